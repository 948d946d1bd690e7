import PyProof.Rows.All
import Wide.All
import OpenK.AllK
import Wide.FinOn
import HandS.ForMost
import HandS.Defaults
import HandS.Walk
import HandS.IsInst
import HandS.Property
import HandS.MakeKwOnly
import HandS.TupAny
import HandS.Style
import HandS.Deep
import HandS.WideBits
import HandS.TupSets
import HandS.HeadHook3
import HandS.HeadEnd
import HandS.Evl
import HandS.ReCall
import HandS.TupLen
import KE.KDictKeyed
import HandS.SetBool
import HandS.DictComp
import HandS.ListItems
import KE.KDictItemsList
import KE.KDictPairs
import KE.GoesEnum
import KE.DataCmp
import HandS.Small
import HandS.Strs
import KE.Datum
import KE.KStateDown
import HandS.Head0
import HandS.Head1
import HandS.Head2
import HandS.HeadHook1
import HandS.HeadHook2
import PySem.Challenge.RW_thirdback_k92_whole_told_things_in_filli
set_option Elab.async false
set_option linter.all false
set_option maxRecDepth 100000
set_option maxHeartbeats 0
/-! ## The head: the places of the program, what its top leaves. -/
namespace TB
open PySem L2 PyProof.Rows
def top (i : Nat) : Stmt := PySem.Challenge.pw_thirdback_k92_whole_told_things_in_filli.main.body.getD i (.Pass ⟨0, 0, 0, 0⟩)
def LET : Str := "abcdefghijklmnopqrstuvwxyz"
def SIG : Str := "abcdefghijklmnopqrstuvwxyz0123456789"
def meth (c i : Nat) : Stmt := match top c with
  | .ClassDef (body := b) .. => b.getD i (.Pass ⟨0, 0, 0, 0⟩)
  | _ => .Pass ⟨0, 0, 0, 0⟩
abbrev I3 := Int × Int × Int
def words : List Str := ["plain", "sides", "front", "back", "round", "all"]
def turnsOf (z : Str) : List I3 :=
  if z = "plain" then [(0, 1, 2)] else if z = "sides" then [(0, 1, 2), (1, 0, 2)] else if z = "front" then [(0, 1, 2), (2, 1, 0)] else if z = "back" then [(0, 1, 2), (0, 2, 1)]
  else if z = "round" then [(0, 1, 2), (1, 2, 0), (2, 0, 1)] else [(0, 1, 2), (0, 2, 1), (1, 0, 2), (1, 2, 0), (2, 0, 1), (2, 1, 0)]
end TB
namespace TbHead
open PySem PyProof.Rows L2 TB
abbrev RowR : PySem.W.OpenRow := PySem.W.OpenLaw.row PySem.Challenge.rw_thirdback_k92_whole_told_things_in_filli
abbrev qv : Program := PySem.W.view RowR.prog [71]
def loose0 : List PySem.Str := ["_wall", "WrongValue", "InvalidText", "InvalidFlag", "InvalidNumber", "InvalidTurns", "InvalidTriple", "NotAKind", "NotACell", "InvalidTriples", "InvalidNames", "InvalidRows", "InvalidLost", "Clash", "MOST_SIDE", "MOST_INNER"]
def loose1 : List PySem.Str := ["MOST_TRIPLES", "MOST_STORED", "MOST_CELLS", "LETTERS", "SIGNS", "LONGEST_NAME", "is_integer", "is_within", "is_name", "is_row", "check_names", "LOTS", "Kind", "check_kind", "keys_of", "table_of"]
def loose2 : List PySem.Str := ["got_things", "check_sides", "check_cell_triples", "Cell", "check_cell", "thing_of", "copies_of", "chain_triples", "check_clash", "kept_things", "check_count", "check_lost", "untold", "_law_cell", "_law_source", "_law_draw"]
def loose3 : List PySem.Str := ["_law_names", "_law_sort", "_law_turns", "_law_thing", "_law_laid", "_law_clashing", "_law_row", "_law_some", "_law_plan", "_law_made", "_law_kept", "_law_rule", "_law_fillings", "_law_holds", "_law_fixed", "_law_right"]
def loose : List PySem.Str := loose0 ++ loose1 ++ loose2 ++ loose3
/-! ### what the head tells -/
def lotP (K : PySem.W.Frag) : Addr := He.ma K (He.ga K "Kind") "lot"
def lotG (K : PySem.W.Frag) : Addr := match PySem.W.recIn K (lotP K) "property" with
  | some (.ref g :: _) => g
  | _ => 0
/-- a keyword's default, an object -/
def kwAt (m x : Str) (K : PySem.W.Frag) : Addr := match K.lookup (He.fAd K ("Cell", some m)) with
  | some ⟨_, _, .func fd, _⟩ => (match fd.kwdefaults with
    | .ref d => (match PySem.W.nsIn K d x with
      | some (some (.ref a)) => a
      | _ => 0)
    | _ => 0)
  | _ => 0
def dF (x : Str) (i : Nat) : He.DefD := ⟨(x, none), x, x, defArgs (top i), defBody (top i), defScope (top i), [], []⟩
def fn0 : List He.DefD := [dF "is_integer" 24, dF "is_within" 25, dF "is_name" 26, dF "is_row" 27, dF "check_kind" 32, dF "keys_of" 34, dF "table_of" 35, dF "got_things" 37, dF "check_sides" 39, dF "check_cell_triples" 40]
def fn1 : List He.DefD := [dF "check_cell" 42, dF "thing_of" 43, dF "copies_of" 44, dF "chain_triples" 45, dF "check_clash" 46, dF "kept_things" 47, dF "check_count" 48, dF "check_lost" 49, dF "untold" 50, dF "_law_cell" 52]
def fn2 : List He.DefD := [dF "_law_source" 53, dF "_law_draw" 54, dF "_law_names" 55, dF "_law_sort" 56, dF "_law_turns" 57, dF "_law_thing" 58, dF "_law_laid" 59, dF "_law_clashing" 60, dF "_law_row" 61, dF "_law_some" 62]
def fn3 : List He.DefD := [dF "_law_plan" 63, dF "_law_made" 64, dF "_law_kept" 65, dF "_law_rule" 66, dF "_law_fillings" 67, dF "_law_holds" 68, dF "_law_fixed" 69, dF "_law_right" 70]
def fnX : List He.DefD := [⟨("check_names", none), "check_names", "check_names", defArgs (top 28), defBody (top 28), defScope (top 28), [.non, .adr (He.dflAt ("check_names", none) 1)], []⟩,
  ⟨("law", none), "law", "law", defArgs (top 71), defBody (top 71), defScope (top 71), [], []⟩,
  ⟨("Kind", some "__init__"), "__init__", "Kind.__init__", defArgs (meth 31 0), defBody (meth 31 0), defScope (meth 31 0), [], [("calm", .bl false)]⟩,
  ⟨("Kind", some "images"), "images", "Kind.images", defArgs (meth 31 3), defBody (meth 31 3), defScope (meth 31 3), [], []⟩,
  ⟨("Cell", some "__init__"), "__init__", "Cell.__init__", defArgs (meth 41 0), defBody (meth 41 0), defScope (meth 41 0), [], [("begin", .adr (kwAt "__init__" "begin")), ("end", .adr (kwAt "__init__" "end"))]⟩]
def fn : List He.DefD := fn0 ++ fn1 ++ fn2 ++ fn3 ++ fnX
def fa0 : List He.Fa := [.glo "is_integer", .glo "is_within", .glo "is_name", .glo "is_row", .glo "check_kind", .glo "keys_of", .glo "table_of", .glo "got_things", .glo "check_sides", .glo "check_cell_triples", .glo "check_cell", .glo "thing_of", .glo "copies_of", .glo "chain_triples", .glo "check_clash", .glo "kept_things"]
def fa1 : List He.Fa := [.glo "check_count", .glo "check_lost", .glo "untold", .glo "_law_cell", .glo "_law_source", .glo "_law_draw", .glo "_law_names", .glo "_law_sort", .glo "_law_turns", .glo "_law_thing", .glo "_law_laid", .glo "_law_clashing", .glo "_law_row", .glo "_law_some", .glo "_law_plan", .glo "_law_made"]
def fa2 : List He.Fa := [.glo "_law_kept", .glo "_law_rule", .glo "_law_fillings", .glo "_law_holds", .glo "_law_fixed", .glo "_law_right", .glo "check_names", .glo "law", .glo "Kind", .glo "Cell", .glo "LOTS", .free "isinstance", .free "int", .free "bool", .free "str", .free "tuple"]
def fa3 : List He.Fa := [.free "list", .free "dict", .free "len", .free "all", .free "enumerate", .free "range", .free "sorted", .free "abs", .free "divmod", .free "min", .free "max", .int "MOST_SIDE" 3, .int "MOST_INNER" 6, .int "MOST_TRIPLES" 8, .int "MOST_STORED" 6, .int "MOST_CELLS" 200]
def fa4 : List He.Fa := [.int "LONGEST_NAME" 8, .str "LETTERS" LET, .str "SIGNS" SIG, .cls "Kind", .cls "Cell", .noat "Kind" "turns", .noat "Kind" "calm", .noat "Cell" "kind", .noat "Cell" "ins", .noat "Cell" "inner", .noat "Cell" "outs", .noat "Cell" "triples", .noat "Cell" "stored", .noat "Cell" "wanted", .noat "Cell" "begin", .noat "Cell" "end"]
def fa5 : List He.Fa := [.meth "Kind" "images", .mkr "Kind", .mkr "Cell"]
def fa : List He.Fa := fa0 ++ fa1 ++ fa2 ++ fa3 ++ fa4 ++ fa5
def ts : List He.Tab := [(fun K => He.ga K "LOTS", words)]
/-- a tuple of the written part -/
def tupV (K : PySem.W.Frag) (a : Addr) : Option (List Value) := match K.lookup a with
  | some ⟨.type c, _, .seq its _, _⟩ => (match decide (c = "tuple") && decide (its.size ≤ sizeLine) with
    | true => some its.toList
    | false => none)
  | _ => none
def t3B (K : PySem.W.Frag) (u : Value) (x : I3) : Bool := match u with
  | .ref a => (match tupV K a with
    | some vs => He.relAll [.int x.1, .int x.2.1, .int x.2.2] vs
    | none => false)
  | _ => false
def t3sB (K : PySem.W.Frag) : List Value → List I3 → Bool
  | [], [] => true
  | u :: us, x :: xs => t3B K u x && t3sB K us xs
  | _, _ => false
def lotB (K : PySem.W.Frag) (z : Str) : Bool := match PySem.W.nsIn K (He.ga K "LOTS") z with
  | some (some (.ref a)) => (match tupV K a with
    | some vs => t3sB K vs (turnsOf z)
    | none => false)
  | _ => false
def emptB (K : PySem.W.Frag) (a : Addr) : Bool := match tupV K a with
  | some vs => vs.isEmpty
  | none => false
def insB (K : PySem.W.Frag) (C : Addr) : Bool := He.eqO (PySem.W.findIn K (.ref C) "__class__") (some (some (.builtin "object.__class__"))) && (decide (PySem.W.mroIn K C (.type "object") = some true) && decide (PySem.W.kitOne K (.ref C) (.ref C) = some true))
def exB (K : PySem.W.Frag) : Bool := insB K (He.ga K "Kind") && (insB K (He.ga K "Cell") && (He.eqO (PySem.W.specialIn K (.builtin "object.__class__") "__get__") (some (some (.builtin "getset_descriptor.__get__"))) && (decide (PySem.W.takesIn K (.builtin "object.__class__") = some true) &&
  (words.all (lotB K) && (emptB K (He.dflAt ("check_names", none) 1 K) && (He.eqO (PySem.W.findIn K (.ref (He.ga K "Kind")) "lot") (some (some (.ref (lotP K)))) && (He.eqO (PySem.W.specialIn K (.ref (lotP K)) "__get__") (some (some (.builtin "property.__get__"))) && (decide (PySem.W.takesIn K (.ref (lotP K)) = some true) &&
  ((match PySem.W.recIn K (lotP K) "property" with | some (.ref g :: _) => decide (g = lotG K) | _ => false) && (PySem.W.keepIn K (.ref (lotG K)) && (match K.lookup (lotG K) with | some ⟨_, _, .func fd, _⟩ => PySem.W.codeIn K fd.code "Kind.lot" && (match fd.defaults with | .none => true | _ => false) | _ => false)))))))))))
def lotW (K : PySem.W.Frag) : He.FnW := match K.lookup (lotG K) with
  | some ⟨_, _, .func fd, _⟩ => some (fd.name, fd.qualname, fd.params, fd.body, fd.scope, fd.globals, fd.closure, fd.builtins)
  | _ => none
def lotV : He.FnW := some ("lot", "Kind.lot", defArgs (meth 31 2), .stmts (defBody (meth 31 2)), defScope (meth 31 2), mainGlobals, [], builtinsNs)
abbrev AlZ : Type := He.AlT × Bool × He.FnW
def obsZ (K : PySem.W.Frag) : AlZ := (He.obsT fa fn ts K, exB K, lotW K)
def valZ (w : World) : AlZ := (He.valT fn ts w, true, lotV)
/-- what is looked at: the module's names, what they name, no further than the facts ask -/
def nextZ (g : Addr → Option Obj) (a : Addr) : List Addr := match g a with
  | some o => (match o.data with
    | .seq its _ => its.toList.flatMap He.refV
    | .dict es _ => es.toList.flatMap fun e => He.refV e.val
    | .func fd => He.refV fd.code ++ He.refV fd.defaults ++ He.refV fd.kwdefaults
    | .cls cd => [cd.ns]
    | .fields vs => (match o.cls with
      | .type n => (match n == "property" with
        | true => vs.toList.flatMap He.refV
        | false => [])
      | _ => [])
    | _ => [])
  | none => []
def reachZ (g : Addr → Option Obj) : Nat → List Addr → List Addr
  | 0, l => l
  | n + 1, l => l ++ reachZ g n (l.flatMap (nextZ g))
def hkZ : PySem.W.Hook where
  α := AlZ
  obs := fun s => obsZ (He.frG s.heap.get? (reachZ s.heap.get? 5 [mainGlobals]))
  val := valZ
  says := fun w h => ∃ K : PySem.W.Frag, K.In h ∧ obsZ K = valZ w
  of := fun _ _ e => ⟨_, He.frG_in, e⟩
  keeps := fun _ _ _ ⟨K, hK, c⟩ k => ⟨K, PySem.W.Frag.In.keeps hK k, c⟩
def ob (s : PySem.W.SharedT) : AlZ := obsZ (He.frG (HandSHeadRun.getT s) (reachZ (HandSHeadRun.getT s) 5 [mainGlobals]))
theorem ob_eq (s : PySem.W.SharedT) : ob s = hkZ.obs s.abs := by
  have e : HandSHeadRun.getT s = s.abs.heap.get? := funext (HandSHeadRun.getT_eq s)
  show obsZ (He.frG (HandSHeadRun.getT s) (reachZ (HandSHeadRun.getT s) 5 [mainGlobals])) = _
  rw [e]
  rfl
theorem run_f (w : World) : HandSHeadRun.RunEq RowR qv hkZ ob 8000 loose (w.withFollow "special-get-raises" false) := by
  intro os
  kernel_rfl
theorem run_t (w : World) : HandSHeadRun.RunEq RowR qv hkZ ob 8000 loose (w.withFollow "special-get-raises" true) := by
  intro os
  kernel_rfl
theorem run (w : World) : HandSHeadRun.RunEq RowR qv hkZ ob 8000 loose w := PySem.W.byRow2 "special-get-raises" (P := fun w => HandSHeadRun.RunEq RowR qv hkZ ob 8000 loose w) run_f run_t w
end TbHead

/-! DL0: facts of values that heaps keep, slots, what a state says of them; the judgements PV, PB, PAs, PD over them. -/
namespace DL
open PySem L2 PyProof.Rows
abbrev Ex := Evl.Ex
/-! ### facts -/
structure Fct where
  p : V → Hp → Prop
  up : ∀ {v : V} {H H' : Hp}, Ex H H' → p v H → p v H'
/-- what stands at an address of our own that is still written -/
structure Own where
  p : Addr → HO → Hp → Prop
  up : ∀ {a : Addr} {o : HO} {H H' : Hp}, Ex H H' → p a o H → p a o H'
inductive Slot where
  | no
  | fz (P : Fct)
  | ow (O : Own)
abbrev Ctx := List Slot
structure Base where
  F0 : Hp
  H0 : Hp
def SlotOk (B : Base) (F H : Hp) : Slot → Option V → Prop
  | .no, _ => True
  | .fz P, ov => ∃ v, ov = some v ∧ P.p v F
  | .ow O, ov => ∃ a o, ov = some (V.ref a) ∧ F a = none ∧ B.H0 a = none ∧ H a = some o ∧ O.p a o F
structure Grow (F H F' H' : Hp) : Prop where
  f : Ex F F'
  h : Ex H H'
  i : Ex F' H'
  o : ∀ b, H b ≠ none → F b = none → F' b = none
theorem Grow.refl {F H : Hp} (i : Ex F H) : Grow F H F H := ⟨Evl.Ex.refl _, Evl.Ex.refl _, i, fun _ _ h => h⟩
theorem Grow.trans {F H F1 H1 F2 H2 : Hp} (a : Grow F H F1 H1) (b : Grow F1 H1 F2 H2) : Grow F H F2 H2 :=
  ⟨a.f.trans b.f, a.h.trans b.h, b.i, fun c h1 h2 => b.o c (fun z => by
    cases e : H c with
    | none => exact h1 e
    | some u =>
      rw [a.h c u e] at z
      cases z) (a.o c h1 h2)⟩
/-- a new object, known to all -/
theorem Grow.new {F H : Hp} (i : Ex F H) {p : Addr} {o : HO} (hp : H p = none) : Grow F H (upd F p o) (upd H p o) := by
  have fp : F p = none := Evl.fresh_back i hp
  refine ⟨Evl.Ex.new fp, Evl.Ex.new hp, fun a u e => ?_, fun b h1 h2 => ?_⟩
  · by_cases h : a = p
    · subst h
      rw [upd_same] at e ⊢
      exact e
    · rw [upd_ne h] at e ⊢
      exact i a u e
  · have hb : b ≠ p := fun z => h1 (z ▸ hp)
    rw [upd_ne hb]
    exact h2
/-- a new object, kept apart -/
theorem Grow.apart {F H : Hp} (i : Ex F H) {p : Addr} {o : HO} (hp : H p = none) : Grow F H F (upd H p o) :=
  ⟨Evl.Ex.refl _, Evl.Ex.new hp, i.trans (Evl.Ex.new hp), fun _ _ h => h⟩
structure Sat (B : Base) (Γ : Ctx) (σ : L2.St) (F H : Hp) : Prop where
  ex : Ex F H
  bF : Ex B.F0 F
  bH : Ex B.H0 H
  off : ∀ b, B.H0 b ≠ none → B.F0 b = none → F b = none
  len : Γ.length = σ.length
  sl : ∀ (i : Nat) (s : Slot) (ov : Option V), Γ[i]? = some s → σ[i]? = some ov → SlotOk B F H s ov
  ap : ∀ (i j : Nat) (O1 O2 : Own) (a : Addr), i ≠ j → Γ[i]? = some (.ow O1) → Γ[j]? = some (.ow O2) → σ[i]? = some (some (.ref a)) → σ[j]? ≠ some (some (.ref a))
section
variable {B : Base} {Γ Γ' : Ctx} {σ : L2.St} {F H F' H' : Hp}
theorem SlotOk.grow {s : Slot} {ov : Option V} (h : SlotOk B F H s ov) (g : Grow F H F' H') : SlotOk B F' H' s ov := by
  cases s with
  | no => trivial
  | fz P =>
    obtain ⟨v, e, q⟩ := h
    exact ⟨v, e, P.up g.f q⟩
  | ow O =>
    obtain ⟨a, o, e, f, b, q, r⟩ := h
    exact ⟨a, o, e, g.o a (by rw [q]; exact fun z => nomatch z) f, b, g.h a o q, O.up g.f r⟩
theorem Sat.grow (S : Sat B Γ σ F H) (g : Grow F H F' H') : Sat B Γ σ F' H' :=
  ⟨g.i, S.bF.trans g.f, S.bH.trans g.h, fun b h1 h2 => g.o b (fun z => by
    cases e : B.H0 b with
    | none => exact h1 e
    | some u =>
      rw [S.bH b u e] at z
      cases z) (S.off b h1 h2), S.len, fun i s ov e1 e2 => (S.sl i s ov e1 e2).grow g, S.ap⟩
theorem Sat.get {i : Nat} {P : Fct} (S : Sat B Γ σ F H) (h : Γ[i]? = some (.fz P)) : ∃ v, σ[i]? = some (some v) ∧ P.p v F := by
  have hi : i < σ.length := by
    rw [← S.len]
    exact (List.getElem?_eq_some_iff.mp h).1
  have e : σ[i]? = some σ[i] := List.getElem?_eq_getElem hi
  obtain ⟨v, e2, q⟩ := S.sl i _ _ h e
  rw [e2] at e
  exact ⟨v, e, q⟩
theorem Sat.getO {i : Nat} {O : Own} (S : Sat B Γ σ F H) (h : Γ[i]? = some (.ow O)) : ∃ a o, σ[i]? = some (some (.ref a)) ∧ F a = none ∧ B.H0 a = none ∧ H a = some o ∧ O.p a o F := by
  have hi : i < σ.length := by
    rw [← S.len]
    exact (List.getElem?_eq_some_iff.mp h).1
  have e : σ[i]? = some σ[i] := List.getElem?_eq_getElem hi
  obtain ⟨a, o, e2, q⟩ := S.sl i _ _ h e
  rw [e2] at e
  exact ⟨a, o, e, q⟩
/-- a slot takes a value that is known -/
theorem Sat.set {i : Nat} {P : Fct} {v : V} (S : Sat B Γ σ F H) (h : P.p v F) : Sat B (Γ.set i (.fz P)) (σ.set i (some v)) F H := by
  refine ⟨S.ex, S.bF, S.bH, S.off, by rw [List.length_set, List.length_set]; exact S.len, fun j s ov e1 e2 => ?_, fun j k O1 O2 a hjk e1 e2 e3 e4 => ?_⟩
  · by_cases hj : i = j
    · subst hj
      have hi : i < Γ.length := by
        have := (List.getElem?_eq_some_iff.mp e1).1
        rw [List.length_set] at this
        exact this
      rw [List.getElem?_set_self hi] at e1
      rw [List.getElem?_set_self (by rw [← S.len]; exact hi)] at e2
      cases e1
      cases e2
      exact ⟨v, rfl, h⟩
    · rw [List.getElem?_set_ne hj] at e1 e2
      exact S.sl j s ov e1 e2
  · have n1 : i ≠ j := fun z => by
      subst z
      have hi : i < Γ.length := by
        have := (List.getElem?_eq_some_iff.mp e1).1
        rw [List.length_set] at this
        exact this
      rw [List.getElem?_set_self hi] at e1
      cases e1
    have n2 : i ≠ k := fun z => by
      subst z
      have hi : i < Γ.length := by
        have := (List.getElem?_eq_some_iff.mp e2).1
        rw [List.length_set] at this
        exact this
      rw [List.getElem?_set_self hi] at e2
      cases e2
    rw [List.getElem?_set_ne n1] at e1 e3
    rw [List.getElem?_set_ne n2] at e2 e4
    exact S.ap j k O1 O2 a hjk e1 e2 e3 e4
/-- a slot takes the address of a new object of our own -/
theorem Sat.setO {i : Nat} {O : Own} {a : Addr} {o : HO} (S : Sat B Γ σ F H) (hn : H a = none) (h : O.p a o F) : Sat B (Γ.set i (.ow O)) (σ.set i (some (.ref a))) F (upd H a o) := by
  have S' := S.grow (Grow.apart (o := o) S.ex hn)
  have old : ∀ (j : Nat) (O1 : Own), Γ[j]? = some (.ow O1) → σ[j]? ≠ some (some (.ref a)) := fun j O1 e z => by
    obtain ⟨b, u, e1, _, _, e2, _⟩ := S.getO e
    rw [e1] at z
    injection z with z
    injection z with z
    injection z with z
    rw [z, hn] at e2
    cases e2
  refine ⟨S'.ex, S'.bF, S'.bH, S'.off, by rw [List.length_set, List.length_set]; exact S.len, fun j s ov e1 e2 => ?_, fun j k O1 O2 b hjk e1 e2 e3 e4 => ?_⟩
  · by_cases hj : i = j
    · subst hj
      have hi : i < Γ.length := by
        have := (List.getElem?_eq_some_iff.mp e1).1
        rw [List.length_set] at this
        exact this
      rw [List.getElem?_set_self hi] at e1
      rw [List.getElem?_set_self (by rw [← S.len]; exact hi)] at e2
      cases e1
      cases e2
      refine ⟨a, o, rfl, Evl.fresh_back S.ex hn, Evl.fresh_back S.bH hn, upd_same, h⟩
    · rw [List.getElem?_set_ne hj] at e1 e2
      exact S'.sl j s ov e1 e2
  · have key : ∀ (m : Nat) (O3 : Own), (Γ.set i (.ow O))[m]? = some (.ow O3) → i ≠ m → Γ[m]? = some (.ow O3) := fun m O3 e hm => by
      rw [List.getElem?_set_ne hm] at e
      exact e
    by_cases hj : i = j
    · subst hj
      have hi : i < Γ.length := by
        have := (List.getElem?_eq_some_iff.mp e1).1
        rw [List.length_set] at this
        exact this
      rw [List.getElem?_set_self (by rw [← S.len]; exact hi)] at e3
      injection e3 with e3
      injection e3 with e3
      injection e3 with e3
      subst e3
      rw [List.getElem?_set_ne hjk] at e4
      exact old k O2 (key k O2 e2 hjk) e4
    · by_cases hk : i = k
      · subst hk
        have hi : i < Γ.length := by
          have := (List.getElem?_eq_some_iff.mp e2).1
          rw [List.length_set] at this
          exact this
        rw [List.getElem?_set_self (by rw [← S.len]; exact hi)] at e4
        injection e4 with e4
        injection e4 with e4
        injection e4 with e4
        subst e4
        rw [List.getElem?_set_ne hj] at e3
        exact old j O1 (key j O1 e1 hj) e3
      · rw [List.getElem?_set_ne hj] at e1 e3
        rw [List.getElem?_set_ne hk] at e2 e4
        exact S.ap j k O1 O2 b hjk e1 e2 e3 e4
/-- what an own object holds is written anew -/
theorem Sat.write {i : Nat} {O O' : Own} {a : Addr} {o' : HO} (S : Sat B Γ σ F H) (hO : Γ[i]? = some (.ow O)) (ha : σ[i]? = some (some (.ref a))) (h : O'.p a o' F) : Sat B (Γ.set i (.ow O')) σ F (upd H a o') := by
  obtain ⟨b, u, e1, e2, e3, e4, e5⟩ := S.getO hO
  have eb : b = a := by
    rw [ha] at e1
    injection e1 with e1
    injection e1 with e1
    injection e1 with e1
    exact e1.symm
  subst eb
  have hi : i < Γ.length := (List.getElem?_eq_some_iff.mp hO).1
  refine ⟨fun c w e => ?_, S.bF, fun c w e => ?_, S.off, by rw [List.length_set]; exact S.len, fun j s ov q1 q2 => ?_, fun j k O1 O2 c hjk q1 q2 q3 q4 => ?_⟩
  · rw [upd_ne (ne_of_none e e2)]
    exact S.ex c w e
  · rw [upd_ne (ne_of_none e e3)]
    exact S.bH c w e
  · by_cases hj : i = j
    · subst hj
      rw [List.getElem?_set_self hi] at q1
      cases q1
      rw [ha] at q2
      cases q2
      exact ⟨b, o', rfl, e2, e3, upd_same, h⟩
    · rw [List.getElem?_set_ne hj] at q1
      have z := S.sl j s ov q1 q2
      cases s with
      | no => trivial
      | fz P => exact z
      | ow O3 =>
        obtain ⟨c, w, z1, z2, z3, z4, z5⟩ := z
        subst z1
        have nc : c ≠ b := fun zz => by
          subst zz
          exact S.ap i j O O3 c hj hO q1 ha q2
        exact ⟨c, w, rfl, z2, z3, by rw [upd_ne nc]; exact z4, z5⟩
  · have key : ∀ (m : Nat) (O3 : Own), (Γ.set i (.ow O'))[m]? = some (.ow O3) → ∃ O4, Γ[m]? = some (.ow O4) := fun m O3 e => by
      by_cases hm : i = m
      · subst hm
        exact ⟨O, hO⟩
      · rw [List.getElem?_set_ne hm] at e
        exact ⟨O3, e⟩
    obtain ⟨O4, q5⟩ := key j O1 q1
    obtain ⟨O6, q6⟩ := key k O2 q2
    exact S.ap j k O4 O6 c hjk q5 q6 q3 q4
/-- the fact of an own object that is written no more -/
def Own.fct (O : Own) : Fct where
  p := fun v H => ∃ a o, v = .ref a ∧ H a = some o ∧ O.p a o H
  up := fun e h => by
    obtain ⟨a, o, h1, h2, h3⟩ := h
    exact ⟨a, o, h1, e a o h2, O.up e h3⟩
/-- an own object becomes known to all -/
theorem Sat.freeze {i : Nat} {O : Own} (S : Sat B Γ σ F H) (hO : Γ[i]? = some (.ow O)) : ∃ F', Ex F F' ∧ Sat B (Γ.set i (.fz O.fct)) σ F' H := by
  obtain ⟨a, o, e1, e2, e3, e4, e5⟩ := S.getO hO
  have hi : i < Γ.length := (List.getElem?_eq_some_iff.mp hO).1
  have exF : Ex F (upd F a o) := Evl.Ex.new e2
  refine ⟨upd F a o, exF, fun c w e => ?_, S.bF.trans exF, S.bH, fun c h1 h2 => ?_, by rw [List.length_set]; exact S.len, fun j s ov q1 q2 => ?_, fun j k O1 O2 c hjk q1 q2 q3 q4 => ?_⟩
  · by_cases hc : c = a
    · subst hc
      rw [upd_same] at e
      cases e
      exact e4
    · rw [upd_ne hc] at e
      exact S.ex c w e
  · have hc : c ≠ a := fun z => h1 (z ▸ e3)
    rw [upd_ne hc]
    exact S.off c h1 h2
  · by_cases hj : i = j
    · subst hj
      rw [List.getElem?_set_self hi] at q1
      cases q1
      rw [e1] at q2
      cases q2
      exact ⟨.ref a, rfl, a, o, rfl, upd_same, O.up exF e5⟩
    · rw [List.getElem?_set_ne hj] at q1
      have z := S.sl j s ov q1 q2
      cases s with
      | no => trivial
      | fz P =>
        obtain ⟨v, z1, z2⟩ := z
        exact ⟨v, z1, P.up exF z2⟩
      | ow O3 =>
        obtain ⟨c, w, z1, z2, z3, z4, z5⟩ := z
        subst z1
        have nc : c ≠ a := fun zz => by
          subst zz
          exact S.ap i j O O3 c hj hO q1 e1 q2
        exact ⟨c, w, rfl, by rw [upd_ne nc]; exact z2, z3, z4, O3.up exF z5⟩
  · have key : ∀ (m : Nat) (O3 : Own), (Γ.set i (.fz O.fct))[m]? = some (.ow O3) → Γ[m]? = some (.ow O3) := fun m O3 e => by
      by_cases hm : i = m
      · subst hm
        rw [List.getElem?_set_self hi] at e
        cases e
      · rw [List.getElem?_set_ne hm] at e
        exact e
    exact S.ap j k O1 O2 c hjk (key j O1 q1) (key k O2 q2) q3 q4
/-- less is known of the slots -/
def Weak (Γ Γ' : Ctx) : Prop := Γ'.length = Γ.length ∧ ∀ (i : Nat) (s' : Slot), Γ'[i]? = some s' → s' = .no ∨ Γ[i]? = some s' ∨ ∃ P P', s' = .fz P' ∧ Γ[i]? = some (.fz P) ∧ ∀ v H, P.p v H → P'.p v H
theorem Sat.weak (S : Sat B Γ σ F H) (w : Weak Γ Γ') : Sat B Γ' σ F H := by
  obtain ⟨wl, w⟩ := w
  refine ⟨S.ex, S.bF, S.bH, S.off, wl.trans S.len, fun i s ov e1 e2 => ?_, fun j k O1 O2 c hjk q1 q2 q3 q4 => ?_⟩
  · rcases w i s e1 with rfl | h | ⟨P, P', rfl, h, hp⟩
    · trivial
    · exact S.sl i s ov h e2
    · obtain ⟨v, e, q⟩ := S.sl i _ ov h e2
      exact ⟨v, e, hp _ _ q⟩
  · have key : ∀ (m : Nat) (O3 : Own), Γ'[m]? = some (.ow O3) → Γ[m]? = some (.ow O3) := fun m O3 e => by
      rcases w m _ e with h | h | ⟨P, P', h, _⟩
      · cases h
      · exact h
      · cases h
    exact S.ap j k O1 O2 c hjk (key j O1 q1) (key k O2 q2) q3 q4
/-- slots forgotten, as a comprehension's block forgets them -/
def wipeC (Γ : Ctx) : List Nat → Ctx
  | [] => Γ
  | v :: vs => (wipeC Γ vs).set v .no
theorem wipeC_length : ∀ vs : List Nat, (wipeC Γ vs).length = Γ.length
  | [] => rfl
  | v :: vs => by unfold wipeC; rw [List.length_set, wipeC_length vs]
theorem Sat.setNo {i : Nat} {ov : Option V} (S : Sat B Γ σ F H) : Sat B (Γ.set i .no) (σ.set i ov) F H := by
  refine ⟨S.ex, S.bF, S.bH, S.off, by rw [List.length_set, List.length_set]; exact S.len, fun j s ov' e1 e2 => ?_, fun j k O1 O2 a hjk e1 e2 e3 e4 => ?_⟩
  · by_cases hj : i = j
    · subst hj
      have hi : i < Γ.length := by
        have := (List.getElem?_eq_some_iff.mp e1).1
        rw [List.length_set] at this
        exact this
      rw [List.getElem?_set_self hi] at e1
      cases e1
      trivial
    · rw [List.getElem?_set_ne hj] at e1 e2
      exact S.sl j s ov' e1 e2
  · have n : ∀ (m : Nat) (O3 : Own), (Γ.set i .no)[m]? = some (.ow O3) → i ≠ m := fun m O3 e z => by
      subst z
      have hi : i < Γ.length := by
        have := (List.getElem?_eq_some_iff.mp e).1
        rw [List.length_set] at this
        exact this
      rw [List.getElem?_set_self hi] at e
      cases e
    have n1 := n j O1 e1
    have n2 := n k O2 e2
    rw [List.getElem?_set_ne n1] at e1 e3
    rw [List.getElem?_set_ne n2] at e2 e4
    exact S.ap j k O1 O2 a hjk e1 e2 e3 e4
theorem Sat.wipe (S : Sat B Γ σ F H) : ∀ vs : List Nat, Sat B (wipeC Γ vs) (L2.wipe σ vs) F H
  | [] => S
  | v :: vs => by
    unfold wipeC L2.wipe
    exact (S.wipe vs).setNo
end
/-! ### lists of facts -/
abbrev AllP (vs : List V) (Ps : List Fct) (F : Hp) : Prop := Paired (fun v (P : Fct) => P.p v F) vs Ps
theorem AllP.up {F F' : Hp} (e : Ex F F') : ∀ {vs : List V} {Ps : List Fct}, AllP vs Ps F → AllP vs Ps F'
  | _, _, .nil => .nil
  | _, _, .cons (b := P) h t => .cons (P.up e h) (AllP.up e t)
theorem AllP.length {F : Hp} {vs : List V} {Ps : List Fct} (h : AllP vs Ps F) : vs.length = Ps.length := Paired.length h
theorem AllP.append {F : Hp} : ∀ {vs ws : List V} {Ps Qs : List Fct}, AllP vs Ps F → AllP ws Qs F → AllP (vs ++ ws) (Ps ++ Qs) F
  | _, _, _, _, .nil, h => h
  | _, _, _, _, .cons h t, h2 => .cons h (AllP.append t h2)
theorem AllP.get {F : Hp} : ∀ {vs : List V} {Ps : List Fct} {i : Nat} {v : V}, AllP vs Ps F → vs[i]? = some v → ∃ P, Ps[i]? = some P ∧ P.p v F
  | _, _, _, _, .nil, e => by simp at e
  | _, _, 0, v, .cons h _, e => by simp at e; subst e; exact ⟨_, rfl, h⟩
  | _, _, i + 1, v, .cons _ t, e => by
    obtain ⟨P, h1, h2⟩ := AllP.get (i := i) (v := v) t (by simpa using e)
    exact ⟨P, by simpa using h1, h2⟩
theorem AllP.get2 {F : Hp} : ∀ {vs : List V} {Ps : List Fct} {i : Nat} {P : Fct}, AllP vs Ps F → Ps[i]? = some P → ∃ v, vs[i]? = some v ∧ P.p v F
  | _, _, _, _, .nil, e => by simp at e
  | _, _, 0, v, .cons h _, e => by simp at e; subst e; exact ⟨_, rfl, h⟩
  | _, _, i + 1, v, .cons _ t, e => by
    obtain ⟨P, h1, h2⟩ := AllP.get2 (i := i) (P := v) t (by simpa using e)
    exact ⟨P, by simpa using h1, h2⟩
theorem AllP.take {F : Hp} : ∀ {vs : List V} {Ps : List Fct} (n : Nat), AllP vs Ps F → AllP (vs.take n) (Ps.take n) F
  | _, _, 0, _ => .nil
  | _, _, _ + 1, .nil => .nil
  | _, _, n + 1, .cons h t => .cons h (AllP.take n t)
theorem AllP.drop {F : Hp} : ∀ {vs : List V} {Ps : List Fct} (n : Nat), AllP vs Ps F → AllP (vs.drop n) (Ps.drop n) F
  | _, _, 0, h => h
  | _, _, _ + 1, .nil => .nil
  | _, _, n + 1, .cons _ t => AllP.drop n t
theorem AllP.reverse {F : Hp} {vs : List V} {Ps : List Fct} (h : AllP vs Ps F) : AllP vs.reverse Ps.reverse F := by
  induction h with
  | nil => exact .nil
  | cons h t ih =>
    rw [List.reverse_cons, List.reverse_cons]
    exact AllP.append ih (.cons h .nil)
theorem AllP.set {F : Hp} {v : V} {P : Fct} (h : P.p v F) : ∀ {vs : List V} {Ps : List Fct} (i : Nat), AllP vs Ps F → AllP (vs.set i v) (Ps.set i P) F
  | _, _, _, .nil => .nil
  | _, _, 0, .cons _ t => .cons h t
  | _, _, i + 1, .cons q t => .cons q (AllP.set h i t)
theorem AllP.dropLast {F : Hp} {vs : List V} {Ps : List Fct} (h : AllP vs Ps F) : AllP vs.dropLast Ps.dropLast F := by
  rw [List.dropLast_eq_take, List.dropLast_eq_take, h.length]
  exact h.take _
/-! ### the facts of plain values -/
def fV (x : V) : Fct := ⟨fun v _ => v = x, fun _ h => h⟩
abbrev fInt (i : Int) : Fct := fV (.int i)
abbrev fBl (b : Bool) : Fct := fV (.bl b)
abbrev fStr (z : Str) : Fct := fV (.str z)
abbrev fNon : Fct := fV .non
abbrev fTy (n : String) : Fct := fV (.ty n)
abbrev fRef (a : Addr) : Fct := fV (.ref a)
def fTup (K : PySem.W.Frag) (Ps : List Fct) : Fct := ⟨fun v H => ∃ a xs, v = .ref a ∧ SqT K H a xs ∧ AllP xs Ps H, fun e h => by
  obtain ⟨a, xs, h1, h2, h3⟩ := h
  exact ⟨a, xs, h1, Evl.ex_t e h2, h3.up e⟩⟩
def fLst (K : PySem.W.Frag) (Ps : List Fct) : Fct := ⟨fun v H => ∃ a xs, v = .ref a ∧ H a = some (.lst xs) ∧ AllP xs Ps H, fun e h => by
  obtain ⟨a, xs, h1, h2, h3⟩ := h
  exact ⟨a, xs, h1, e a _ h2, h3.up e⟩⟩
/-- an instance of the class at C: its attributes -/
def fIns (C : Addr) (fs : List (Str × Fct)) : Fct := ⟨fun v H => ∃ a dx gs, v = .ref a ∧ H a = some (.ins C dx gs) ∧ gs.map (·.1) = fs.map (·.1) ∧ AllP (gs.map (·.2)) (fs.map (·.2)) H, fun e h => by
  obtain ⟨a, dx, gs, h1, h2, h3, h4⟩ := h
  exact ⟨a, dx, gs, h1, e a _ h2, h3, h4.up e⟩⟩
def oLst (Ps : List Fct) : Own := ⟨fun _ o F => ∃ xs, o = .lst xs ∧ AllP xs Ps F, fun e h => by
  obtain ⟨xs, h1, h2⟩ := h
  exact ⟨xs, h1, h2.up e⟩⟩
def oDK (kvs : List (Key × Fct)) : Own := ⟨fun _ o F => ∃ ws : List (Key × V), o = .dK ws ∧ ws.map (·.1) = kvs.map (·.1) ∧ AllP (ws.map (·.2)) (kvs.map (·.2)) F, fun e h => by
  obtain ⟨ws, h1, h2, h3⟩ := h
  exact ⟨ws, h1, h2, h3.up e⟩⟩
theorem oLst_fz {K : PySem.W.Frag} {Ps : List Fct} {v : V} {H : Hp} (h : (oLst Ps).fct.p v H) : (fLst K Ps).p v H := by
  obtain ⟨a, o, h1, h2, xs, h3, h4⟩ := h
  subst h3
  exact ⟨a, xs, h1, h2, h4⟩
end DL

/-! DL1: the judgements over facts, and the rules that every def uses. -/
namespace DL
open PySem L2 PyProof.Rows
section
variable (X : Cx)
def wpE (e : Expr) : TE := fun σ H Q => ∀ pins s, Inv X pins σ H s → wpAny (model X.prog X.w) X.A (eval e X.env) (EP X pins σ Q) X.xe s
def wpT (e : Expr) : TT := fun σ H Q => ∀ pins s, Inv X pins σ H s → wpAny (model X.prog X.w) X.A (isTrue e X.env (eval e X.env)) (TP X pins σ Q) X.xe s
def wpW (e : Expr) : TT := fun σ H Q => ∀ whole pins s, Inv X pins σ H s → wpAny (model X.prog X.w) X.A (isTrue e X.env whole) (TP X pins σ Q) X.xe s
def wpA (es : List Expr) : TA := fun σ H Q => ∀ pos pins s, Inv X pins σ H s → wpAny (model X.prog X.w) X.A (spliced (backTo pos (starEach es X.env))) (AP X pins σ Q) X.xe s
def wpS (st : Stmt) : TS := fun D σ H => ∀ pins s, Inv X pins σ H s → wpAny (model X.prog X.w) X.A (exec st X.env) (SP X pins D) X.xe s
def wpSs (st : List Stmt) : TS := fun D σ H => ∀ pins s, Inv X pins σ H s → wpAny (model X.prog X.w) X.A (execs st X.env) (SP X pins D) X.xe s
def wpI (tg iter : Expr) : TI := fun σ H R => ∀ pins s, Inv X pins σ H s → wpAny (model X.prog X.w) X.A (eval iter X.env) (fun v s1 => wpAny (model X.prog X.w) X.A (pyIter v) (PIE X pins σ tg R) X.xe s1) X.xe s
variable {X}
theorem pe_wp {e : Expr} : PE X e (wpE X e) := ⟨fun pins s _ _ _ I h => h pins s I⟩
theorem pt_wp {e : Expr} : PT X e (wpT X e) := ⟨fun pins s _ _ _ I h => h pins s I⟩
theorem pw_wp {e : Expr} : PW X e (wpW X e) := ⟨fun wh pins s _ _ _ I h => h wh pins s I⟩
theorem pa_wp {es : List Expr} : PA X es (wpA X es) := ⟨fun pos pins s _ _ _ I h => h pos pins s I⟩
theorem ps_wp {st : Stmt} : PS X st (wpS X st) := ⟨fun pins s _ _ _ I h => h pins s I⟩
theorem pss_wp {st : List Stmt} : PSs X st (wpSs X st) := ⟨fun pins s _ _ _ I h => h pins s I⟩
theorem pi_wp {tg iter : Expr} : PI X tg iter (wpI X tg iter) := ⟨fun pins s _ _ _ I h => h pins s I⟩
theorem wpE_of {e : Expr} {t : TE} (h : PE X e t) {σ : L2.St} {H : Hp} {Q : VK} (q : t σ H Q) : wpE X e σ H Q := fun pins s I => h.run pins s σ H Q I q
theorem wpT_of {e : Expr} {t : TT} (h : PT X e t) {σ : L2.St} {H : Hp} {Q : Bool → Hp → Prop} (q : t σ H Q) : wpT X e σ H Q := fun pins s I => h.run pins s σ H Q I q
theorem wpW_of {e : Expr} {t : TT} (h : PW X e t) {σ : L2.St} {H : Hp} {Q : Bool → Hp → Prop} (q : t σ H Q) : wpW X e σ H Q := fun wh pins s I => h.run wh pins s σ H Q I q
theorem wpA_of {es : List Expr} {t : TA} (h : PA X es t) {σ : L2.St} {H : Hp} {Q : List V → Hp → Prop} (q : t σ H Q) : wpA X es σ H Q := fun pos pins s I => h.run pos pins s σ H Q I q
theorem wpS_of {st : Stmt} {t : TS} (h : PS X st t) {σ : L2.St} {H : Hp} {D : Ends} (q : t D σ H) : wpS X st D σ H := fun pins s I => h.run pins s σ H D I q
theorem wpSs_of {st : List Stmt} {t : TS} (h : PSs X st t) {σ : L2.St} {H : Hp} {D : Ends} (q : t D σ H) : wpSs X st D σ H := fun pins s I => h.run pins s σ H D I q
theorem wpI_of {tg iter : Expr} {t : TI} (h : PI X tg iter t) {σ : L2.St} {H : Hp} {R : It → Hp → Prop} (q : t σ H R) : wpI X tg iter σ H R := fun pins s I => h.run pins s σ H R I q
theorem wpE_mono {e : Expr} {σ : L2.St} {H : Hp} {Q Q' : VK} (h : wpE X e σ H Q) (m : ∀ v H', Q v H' → Q' v H') : wpE X e σ H Q' := fun pins s I =>
  thn (h pins s I) fun u s' ⟨v, H', I', r, q⟩ => ⟨v, H', I', r, m v H' q⟩
theorem wpT_mono {e : Expr} {σ : L2.St} {H : Hp} {Q Q' : Bool → Hp → Prop} (h : wpT X e σ H Q) (m : ∀ v H', Q v H' → Q' v H') : wpT X e σ H Q' := fun pins s I =>
  thn (h pins s I) fun b s' ⟨H', I', q⟩ => ⟨H', I', m b H' q⟩
theorem wpW_mono {e : Expr} {σ : L2.St} {H : Hp} {Q Q' : Bool → Hp → Prop} (h : wpW X e σ H Q) (m : ∀ v H', Q v H' → Q' v H') : wpW X e σ H Q' := fun wh pins s I =>
  thn (h wh pins s I) fun b s' ⟨H', I', q⟩ => ⟨H', I', m b H' q⟩
theorem wpA_mono {es : List Expr} {σ : L2.St} {H : Hp} {Q Q' : List V → Hp → Prop} (h : wpA X es σ H Q) (m : ∀ v H', Q v H' → Q' v H') : wpA X es σ H Q' := fun pos pins s I =>
  thn (h pos pins s I) fun u s' ⟨v, H', I', r, q⟩ => ⟨v, H', I', r, m v H' q⟩
theorem wpI_mono {tg iter : Expr} {σ : L2.St} {H : Hp} {Q Q' : It → Hp → Prop} (h : wpI X tg iter σ H Q) (m : ∀ v H', Q v H' → Q' v H') : wpI X tg iter σ H Q' := fun pins s I =>
  thn (h pins s I) fun v s1 h1 => thn h1 fun u s' ⟨it, fp, tn, J, H', e, I', t, t0, f, q⟩ => ⟨it, fp, tn, J, H', e, I', t, t0, f, m J H' q⟩
structure EndsLe (D D' : Ends) : Prop where
  nx : ∀ σ H, D.nx σ H → D'.nx σ H
  rt : ∀ v H, D.rt v H → D'.rt v H
  bk : ∀ σ H, D.bk σ H → D'.bk σ H
  ct : ∀ σ H, D.ct σ H → D'.ct σ H
theorem SP_mono {pins : List (Addr × Obj)} {D D' : Ends} (m : EndsLe D D') {f : Flow} {s : Shared} (h : SP X pins D f s) : SP X pins D' f s := by
  cases f with
  | next => obtain ⟨σ, H, I, q⟩ := h; exact ⟨σ, H, I, m.nx _ _ q⟩
  | brk => obtain ⟨σ, H, I, q⟩ := h; exact ⟨σ, H, I, m.bk _ _ q⟩
  | cont => obtain ⟨σ, H, I, q⟩ := h; exact ⟨σ, H, I, m.ct _ _ q⟩
  | ret u => obtain ⟨v, σ, H, I, r, q⟩ := h; exact ⟨v, σ, H, I, r, m.rt _ _ q⟩
theorem wpS_mono {st : Stmt} {σ : L2.St} {H : Hp} {D D' : Ends} (h : wpS X st D σ H) (m : EndsLe D D') : wpS X st D' σ H := fun pins s I => thn (h pins s I) fun _ _ q => SP_mono m q
theorem wpSs_mono {st : List Stmt} {σ : L2.St} {H : Hp} {D D' : Ends} (h : wpSs X st D σ H) (m : EndsLe D D') : wpSs X st D' σ H := fun pins s I => thn (h pins s I) fun _ _ q => SP_mono m q
end
/-! ### the judgements -/
structure DE where
  nx : Ctx → Prop
  rt : Fct → Prop
  bk : Ctx → Prop := fun _ => False
  ct : Ctx → Prop := fun _ => False
structure OutB (B : Base) (F H : Hp) : Prop where
  ex : Ex F H
  bF : Ex B.F0 F
  bH : Ex B.H0 H
  off : ∀ b, B.H0 b ≠ none → B.F0 b = none → F b = none
theorem Sat.out {B : Base} {Γ : Ctx} {σ : L2.St} {F H : Hp} (S : Sat B Γ σ F H) : OutB B F H := ⟨S.ex, S.bF, S.bH, S.off⟩
def conc (B : Base) (D : DE) : Ends where
  nx := fun σ H => ∃ Γ F, D.nx Γ ∧ Sat B Γ σ F H
  rt := fun v H => ∃ P F, D.rt P ∧ P.p v F ∧ OutB B F H
  bk := fun σ H => ∃ Γ F, D.bk Γ ∧ Sat B Γ σ F H
  ct := fun σ H => ∃ Γ F, D.ct Γ ∧ Sat B Γ σ F H
section
variable (X : Cx)
def PV (e : Expr) (Γ : Ctx) (W : Fct → Ctx → Prop) : Prop := ∀ B σ F H, Sat B Γ σ F H → wpE X e σ H fun v H' => ∃ F' P Γ', W P Γ' ∧ P.p v F' ∧ Ex F F' ∧ Sat B Γ' σ F' H'
def PB (e : Expr) (Γ : Ctx) (W : Bool → Ctx → Prop) : Prop := ∀ B σ F H, Sat B Γ σ F H → wpT X e σ H fun b H' => ∃ F' Γ', W b Γ' ∧ Ex F F' ∧ Sat B Γ' σ F' H'
def PBw (e : Expr) (Γ : Ctx) (W : Bool → Ctx → Prop) : Prop := ∀ B σ F H, Sat B Γ σ F H → wpW X e σ H fun b H' => ∃ F' Γ', W b Γ' ∧ Ex F F' ∧ Sat B Γ' σ F' H'
def PAs (es : List Expr) (Γ : Ctx) (W : List Fct → Ctx → Prop) : Prop := ∀ B σ F H, Sat B Γ σ F H → wpA X es σ H fun vs H' => ∃ F' Ps Γ', W Ps Γ' ∧ AllP vs Ps F' ∧ Ex F F' ∧ Sat B Γ' σ F' H'
def P1 (st : Stmt) (Γ : Ctx) (D : DE) : Prop := ∀ B σ F H, Sat B Γ σ F H → wpS X st (conc B D) σ H
def PD (st : List Stmt) (Γ : Ctx) (D : DE) : Prop := ∀ B σ F H, Sat B Γ σ F H → wpSs X st (conc B D) σ H
/-- what an iterator gives, while F stands -/
def DW (F : Hp) (J : It) (Ps : List Fct) : Prop := ∃ (G : Hp → Prop) (Y : Nat → Hp → V → Hp → Prop), Walk J Ps.length G Y ∧ (∀ H, Ex F H → G H) ∧
  ∀ (i : Nat) (P : Fct) (H : Hp) (x : V) (H' F1 : Hp), Ex F F1 → Ex F1 H → Ps[i]? = some P → Y i H x H' → ∃ F2, P.p x F2 ∧ Grow F1 H F2 H'
def DI (tg iter : Expr) (Γ : Ctx) (W : List Fct → Ctx → Prop) : Prop := ∀ B σ F H, Sat B Γ σ F H → wpI X tg iter σ H fun J H' => ∃ F' Ps Γ', W Ps Γ' ∧ DW F' J Ps ∧ Ex F F' ∧ Sat B Γ' σ F' H'
end
/-- a target takes a value -/
def DT (g : TG) (Γ : Ctx) (P : Fct) (W : Ctx → Prop) : Prop := ∀ B σ F H v, Sat B Γ σ F H → P.p v F → ∀ Q : L2.St → Hp → Prop, (∀ σ' Γ', W Γ' → Sat B Γ' σ' F H → Q σ' H) → g v σ H Q
section
variable {X : Cx} {Γ : Ctx} {e a b : Expr} {pos : Pos} {W : Fct → Ctx → Prop} {WB : Bool → Ctx → Prop}
theorem PV.imp {W' : Fct → Ctx → Prop} (h : PV X e Γ W) (m : ∀ P Γ', W P Γ' → W' P Γ') : PV X e Γ W' := fun B σ F H S => wpE_mono (h B σ F H S) fun v H' ⟨F', P, Γ', w, p, ex, S'⟩ => ⟨F', P, Γ', m P Γ' w, p, ex, S'⟩
theorem PB.imp {W' : Bool → Ctx → Prop} (h : PB X e Γ WB) (m : ∀ P Γ', WB P Γ' → W' P Γ') : PB X e Γ W' := fun B σ F H S => wpT_mono (h B σ F H S) fun v H' ⟨F', Γ', w, ex, S'⟩ => ⟨F', Γ', m v Γ' w, ex, S'⟩
/-- less is known -/
theorem PV.weak {Γ' : Ctx} (w : Weak Γ Γ') (h : PV X e Γ' W) : PV X e Γ W := fun B σ F H S => h B σ F H (S.weak w)
theorem PD.weak {Γ' : Ctx} {sts : List Stmt} {D : DE} (w : Weak Γ Γ') (h : PD X sts Γ' D) : PD X sts Γ D := fun B σ F H S => h B σ F H (S.weak w)
theorem PD.freeze {sts : List Stmt} {D : DE} {i : Nat} {O : Own} (hO : Γ[i]? = some (.ow O)) (h : PD X sts (Γ.set i (.fz O.fct)) D) : PD X sts Γ D := fun B σ F H S => by
  obtain ⟨F', _, S'⟩ := S.freeze hO
  exact h B σ F' H S'
theorem PV.freeze {i : Nat} {O : Own} (hO : Γ[i]? = some (.ow O)) (h : PV X e (Γ.set i (.fz O.fct)) W) : PV X e Γ W := fun B σ F H S => by
  obtain ⟨F', ex, S'⟩ := S.freeze hO
  exact wpE_mono (h B σ F' H S') fun v H' ⟨F2, P, Γ', w, p, ex2, S2⟩ => ⟨F2, P, Γ', w, p, ex.trans ex2, S2⟩
theorem v_of {t : TE} (he : PE X e t) (h : ∀ B σ F H, Sat B Γ σ F H → t σ H fun v H' => ∃ F' P Γ', W P Γ' ∧ P.p v F' ∧ Ex F F' ∧ Sat B Γ' σ F' H') : PV X e Γ W := fun B σ F H S => wpE_of he (h B σ F H S)
/-- a value that is known at once -/
theorem v_now {t : TE} {P : Fct} (he : PE X e t) (ht : ∀ σ F H, ∀ Q : VK, (∀ v, P.p v F → Q v H) → t σ H Q) (h : W P Γ) : PV X e Γ W := v_of he fun B σ F H S => ht σ F H _ fun v p => ⟨F, P, Γ, h, p, Evl.Ex.refl _, S⟩
theorem v_var (i : Nat) {x : Str} (h : ∃ P, Γ[i]? = some (.fz P) ∧ W P Γ) (hN : X.N[i]? = some x := by rfl) (hv : Vis X.env.scope x := by first | exact Or.inl rfl | exact Or.inr (Or.inl rfl) | exact Or.inr (Or.inr rfl)) (hd : (x == ("__debug__" : Str)) = false := by decide)
    (hcd : (x == ("__classdict__" : Str)) = false := by decide) : PV X (.Name x pos) Γ W := v_of (pe_var hN hv hd hcd) fun B σ F H S => by
  obtain ⟨P, h1, h2⟩ := h
  obtain ⟨v, e, p⟩ := S.get h1
  exact ⟨v, e, F, P, Γ, h2, p, Evl.Ex.refl _, S⟩
theorem v_int {i : Int} {j} (h : W (fInt i) Γ) : PV X (.Constant (.int i) j pos) Γ W := v_now pe_int (fun _ _ _ _ q => q _ rfl) h
theorem v_bl {i : Bool} {j} (h : W (fBl i) Γ) : PV X (.Constant (.bool i) j pos) Γ W := v_now pe_bl (fun _ _ _ _ q => q _ rfl) h
theorem v_str {i : Str} {j} (h : W (fStr i) Γ) : PV X (.Constant (.str i) j pos) Γ W := v_now pe_str (fun _ _ _ _ q => q _ rfl) h
theorem v_non {j} (h : W fNon Γ) : PV X (.Constant .none j pos) Γ W := v_now pe_non (fun _ _ _ _ q => q _ rfl) h
/-- a module's name: an int, a text, an object -/
theorem v_gint {x : Str} {i : Int} (h : W (fInt i) Γ) (hm : ∃ t, X.mg x = some (.int i t)) (hg : Gl X x := by rfl) (hd : (x == ("__debug__" : Str)) = false := by decide) : PV X (.Name x pos) Γ W := by
  obtain ⟨t, hm⟩ := hm
  exact v_now (pe_glob (v := .int i) hg hm ⟨t, rfl⟩ hd) (fun _ _ _ _ q => q _ rfl) h
theorem v_gstr {x z : Str} (h : W (fStr z) Γ) (hm : ∃ t, X.mg x = some (.str z t)) (hg : Gl X x := by rfl) (hd : (x == ("__debug__" : Str)) = false := by decide) : PV X (.Name x pos) Γ W := by
  obtain ⟨t, hm⟩ := hm
  exact v_now (pe_glob (v := .str z) hg hm ⟨t, rfl⟩ hd) (fun _ _ _ _ q => q _ rfl) h
theorem v_gref {x : Str} {a : Addr} (h : W (fRef a) Γ) (hm : X.mg x = some (.ref a)) (hg : Gl X x := by rfl) (hd : (x == ("__debug__" : Str)) = false := by decide) : PV X (.Name x pos) Γ W :=
  v_now (pe_glob (v := .ref a) hg hm rfl hd) (fun _ _ _ _ q => q _ rfl) h
theorem v_bty {x : Str} {n : String} (h : W (fTy n) Γ) (hm : X.mg x = none) (hg : Gl X x := by rfl) (hv : bootBuiltins x = some (.type n) := by decide +kernel) (hn : x ≠ "__name__" := by decide) (hd : (x == ("__debug__" : Str)) = false := by decide) : PV X (.Name x pos) Γ W :=
  v_now (pe_bltn (v := .ty n) hg hm hv rfl hn hd) (fun _ _ _ _ q => q _ rfl) h
/-! ### operations by values -/
def Op2 (r : R2) (P P' R : Fct) : Prop := ∀ v v' F H, Ex F H → P.p v F → P'.p v' F → ∀ Q : VK, (∀ z F' H', R.p z F' → Grow F H F' H' → Q z H') → r v v' H Q
def Op1 (r : V → Hp → VK → Prop) (P R : Fct) : Prop := ∀ v F H, Ex F H → P.p v F → ∀ Q : VK, (∀ z F' H', R.p z F' → Grow F H F' H' → Q z H') → r v H Q
def OpC (r : List V → Hp → VK → Prop) (Ps : List Fct) (R : Fct) : Prop := ∀ vs F H, Ex F H → AllP vs Ps F → ∀ Q : VK, (∀ z F' H', R.p z F' → Grow F H F' H' → Q z H') → r vs H Q
/-- a method of a built-in type -/
def OpM (r : V → List V → Hp → VK → Prop) (P : Fct) (Ps : List Fct) (R : Fct) : Prop := ∀ v vs F H, Ex F H → P.p v F → AllP vs Ps F → ∀ Q : VK, (∀ z F' H', R.p z F' → Grow F H F' H' → Q z H') → r v vs H Q
theorem op_run {r : R2} {tr : TE} (h : PV X a Γ fun P Γ1 => PV X b Γ1 fun P' Γ2 => ∃ R, Op2 r P P' R ∧ W R Γ2) (he : PE X e (tOp r (wpE X a) (wpE X b))) : PV X e Γ W := v_of he fun B σ F H S =>
  wpE_mono (h B σ F H S) fun v1 H1 ⟨F1, P, Γ1, w, p, ex1, S1⟩ => wpE_mono (w B σ F1 H1 S1) fun v2 H2 ⟨F2, P', Γ2, ⟨R, ho, w2⟩, p', ex2, S2⟩ =>
    ho v1 v2 F2 H2 S2.ex (P.up ex2 p) p' _ fun z F' H' q g => ⟨F', R, Γ2, w2, q, (ex1.trans ex2).trans g.f, S2.grow g⟩
theorem v_op {op : Operator} {r : R2} (ho : OpR X (binaryOp op) r) (h : PV X a Γ fun P Γ1 => PV X b Γ1 fun P' Γ2 => ∃ R, Op2 r P P' R ∧ W R Γ2) : PV X (.BinOp a op b pos) Γ W := op_run (r := r) (tr := wpE X a) h (pe_op ho pe_wp pe_wp)
theorem v_cmp {op : CmpOp} {r : R2} (ho : OpR X (compareOp op) r) (h : PV X a Γ fun P Γ1 => PV X b Γ1 fun P' Γ2 => ∃ R, Op2 r P P' R ∧ W R Γ2) (hm : behindInMarks op b = false := by first | exact nomark _ | rfl) : PV X (.Compare a [op] [b] pos) Γ W := op_run (r := r) (tr := wpE X a) h (pe_cmpR ho pe_wp pe_wp hm)
theorem v_ix {r : R2} (ho : IxR X r) (h : PV X a Γ fun P Γ1 => PV X b Γ1 fun P' Γ2 => ∃ R, Op2 r P P' R ∧ W R Γ2) (hs : PlainIx b := by exact fun _ _ => rfl) : PV X (.Subscript a b pos) Γ W := op_run (r := r) (tr := wpE X a) h (pe_ix ho pe_wp pe_wp hs)
/-- a < b < c -/
theorem v_chain {op op' : CmpOp} {c : Expr} {r r' : R2} (ho : OpR X (compareOp op) r) (ho' : OpR X (compareOp op') r')
    (h : PV X a Γ fun P Γ1 => PV X b Γ1 fun P' Γ2 => ∃ k : Bool, Op2 r P P' (fBl k) ∧ if k = true then PV X c Γ2 fun P3 Γ3 => ∃ R, Op2 r' P' P3 R ∧ W R Γ3 else W (fBl false) Γ2) (hm : lastMarks [op, op'] [b, c] = false := by rfl) : PV X (.Compare a [op, op'] [b, c] pos) Γ W :=
  v_of (pe_chain ho ho' pe_wp pe_wp pe_wp hm) fun B σ F H S =>
  wpE_mono (h B σ F H S) fun v1 H1 ⟨F1, P, Γ1, w, p, ex1, S1⟩ => wpE_mono (w B σ F1 H1 S1) fun v2 H2 ⟨F2, P', Γ2, ⟨k, ho, w2⟩, p', ex2, S2⟩ =>
    ho v1 v2 F2 H2 S2.ex (P.up ex2 p) p' _ fun z F' H' q g => by
      refine ⟨k, q, ?_⟩
      cases k with
      | true =>
        refine iteT (wpE_mono (w2 B σ F' H' (S2.grow g)) fun v3 H3 ⟨F3, P3, Γ3, ⟨R, ho3, w3⟩, p3, ex3, S3⟩ => ?_)
        exact ho3 v2 v3 F3 H3 S3.ex (P'.up (g.f.trans ex3) p') p3 _ fun z F' H' q g' => ⟨F', R, Γ3, w3, q, (((ex1.trans ex2).trans g.f).trans ex3).trans g'.f, S3.grow g'⟩
      | false => exact iteF ⟨F', fBl false, Γ2, w2, rfl, (ex1.trans ex2).trans g.f, S2.grow g⟩
/-! ### truth -/
theorem v_not (h : PV X a Γ fun P Γ1 => ∃ k, P = fBl k ∧ W (fBl (!k)) Γ1) : PV X (.UnaryOp .Not a pos) Γ W := v_of (pe_not pe_wp) fun B σ F H S =>
  wpE_mono (h B σ F H S) fun v1 H1 ⟨F1, P, Γ1, ⟨k, e, w⟩, p, ex1, S1⟩ => by
    subst e
    exact ⟨k, p, F1, _, Γ1, w, rfl, ex1, S1⟩
theorem v_and {rest : List Expr} (h : PV X a Γ fun P Γ1 => ∃ k : Bool, P = fBl k ∧ if k = true then PV X (.BoolOp .And (b :: rest) pos) Γ1 W else W (fBl false) Γ1) : PV X (.BoolOp .And (a :: b :: rest) pos) Γ W := v_of (pe_and pe_wp pe_wp) fun B σ F H S =>
  wpE_mono (h B σ F H S) fun v1 H1 ⟨F1, P, Γ1, ⟨k, e, w⟩, p, ex1, S1⟩ => by
    subst e
    refine ⟨k, p, ?_⟩
    cases k with
    | true => exact iteT (wpE_mono (w B σ F1 H1 S1) fun v2 H2 ⟨F2, P2, Γ2, w2, p2, ex2, S2⟩ => ⟨F2, P2, Γ2, w2, p2, ex1.trans ex2, S2⟩)
    | false => exact iteF ⟨F1, _, Γ1, w, rfl, ex1, S1⟩
theorem v_or {rest : List Expr} (h : PV X a Γ fun P Γ1 => ∃ k : Bool, P = fBl k ∧ if k = true then W (fBl true) Γ1 else PV X (.BoolOp .Or (b :: rest) pos) Γ1 W) : PV X (.BoolOp .Or (a :: b :: rest) pos) Γ W := v_of (pe_or pe_wp pe_wp) fun B σ F H S =>
  wpE_mono (h B σ F H S) fun v1 H1 ⟨F1, P, Γ1, ⟨k, e, w⟩, p, ex1, S1⟩ => by
    subst e
    refine ⟨k, p, ?_⟩
    cases k with
    | true => exact iteT ⟨F1, _, Γ1, w, rfl, ex1, S1⟩
    | false => exact iteF (wpE_mono (w B σ F1 H1 S1) fun v2 H2 ⟨F2, P2, Γ2, w2, p2, ex2, S2⟩ => ⟨F2, P2, Γ2, w2, p2, ex1.trans ex2, S2⟩)
theorem v_one {op} (h : PV X a Γ W) : PV X (.BoolOp op [a] pos) Γ W := v_of (pe_one pe_wp) fun B σ F H S => h B σ F H S
theorem v_if {c : Expr} (h : PB X c Γ fun k Γ1 => if k = true then PV X a Γ1 W else PV X b Γ1 W) : PV X (.IfExp c a b pos) Γ W := v_of (pe_ifExp pt_wp pe_wp pe_wp) fun B σ F H S =>
  wpT_mono (h B σ F H S) fun k H1 ⟨F1, Γ1, w, ex1, S1⟩ => by
    cases k with
    | true => exact iteT (wpE_mono (w B σ F1 H1 S1) fun v2 H2 ⟨F2, P2, Γ2, w2, p2, ex2, S2⟩ => ⟨F2, P2, Γ2, w2, p2, ex1.trans ex2, S2⟩)
    | false => exact iteF (wpE_mono (w B σ F1 H1 S1) fun v2 H2 ⟨F2, P2, Γ2, w2, p2, ex2, S2⟩ => ⟨F2, P2, Γ2, w2, p2, ex1.trans ex2, S2⟩)
theorem b_of {t : TT} (he : PT X e t) (h : ∀ B σ F H, Sat B Γ σ F H → t σ H fun v H' => ∃ F' Γ', WB v Γ' ∧ Ex F F' ∧ Sat B Γ' σ F' H') : PB X e Γ WB := fun B σ F H S => wpT_of he (h B σ F H S)
theorem bw_of {t : TT} (he : PW X e t) (h : ∀ B σ F H, Sat B Γ σ F H → t σ H fun v H' => ∃ F' Γ', WB v Γ' ∧ Ex F F' ∧ Sat B Γ' σ F' H') : PBw X e Γ WB := fun B σ F H S => wpW_of he (h B σ F H S)
theorem bop_run {r : R2} (h : PV X a Γ fun P Γ1 => PV X b Γ1 fun P' Γ2 => ∃ k, Op2 r P P' (fBl k) ∧ WB k Γ2) (he : PT X e (tTest (tOp r (wpE X a) (wpE X b)))) : PB X e Γ WB := b_of he fun B σ F H S =>
  wpE_mono (h B σ F H S) fun v1 H1 ⟨F1, P, Γ1, w, p, ex1, S1⟩ => wpE_mono (w B σ F1 H1 S1) fun v2 H2 ⟨F2, P', Γ2, ⟨k, ho, w2⟩, p', ex2, S2⟩ =>
    ho v1 v2 F2 H2 S2.ex (P.up ex2 p) p' _ fun z F' H' q g => ⟨k, q, F', Γ2, w2, (ex1.trans ex2).trans g.f, S2.grow g⟩
theorem b_cmp {op : CmpOp} {r : R2} (ho : OpR X (compareOp op) r) (h : PV X a Γ fun P Γ1 => PV X b Γ1 fun P' Γ2 => ∃ k, Op2 r P P' (fBl k) ∧ WB k Γ2) (hm : behindInMarks op b = false := by first | exact nomark _ | rfl) : PB X (.Compare a [op] [b] pos) Γ WB := bop_run h (pt_cmpR ho pe_wp pe_wp hm)
theorem b_chain {op op' : CmpOp} {c : Expr} {r r' : R2} (ho : OpR X (compareOp op) r) (ho' : OpR X (compareOp op') r')
    (h : PV X a Γ fun P Γ1 => PV X b Γ1 fun P' Γ2 => ∃ k : Bool, Op2 r P P' (fBl k) ∧ if k = true then PV X c Γ2 fun P3 Γ3 => ∃ k', Op2 r' P' P3 (fBl k') ∧ WB k' Γ3 else WB false Γ2) (hm : lastMarks [op, op'] [b, c] = false := by rfl) : PB X (.Compare a [op, op'] [b, c] pos) Γ WB :=
  b_of (pt_chain ho ho' pe_wp pe_wp pe_wp hm) fun B σ F H S =>
  wpE_mono (h B σ F H S) fun v1 H1 ⟨F1, P, Γ1, w, p, ex1, S1⟩ => wpE_mono (w B σ F1 H1 S1) fun v2 H2 ⟨F2, P', Γ2, ⟨k, ho, w2⟩, p', ex2, S2⟩ =>
    ho v1 v2 F2 H2 S2.ex (P.up ex2 p) p' _ fun z F' H' q g => by
      refine ⟨k, q, ?_⟩
      cases k with
      | true =>
        refine iteT (wpE_mono (w2 B σ F' H' (S2.grow g)) fun v3 H3 ⟨F3, P3, Γ3, ⟨k', ho3, w3⟩, p3, ex3, S3⟩ => ?_)
        exact ho3 v2 v3 F3 H3 S3.ex (P'.up (g.f.trans ex3) p') p3 _ fun z F' H' q g' => ⟨k', q, F', Γ3, w3, (((ex1.trans ex2).trans g.f).trans ex3).trans g'.f, S3.grow g'⟩
      | false => exact iteF ⟨false, rfl, F', Γ2, w2, (ex1.trans ex2).trans g.f, S2.grow g⟩
theorem b_val (h : PV X e Γ fun P Γ1 => ∃ k, P = fBl k ∧ WB k Γ1) (he : ∀ whole, isTrue e X.env whole = (do let v ← whole; standAt e.pos; holding [v] (truthy v)) := by intro _; rfl) : PB X e Γ WB := b_of (pt_val pe_wp he) fun B σ F H S =>
  wpE_mono (h B σ F H S) fun v1 H1 ⟨F1, P, Γ1, ⟨k, e, w⟩, p, ex1, S1⟩ => by
    subst e
    exact ⟨k, p, F1, Γ1, w, ex1, S1⟩
theorem b_not (h : PB X a Γ fun k Γ1 => WB (!k) Γ1) : PB X (.UnaryOp .Not a pos) Γ WB := b_of (pt_not pt_wp) fun B σ F H S => wpT_mono (h B σ F H S) fun k H1 q => q
theorem b_w (h : PBw X e Γ WB) : PB X e Γ WB := fun B σ F H S => fun pins s I => h B σ F H S _ pins s I
theorem w_and {rest : List Expr} (h : PB X a Γ fun k Γ1 => if k = true then PBw X (.BoolOp .And (b :: rest) pos) Γ1 WB else WB false Γ1) : PBw X (.BoolOp .And (a :: b :: rest) pos) Γ WB := bw_of (pw_and pt_wp pw_wp) fun B σ F H S =>
  wpT_mono (h B σ F H S) fun k H1 ⟨F1, Γ1, w, ex1, S1⟩ => by
    cases k with
    | true => exact iteT (wpW_mono (w B σ F1 H1 S1) fun v2 H2 ⟨F2, Γ2, w2, ex2, S2⟩ => ⟨F2, Γ2, w2, ex1.trans ex2, S2⟩)
    | false => exact iteF ⟨F1, Γ1, w, ex1, S1⟩
theorem w_or {rest : List Expr} (h : PB X a Γ fun k Γ1 => if k = true then WB true Γ1 else PBw X (.BoolOp .Or (b :: rest) pos) Γ1 WB) : PBw X (.BoolOp .Or (a :: b :: rest) pos) Γ WB := bw_of (pw_or pt_wp pw_wp) fun B σ F H S =>
  wpT_mono (h B σ F H S) fun k H1 ⟨F1, Γ1, w, ex1, S1⟩ => by
    cases k with
    | true => exact iteT ⟨F1, Γ1, w, ex1, S1⟩
    | false => exact iteF (wpW_mono (w B σ F1 H1 S1) fun v2 H2 ⟨F2, Γ2, w2, ex2, S2⟩ => ⟨F2, Γ2, w2, ex1.trans ex2, S2⟩)
theorem w_and1 (h : PB X a Γ WB) : PBw X (.BoolOp .And [a] pos) Γ WB := bw_of (pw_and1 pt_wp) fun B σ F H S => h B σ F H S
theorem w_or1 (h : PB X a Γ WB) : PBw X (.BoolOp .Or [a] pos) Γ WB := bw_of (pw_or1 pt_wp) fun B σ F H S => h B σ F H S
/-! ### lists of expressions, displays -/
theorem a_nil {WA : List Fct → Ctx → Prop} (h : WA [] Γ) : PAs X [] Γ WA := fun B σ F H S => wpA_of pa_nil ⟨F, [], Γ, h, .nil, Evl.Ex.refl _, S⟩
theorem a_cons {es : List Expr} {WA : List Fct → Ctx → Prop} (h : PV X a Γ fun P Γ1 => PAs X es Γ1 fun Ps Γ2 => WA (P :: Ps) Γ2) (he : starEach (a :: es) X.env = (false, eval a X.env) :: starEach es X.env := by rfl) : PAs X (a :: es) Γ WA := fun B σ F H S =>
  wpA_of (pa_cons pe_wp pa_wp he) (wpE_mono (h B σ F H S) fun v1 H1 ⟨F1, P, Γ1, w, p, ex1, S1⟩ => wpA_mono (w B σ F1 H1 S1) fun vs H2 ⟨F2, Ps, Γ2, w2, ps, ex2, S2⟩ => ⟨F2, P :: Ps, Γ2, w2, .cons (P.up ex2 p) ps, ex1.trans ex2, S2⟩)
theorem v_tup {es : List Expr} {c} (h : PAs X es Γ fun Ps Γ1 => Ps.length ≤ 100000 ∧ W (fTup X.K Ps) Γ1) : PV X (.Tuple es c pos) Γ W := v_of (pe_tup pa_wp) fun B σ F H S =>
  wpA_mono (h B σ F H S) fun vs H1 ⟨F1, Ps, Γ1, ⟨hl, w⟩, ps, ex1, S1⟩ => ⟨Evl.sz_of (by rw [ps.length]; exact hl), fun p hp =>
    have g := Grow.new (o := .tup vs) S1.ex hp
    ⟨upd F1 p (.tup vs), _, Γ1, w, ⟨p, vs, rfl, SqT.of upd_same, ps.up g.f⟩, ex1.trans g.f, S1.grow g⟩⟩
theorem v_lst {es : List Expr} (h : PAs X es Γ fun Ps Γ1 => Ps.length ≤ 100000 ∧ W (fLst X.K Ps) Γ1) : PV X (.List es pos) Γ W := v_of (pe_lst pa_wp) fun B σ F H S =>
  wpA_mono (h B σ F H S) fun vs H1 ⟨F1, Ps, Γ1, ⟨hl, w⟩, ps, ex1, S1⟩ => ⟨Evl.sz_of (by rw [ps.length]; exact hl), fun p hp =>
    have g := Grow.new (o := .lst vs) S1.ex hp
    ⟨upd F1 p (.lst vs), _, Γ1, w, ⟨p, vs, rfl, upd_same, ps.up g.f⟩, ex1.trans g.f, S1.grow g⟩⟩
/-! ### calls of built-ins by values -/
theorem cb_run {es : List Expr} {r : List V → Hp → VK → Prop} (h : PAs X es Γ fun Ps Γ1 => ∃ R, OpC r Ps R ∧ W R Γ1) (he : PE X e (tCB r (wpA X es))) : PV X e Γ W := v_of he fun B σ F H S =>
  wpA_mono (h B σ F H S) fun vs H1 ⟨F1, Ps, Γ1, ⟨R, ho, w⟩, ps, ex1, S1⟩ => ho vs F1 H1 S1.ex ps _ fun z F' H' q g => ⟨F', R, Γ1, w, q, ex1.trans g.f, S1.grow g⟩
theorem v_callB {x : Str} {p : Pos} {id : String} {es : List Expr} {r : List V → Hp → VK → Prop} (hc : CallR X (.builtin id) r) (hm : X.mg x = none) (h : PAs X (a :: es) Γ fun Ps Γ1 => ∃ R, OpC r Ps R ∧ W R Γ1) (hg : Gl X x := by rfl)
    (hv : bootBuiltins x = some (.builtin id) := by decide +kernel) (hn : x ≠ "__name__" := by decide) (hdb : (x == ("__debug__" : Str)) = false := by decide) (hst : starEach (a :: es) X.env = (false, eval a X.env) :: starEach es X.env := by rfl)
    (hpl : (backTo pos (starEach es X.env)).any (·.1) = false := by rfl) : PV X (.Call (.Name x p) (a :: es) [] pos) Γ W :=
  cb_run h (pe_callB hc hg hm hv pa_wp hn hdb hst hpl)
theorem v_callTy {x : Str} {p : Pos} {T : String} {es : List Expr} {r : List V → Hp → VK → Prop} (hc : CallR X (.type T) r) (hm : X.mg x = none) (h : PAs X (a :: es) Γ fun Ps Γ1 => ∃ R, OpC r Ps R ∧ W R Γ1) (hg : Gl X x := by rfl)
    (hv : bootBuiltins x = some (.type T) := by decide +kernel) (hn : x ≠ "__name__" := by decide) (hdb : (x == ("__debug__" : Str)) = false := by decide) (hst : starEach (a :: es) X.env = (false, eval a X.env) :: starEach es X.env := by rfl)
    (hpl : (backTo pos (starEach es X.env)).any (·.1) = false := by rfl) : PV X (.Call (.Name x p) (a :: es) [] pos) Γ W :=
  cb_run h (pe_callTy hc hg hm hv pa_wp hn hdb hst hpl)
end
end DL

/-! DL2: attributes, own defs and their promises, slices, statements, loops, comprehensions. -/
namespace DL
open PySem L2 PyProof.Rows
/-! ### attributes -/
theorem lookup_at : ∀ {fs : List (Str × Fct)} {gs : List (Str × V)} {F : Hp} {f : Str} {R : Fct}, gs.map (·.1) = fs.map (·.1) → AllP (gs.map (·.2)) (fs.map (·.2)) F → fs.lookup f = some R → ∃ v, gs.lookup f = some v ∧ R.p v F
  | [], gs, _, _, _, _, _, e => by simp at e
  | (n, P) :: fs, [], _, _, _, h, _, _ => by simp at h
  | (n, P) :: fs, (m, v) :: gs, F, f, R, h, q, e => by
    rw [List.map_cons, List.map_cons] at h
    injection h with h1 h2
    have h1 : m = n := h1
    subst h1
    rw [List.map_cons, List.map_cons] at q
    cases q with
    | cons q1 q2 =>
      rw [List.lookup_cons] at e ⊢
      cases hb : f == m with
      | true =>
        rw [hb] at e
        cases e
        exact ⟨v, rfl, q1⟩
      | false =>
        rw [hb] at e
        exact lookup_at h2 q2 e
theorem lookup_no {fs : List (Str × Fct)} {gs : List (Str × V)} {f : Str} (h : gs.map (·.1) = fs.map (·.1)) (e : (fs.map (·.1)).contains f = false) : gs.lookup f = none := by
  rw [← h] at e
  cases q : gs.lookup f with
  | none => rfl
  | some v =>
    have : f ∈ gs.map (·.1) := List.mem_map.mpr ⟨(f, v), PySem.mem_of_lookup q, rfl⟩
    have z : (gs.map (·.1)).contains f = true := by simpa using this
    rw [e] at z
    cases z
section
variable {X : Cx} {Γ : Ctx} {e a b : Expr} {pos : Pos} {W : Fct → Ctx → Prop} {WB : Bool → Ctx → Prop}
theorem v_fld {C : Addr} {f : Str} (cl : Cls X.K C) (na : NoAttr X.K C f) (h : PV X a Γ fun P Γ1 => ∃ fs R, P = fIns C fs ∧ fs.lookup f = some R ∧ W R Γ1) (hb : attributeBase a f X.env (eval a X.env) = eval a X.env := by rfl) : PV X (.Attribute a f pos) Γ W :=
  v_of (pe_fld pe_wp hb) fun B σ F H S => wpE_mono (h B σ F H S) fun v H1 ⟨F1, P, Γ1, ⟨fs, R, e, l, w⟩, p, ex1, S1⟩ => by
    subst e
    obtain ⟨a, dx, gs, h1, h2, h3, h4⟩ := p
    obtain ⟨v2, h5, h6⟩ := lookup_at h3 h4 l
    exact ⟨a, C, dx, gs, v2, h1, S1.ex a _ h2, cl, na, h5, F1, R, Γ1, w, h6, ex1, S1⟩
end
/-! ### promises over facts -/
abbrev DSp := List Fct → (Fct → Prop) → Prop
def spD (d : DSp) : Sp := fun vs H Q _ => ∃ F Ps W, Ex F H ∧ AllP vs Ps F ∧ d Ps W ∧ ∀ v H' F' P, W P → P.p v F' → Grow F H F' H' → Q v H'
def startC (N : List Str) (Ps : List Fct) : Ctx := Ps.map .fz ++ List.replicate (N.length - Ps.length) .no
theorem sat_start {N : List Str} {vs : List V} {Ps : List Fct} {F H : Hp} (ex : Ex F H) (h : AllP vs Ps F) : Sat ⟨F, H⟩ (startC N Ps) (L2.start N vs) F H := by
  have hl := h.length
  refine ⟨ex, Evl.Ex.refl _, Evl.Ex.refl _, fun _ _ z => z, ?_, fun i s ov e1 e2 => ?_, fun i j O1 O2 a hij e1 e2 => ?_⟩
  · unfold startC L2.start
    rw [List.length_append, List.length_append, List.length_map, List.length_map, List.length_replicate, List.length_replicate, hl]
  · unfold startC at e1
    unfold L2.start at e2
    by_cases hi : i < Ps.length
    · rw [List.getElem?_append_left (by rw [List.length_map]; exact hi), List.getElem?_map] at e1
      rw [List.getElem?_append_left (by rw [List.length_map, hl]; exact hi), List.getElem?_map] at e2
      cases q : vs[i]? with
      | none =>
        rw [q] at e2
        cases e2
      | some v =>
        obtain ⟨P, q1, q2⟩ := h.get q
        rw [q1] at e1
        rw [q] at e2
        cases e1
        cases e2
        exact ⟨v, rfl, q2⟩
    · rw [List.getElem?_append_right (by rw [List.length_map]; omega), List.getElem?_replicate] at e1
      split at e1
      · cases e1
        trivial
      · cases e1
  · exfalso
    unfold startC at e1
    by_cases hi : i < Ps.length
    · rw [List.getElem?_append_left (by rw [List.length_map]; exact hi), List.getElem?_map] at e1
      cases q : Ps[i]? with
      | none =>
        rw [q] at e1
        cases e1
      | some P =>
        rw [q] at e1
        cases e1
    · rw [List.getElem?_append_right (by rw [List.length_map]; omega), List.getElem?_replicate] at e1
      split at e1 <;> cases e1
section
variable {P : Program} {w : World} {K : PySem.W.Frag} {mg : Str → Option Value} {base : Heap}
theorem fn_d {x qual : Str} {params : Arguments} {body : List Stmt} {scope : Scope} {dvs : List V} {kws : List (Str × V)} {f : Addr} {fd : FuncData} {N ps : List Str} {k : Nat} {d : DSp} (F : FunD K x qual params body scope dvs kws f fd) (S : FnScope N ps scope)
    (len : ∀ Ps W, d Ps W → Ps.length = ps.length)
    (hbody : ∀ (cdv : Value) (A : Around) (outer : List Env) (s : Shared) (H : Hp) (E : XK) (Ps : List Fct) (W : Fct → Prop), Room k (A.deeper (envOfC qual scope s.heap.objs.size f cdv)) → d Ps W →
      PD (cxOf CX0 P w K mg base N qual scope f cdv A outer s H E).nox body (startC N Ps) { nx := fun _ => W fNon, rt := W }) : FnOk P w K mg base CX0 (k + 1) f fd ps (spD d) := by
  refine F.ok S (fun vs H Q E h => ?_) (fun cdv A outer s H vs Q E hr h => ?_)
  · obtain ⟨F, Ps, W, _, h2, h3, _⟩ := h
    rw [h2.length]
    exact len Ps W h3
  · obtain ⟨F, Ps, W, h1, h2, h3, h4⟩ := h
    refine ⟨wpSs _ body, PSs.nox pss_wp, ?_⟩
    refine wpSs_mono (hbody cdv A outer s H E Ps W hr h3 ⟨F, H⟩ (L2.start N vs) F H (sat_start h1 h2)) ⟨?_, ?_, ?_, ?_⟩
    · rintro σ H' ⟨Γ, F', hw, S'⟩
      exact h4 .non H' F' fNon hw rfl ⟨S'.bF, S'.bH, S'.ex, fun b h1 h2 => S'.off b h1 h2⟩
    · rintro v H' ⟨P, F', hw, hp, S'⟩
      exact h4 v H' F' P hw hp ⟨S'.bF, S'.bH, S'.ex, fun b h1 h2 => S'.off b h1 h2⟩
    · rintro σ H' ⟨_, _, z, _⟩
      exact z
    · rintro σ H' ⟨_, _, z, _⟩
      exact z
/-- a def that is called by the module's name x: n arguments are written, dPs are the facts of the defaults behind them -/
def Cal (P : Program) (w : World) (K : PySem.W.Frag) (mg : Str → Option Value) (base : Heap) (k : Nat) (x : Str) (dPs : List Fct) (d : DSp) : Prop :=
  ∃ (f : Addr) (fd : FuncData) (ps : List Str) (dvs : List V) (ds : List Value), mg x = some (.ref f) ∧ PySem.W.keepIn K (.ref f) = true ∧ Binds K fd ps ds ∧ Vals dvs ds ∧ (∀ F, AllP dvs dPs F) ∧ FnOk P w K mg base CX0 k f fd ps (spD d)
end
section
variable {X : Cx} {Γ : Ctx} {e a b : Expr} {pos : Pos} {W : Fct → Ctx → Prop} {WB : Bool → Ctx → Prop}
theorem sp_run {d : DSp} {Ps : List Fct} {vs : List V} {F H : Hp} {B : Base} {σ : L2.St} {Γ1 : Ctx} {E : XK} (S : Sat B Γ1 σ F H) (h : AllP vs Ps F) (hd : d Ps fun R => W R Γ1) : spD d vs H (fun v H' => ∃ F' P Γ', W P Γ' ∧ P.p v F' ∧ Ex F F' ∧ Sat B Γ' σ F' H') E :=
  ⟨F, Ps, _, S.ex, h, hd, fun v H' F' P hw hp g => ⟨F', P, Γ1, hw, hp, g.f, S.grow g⟩⟩
theorem sp_mono {d : DSp} {vs : List V} {H : Hp} {Q Q' : VK} {E E' : XK} (h : spD d vs H Q E) (m : ∀ v H', Q v H' → Q' v H') : spD d vs H Q' E' := by
  obtain ⟨F, Ps, W, h1, h2, h3, h4⟩ := h
  exact ⟨F, Ps, W, h1, h2, h3, fun v H' F' P hw hp g => m _ _ (h4 v H' F' P hw hp g)⟩
theorem v_call {x : Str} {p : Pos} {es : List Expr} {k j : Nat} {dPs : List Fct} {d : DSp} (C : Cal X.prog X.w X.K X.mg X.base k x dPs d) (hr : Room j X.A) (h : PAs X (a :: es) Γ fun Ps Γ1 => d (Ps ++ dPs) fun R => W R Γ1) (hk : k ≤ j := by decide) (hg : Gl X x := by rfl)
    (hdb : (x == ("__debug__" : Str)) = false := by decide) (he : starEach (a :: es) X.env = (false, eval a X.env) :: starEach es X.env := by rfl) (hpl : (backTo pos (starEach es X.env)).any (·.1) = false := by rfl) : PV X (.Call (.Name x p) (a :: es) [] pos) Γ W := by
  obtain ⟨f, fd, ps, dvs, ds, c1, c2, c3, c4, c5, c6⟩ := C
  refine v_of (pe_call c6 (hr.mono hk) hg c1 c2 c3 c4 pass0 pa_wp hdb he hpl) fun B σ F H S => wpA_mono (h B σ F H S) fun vs H1 ⟨F1, Ps, Γ1, w, ps, ex1, S1⟩ => ?_
  exact sp_mono (sp_run (E := E0) S1 (ps.append (c5 F1)) w) fun v H' ⟨F', P, Γ', q1, q2, q3, q4⟩ => ⟨F', P, Γ', q1, q2, ex1.trans q3, q4⟩
/-- o.m(e, ..), a def of o's class -/
theorem v_meth {o : Expr} {m : Str} {apos : Pos} {es : List Expr} {C : Addr} {f : Addr} {fd : FuncData} {ps : List Str} {k j : Nat} {d : DSp} (c : Cls X.K C) (hm : Meth X.K C m f) (G : FnOk X.prog X.w X.K X.mg X.base CX0 k f fd ps (spD d)) (hb : Binds X.K fd ps []) (hr : Room j X.A)
    (h : PV X o Γ fun P Γ1 => ∃ fs, P = fIns C fs ∧ (fs.map (·.1)).contains m = false ∧ PAs X (a :: es) Γ1 fun Ps Γ2 => d (P :: Ps) fun R => W R Γ2) (hk : k ≤ j := by decide)
    (hst : starEach (a :: es) X.env = (false, eval a X.env) :: starEach es X.env := by rfl) (hpl : (backTo pos (starEach es X.env)).any (·.1) = false := by rfl) {pl : Sem Bool}
    (ht : eval (.Call (.Attribute o m apos) (a :: es) [] pos) X.env = (do
      let ov ← eval o X.env
      standAt apos.atName
      let (f, first) ← holding [ov] (getMethod ov m pl)
      callWith pos f first (backTo pos (starEach (a :: es) X.env)) (backToKw pos (keywordEach [] X.env))) := by rfl) : PV X (.Call (.Attribute o m apos) (a :: es) [] pos) Γ W := by
  refine v_of (pe_meth (pl := pl) pe_wp c hm G (hr.mono hk) hb .nil pass0 pa_wp hst hpl ht) fun B σ F H S => wpE_mono (h B σ F H S) fun v H1 ⟨F1, P, Γ1, ⟨fs, e1, e2, w⟩, p, ex1, S1⟩ => ?_
  have p0 := p
  subst e1
  obtain ⟨q, dx, gs, h1, h2, h3, h4⟩ := p
  subst h1
  refine ⟨q, dx, gs, rfl, S1.ex q _ h2, lookup_no h3 e2, wpA_mono (w B σ F1 H1 S1) fun vs H2 ⟨F2, Ps, Γ2, w2, ps, ex2, S2⟩ => ?_⟩
  rw [List.append_nil]
  exact sp_mono (sp_run (E := E0) S2 (.cons ((fIns C fs).up ex2 p0) ps) w2) fun v H' ⟨F', P, Γ', q1, q2, q3, q4⟩ => ⟨F', P, Γ', q1, q2, (ex1.trans ex2).trans q3, q4⟩
/-- o.f, a property -/
theorem v_prop {f : Str} {C p g : Addr} {fd : FuncData} {ps : List Str} {k j : Nat} {d : DSp} (c : Cls X.K C) (hp : PropOf X.K C f p g) (G : FnOk X.prog X.w X.K X.mg X.base CX0 k g fd ps (spD d)) (hb : Binds X.K fd ps []) (hr : Room j X.A)
    (h : PV X a Γ fun P Γ1 => ∃ fs, P = fIns C fs ∧ d [P] fun R => W R Γ1) (hk : k + 1 ≤ j := by decide) (hab : attributeBase a f X.env (eval a X.env) = eval a X.env := by rfl) : PV X (.Attribute a f pos) Γ W := by
  refine v_of (pe_prop pe_wp c hp G (hr.mono hk) hb .nil pass0 hab) fun B σ F H S => wpE_mono (h B σ F H S) fun v H1 ⟨F1, P, Γ1, ⟨fs, e1, w⟩, p, ex1, S1⟩ => ?_
  have p0 := p
  subst e1
  obtain ⟨q, dx, gs, h1, h2, h3, h4⟩ := p
  subst h1
  refine ⟨q, dx, gs, rfl, S1.ex q _ h2, ?_⟩
  exact sp_mono (sp_run (E := E0) S1 (.cons p0 .nil) w) fun v H' ⟨F', P, Γ', q1, q2, q3, q4⟩ => ⟨F', P, Γ', q1, q2, ex1.trans q3, q4⟩
/-! ### a method of a built-in type; the receiver's type told by ty -/
/-- slices -/
def PPart (X : Cx) (o : Option Expr) (Γ : Ctx) (WP : Option Int → Ctx → Prop) : Prop := match o with
  | none => WP none Γ
  | some e => PV X e Γ fun P Γ1 => ∃ i, P = fInt i ∧ WP (some i) Γ1
def OpS (r : V → Option Int → Option Int → Hp → VK → Prop) (P : Fct) (lo hi : Option Int) (R : Fct) : Prop := ∀ v F H, Ex F H → P.p v F → ∀ Q : VK, (∀ z F' H', R.p z F' → Grow F H F' H' → Q z H') → r v lo hi H Q
def wpO (X : Cx) : Option Expr → TO
  | none => tNoPart
  | some e => tPart (wpE X e)
theorem po_wp {o : Option Expr} : PO X o (wpO X o) := by
  cases o with
  | none => exact po_none
  | some e => exact po_some pe_wp
theorem wpO_run {o : Option Expr} {WP : Option Int → Ctx → Prop} (h : PPart X o Γ WP) {B : Base} {σ : L2.St} {F H : Hp} (S : Sat B Γ σ F H) {Q : Option Int → Hp → Prop} (q : ∀ i H' F' Γ', WP i Γ' → Ex F F' → Sat B Γ' σ F' H' → Q i H') : wpO X o σ H Q := by
  cases o with
  | none => exact q none H F Γ h (Evl.Ex.refl _) S
  | some e =>
    refine wpE_mono (h B σ F H S) fun v H1 ⟨F1, P, Γ1, ⟨i, e1, w⟩, p, ex1, S1⟩ => ?_
    subst e1
    exact ⟨i, p, q _ H1 F1 Γ1 w ex1 S1⟩
theorem v_slice {r : V → Option Int → Option Int → Hp → VK → Prop} {lo hi : Option Expr} {p2 : Pos} (hr : SlR X r) (h : PV X a Γ fun P Γ1 => PPart X lo Γ1 fun i Γ2 => PPart X hi Γ2 fun j Γ3 => ∃ R, OpS r P i j R ∧ W R Γ3) : PV X (.Subscript a (.Slice lo hi none p2) pos) Γ W :=
  v_of (pe_slice hr pe_wp po_wp po_wp) fun B σ F H S => wpE_mono (h B σ F H S) fun v H1 ⟨F1, P, Γ1, w, p, ex1, S1⟩ =>
    wpO_run w S1 fun i H2 F2 Γ2 w2 ex2 S2 => wpO_run w2 S2 fun j H3 F3 Γ3 ⟨R, ho, w3⟩ ex3 S3 => ho v F3 H3 S3.ex (P.up (ex2.trans ex3) p) _ fun z F' H' q g => ⟨F', R, Γ3, w3, q, ((ex1.trans ex2).trans ex3).trans g.f, S3.grow g⟩
/-! ### statements -/
variable {D : DE} {st : Stmt} {rest : List Stmt}
theorem d_cons (h : P1 X st Γ { D with nx := fun Γ' => PD X rest Γ' D }) : PD X (st :: rest) Γ D := fun B σ F H S => wpSs_of (pss_cons ps_wp pss_wp) (wpS_mono (h B σ F H S) ⟨fun σ' H' ⟨Γ', F', q, S'⟩ => q B σ' F' H' S', fun _ _ q => q, fun _ _ q => q, fun _ _ q => q⟩)
theorem d_one (h : P1 X st Γ D) : PD X [st] Γ D := fun B σ F H S => wpSs_of (pss_one ps_wp) (h B σ F H S)
theorem d_nil (h : D.nx Γ) : PD X [] Γ D := fun B σ F H S => wpSs_of pss_nil ⟨Γ, F, h, S⟩
theorem p_of {t : TS} (he : PS X st t) (h : ∀ B σ F H, Sat B Γ σ F H → t (conc B D) σ H) : P1 X st Γ D := fun B σ F H S => wpS_of he (h B σ F H S)
theorem p_asg {i : Nat} {x : Str} {p' : Pos} (h : PV X e Γ fun P Γ1 => D.nx (Γ1.set i (.fz P))) (hN : X.N.Nodup) (hi : X.N[i]? = some x := by rfl) (hx : Loc X.env.scope x := by first | exact Or.inl rfl | exact Or.inr rfl) (hs : swapsWith e (some (.Name x p')) pos.line X.env = pure false := by rfl)
    (hf : X.fn x = true ∨ X.env.scope.names.lookup x = some .local := by first | exact .inl rfl | exact .inr rfl) : P1 X (.Assign [.Name x p'] e pos) Γ D :=
  p_of (ps_set hN hi hx pe_wp hs hf) fun B σ F H S => wpE_mono (h B σ F H S) fun v H1 ⟨F1, P, Γ1, w, p, ex1, S1⟩ => ⟨_, F1, w, S1.set p⟩
theorem p_asgT {tg : Expr} {g : TG} (hg : PG X tg g) (h : PV X e Γ fun P Γ1 => DT g Γ1 P D.nx) (hs : swapsWithSole [tg] e pos.line X.env = pure false := by rfl) (hw : swappedStores [tg] e X.env = pure none := by rfl)
    (h1 : (assignEach [tg] X.env).map (·.2) = [assign tg X.env] := by rfl) : P1 X (.Assign [tg] e pos) Γ D :=
  p_of (ps_asg pe_wp hg hs hw h1) fun B σ F H S => wpE_mono (h B σ F H S) fun v H1 ⟨F1, P, Γ1, w, p, ex1, S1⟩ => w B σ F1 H1 v S1 p _ fun σ' Γ' w' S' => ⟨Γ', F1, w', S'⟩
theorem p_ret (h : PV X e Γ fun P _ => D.rt P) : P1 X (.Return (some e) pos) Γ D := p_of (ps_ret pe_wp) fun B σ F H S => wpE_mono (h B σ F H S) fun v H1 ⟨F1, P, Γ1, w, p, ex1, S1⟩ => ⟨P, F1, w, p, S1.out⟩
theorem p_expr (h : PV X e Γ fun _ Γ1 => D.nx Γ1) (hs : swapsWith e none pos.line X.env = pure false := by rfl) : P1 X (.Expr e pos) Γ D := p_of (ps_expr pe_wp hs) fun B σ F H S => wpE_mono (h B σ F H S) fun v H1 ⟨F1, P, Γ1, w, p, ex1, S1⟩ => ⟨Γ1, F1, w, S1⟩
theorem p_if {c : Expr} {s1 s2 : List Stmt} (h : PB X c Γ fun k Γ1 => if k = true then PD X s1 Γ1 D else PD X s2 Γ1 D) : P1 X (.If c s1 s2 pos) Γ D := p_of (ps_if pt_wp pss_wp pss_wp) fun B σ F H S => wpT_mono (h B σ F H S) fun k H1 ⟨F1, Γ1, w, ex1, S1⟩ => by
  cases k with
  | true => exact iteT (w B σ F1 H1 S1)
  | false => exact iteF (w B σ F1 H1 S1)
/-- if c: .., c is not so -/
theorem p_no {c : Expr} {s1 : List Stmt} (h : PB X c Γ fun k Γ1 => k = false ∧ D.nx Γ1) : P1 X (.If c s1 [] pos) Γ D := p_if (h.imp fun k Γ1 ⟨hk, q⟩ => by
  subst hk
  exact iteF (d_nil q))
theorem p_pass (h : D.nx Γ) : P1 X (.Pass pos) Γ D := p_of ps_pass fun B σ F H S => ⟨Γ, F, h, S⟩
/-- targets -/
theorem dt_name {i : Nat} {P : Fct} {WT : Ctx → Prop} (h : WT (Γ.set i (.fz P))) : DT (gName i) Γ P WT := fun B σ F H v S p Q q => q _ _ h (S.set p)
def DTs (t : TGs) (Γ : Ctx) (Ps : List Fct) (WT : Ctx → Prop) : Prop := ∀ B σ F H vs, Sat B Γ σ F H → AllP vs Ps F → ∀ Q : L2.St → Hp → Prop, (∀ σ' Γ', WT Γ' → Sat B Γ' σ' F H → Q σ' H) → t vs σ H Q
theorem dts_nil {WT : Ctx → Prop} (h : WT Γ) : DTs gNil Γ [] WT := fun B σ F H vs S p Q q => by
  cases p
  exact ⟨rfl, q _ _ h S⟩
theorem dts_cons {t : TG} {u : TGs} {P : Fct} {Ps : List Fct} {WT : Ctx → Prop} (h : DT t Γ P fun Γ1 => DTs u Γ1 Ps WT) : DTs (gCons t u) Γ (P :: Ps) WT := fun B σ F H vs S p Q q => by
  cases p with
  | cons p1 p2 => exact ⟨_, _, rfl, h B σ F H _ S p1 _ fun σ' Γ' w S' => w B σ' F H _ S' p2 Q q⟩
theorem dt_tup {K : PySem.W.Frag} {n : Nat} {t : TGs} {Ps : List Fct} {WT : Ctx → Prop} (hl : Ps.length = n) (h : DTs t Γ Ps WT) : DT (gTup K n t) Γ (fTup K Ps) WT := fun B σ F H v S p Q q => by
  obtain ⟨a, xs, h1, h2, h3⟩ := p
  exact ⟨a, xs, h1, Evl.ex_t S.ex h2, h3.length.trans hl, h B σ F H xs S h3 Q q⟩
/-! ### loops -/
theorem Sat.rebase {B : Base} {σ : L2.St} {F H : Hp} (S : Sat B Γ σ F H) : Sat ⟨F, B.H0⟩ Γ σ F H := ⟨S.ex, Evl.Ex.refl _, S.bH, fun _ _ z => z, S.len, S.sl, S.ap⟩
theorem Sat.unbase {B : Base} {σ σ1 : L2.St} {F F1 H H1 : Hp} {Γ1 : Ctx} (S1 : Sat B Γ1 σ1 F1 H1) (S : Sat ⟨F1, B.H0⟩ Γ σ F H) : Sat B Γ σ F H := ⟨S.ex, S1.bF.trans S.bF, S.bH, fun b h1 h2 => S.off b h1 (S1.off b h1 h2), S.len, S.sl, S.ap⟩
theorem OutB.unbase {B : Base} {σ1 : L2.St} {F F1 H H1 : Hp} {Γ1 : Ctx} (S1 : Sat B Γ1 σ1 F1 H1) (S : OutB ⟨F1, B.H0⟩ F H) : OutB B F H := ⟨S.ex, S1.bF.trans S.bF, S.bH, fun b h1 h2 => S.off b h1 (S1.off b h1 h2)⟩
theorem p_for {tg iter : Expr} {body : List Stmt} {g : TG} (hg : PG X tg g) (hi : DI X tg iter Γ fun Ps Γ1 => ∃ Iv : Nat → Ctx → Prop, Iv 0 Γ1 ∧
      (∀ (i : Nat) (P : Fct) (Γi : Ctx), Ps[i]? = some P → Iv i Γi → DT g Γi P fun Γ' => PD X body Γ' { nx := Iv (i + 1), rt := D.rt, ct := Iv (i + 1), bk := D.nx }) ∧ ∀ Γn, Iv Ps.length Γn → D.nx Γn)
    (hc : X.calm = true := by rfl) (hp : PassesOwn (model X.prog X.w) X.A X.env X.xe := by exact PassesOwn.never) (hs : ∀ x, foldedSetIterable iter X.env x = pure x := by intro _; rfl) : P1 X (.For tg iter body [] pos) Γ D :=
  p_of (ps_for hp hc pi_wp hg (pss_wp (st := body)) hs) fun B σ F H S => wpI_mono (hi B σ F H S) fun J H1 ⟨F1, Ps, Γ1, ⟨Iv, i0, is, id⟩, ⟨G, Y, wk, hG, hY⟩, ex1, S1⟩ => by
    refine for_it wk (fun i σ' H' => ∃ Γi F', Iv i Γi ∧ Sat ⟨F1, B.H0⟩ Γi σ' F' H') ⟨Γ1, F1, i0, S1.rebase⟩ (fun i σ' H' _ ⟨Γi, F', _, S'⟩ => hG H' (S'.bF.trans S'.ex)) ?_ ?_
    · rintro i x σ' H' H2 hlt ⟨Γi, F', iv, S'⟩ y
      obtain ⟨P, hP⟩ : ∃ P, Ps[i]? = some P := ⟨Ps[i], List.getElem?_eq_getElem hlt⟩
      obtain ⟨F2, px, gr⟩ := hY i P H' x H2 F' S'.bF S'.ex hP y
      refine is i P Γi hP iv ⟨F1, B.H0⟩ σ' F2 H2 x (S'.grow gr) px _ fun σ2 Γ2 w2 S2 => ?_
      refine wpSs_mono (w2 ⟨F1, B.H0⟩ σ2 F2 H2 S2) ⟨fun σ3 H3 q => q, ?_, ?_, fun σ3 H3 q => q⟩
      · rintro v H3 ⟨P3, F3, q1, q2, q3⟩
        exact ⟨P3, F3, q1, q2, OutB.unbase S1 q3⟩
      · rintro σ3 H3 ⟨Γ3, F3, q1, q2⟩
        exact ⟨Γ3, F3, q1, S1.unbase q2⟩
    · rintro σ' H' ⟨Γi, F', iv, S'⟩
      exact ⟨Γi, F', id Γi iv, S1.unbase S'⟩
theorem p_while {c : Expr} {body : List Stmt} (Iv : Nat → Ctx → Prop) (m0 : Nat) (h0 : Iv m0 Γ) (hs : ∀ m Γi, Iv m Γi → PB X c Γi fun k Γ1 => if k = true then PD X body Γ1 { nx := fun Γ' => ∃ m', m' < m ∧ Iv m' Γ', rt := D.rt, ct := fun Γ' => ∃ m', m' < m ∧ Iv m' Γ', bk := D.nx } else D.nx Γ1)
    (hp : PassesOwn (model X.prog X.w) X.A X.env X.xe := by exact PassesOwn.never) : P1 X (.While c body [] pos) Γ D :=
  p_of (ps_while hp pt_wp (pss_wp (st := body))) fun B σ F H S => by
    refine ⟨fun m σ' H' => ∃ Γi F', Iv m Γi ∧ Sat B Γi σ' F' H', ⟨m0, Γ, F, h0, S⟩, ?_⟩
    rintro m σ' H' ⟨Γi, F', iv, S'⟩
    refine wpT_mono (hs m Γi iv B σ' F' H' S') fun k H1 ⟨F1, Γ1, w, ex1, S1⟩ => ?_
    cases k with
    | true =>
      refine iteT ⟨fun σ2 H2 => ∃ Γ2 F2, (∃ m', m' < m ∧ Iv m' Γ2) ∧ Sat B Γ2 σ2 F2 H2, ?_, ?_⟩
      · rintro σ2 H2 ⟨Γ2, F2, ⟨m', hm, iv2⟩, S2⟩
        exact ⟨m', hm, Γ2, F2, iv2, S2⟩
      · rw [if_pos rfl] at w
        exact wpSs_mono (w B σ' F1 H1 S1) ⟨fun _ _ q => q, fun _ _ q => q, fun _ _ q => q, fun _ _ q => q⟩
    | false => exact iteF ⟨Γ1, F1, w, S1⟩
/-! ### what is walked -/
theorem i_list {tg : Expr} {WI : List Fct → Ctx → Prop} (h : PV X e Γ fun P Γ1 => ∃ Ps, P = fLst X.K Ps ∧ WI Ps Γ1) : DI X tg e Γ WI := fun B σ F H S => wpI_of (pi_list pe_wp) (wpE_mono (h B σ F H S) fun v H1 ⟨F1, P, Γ1, ⟨Ps, e1, w⟩, p, ex1, S1⟩ => by
  subst e1
  obtain ⟨a, xs, h1, h2, h3⟩ := p
  refine ⟨a, h1, ⟨xs, SqL.of (S1.ex a _ h2)⟩, F1, Ps, Γ1, w, ⟨fun H => SqL X.K H a xs, YAt xs, ?_, fun H ex => SqL.of (ex a _ h2), ?_⟩, ex1, S1⟩
  · rw [← h3.length]
    exact walk_list
  · rintro i P H x H' F2 ef eh hP ⟨rfl, hx⟩
    obtain ⟨P', q1, q2⟩ := h3.get hx
    rw [hP] at q1
    cases q1
    exact ⟨F2, P.up ef q2, Grow.refl eh⟩)
theorem i_tup {tg : Expr} {WI : List Fct → Ctx → Prop} (h : PV X e Γ fun P Γ1 => ∃ Ps, P = fTup X.K Ps ∧ WI Ps Γ1) : DI X tg e Γ WI := fun B σ F H S => wpI_of (pi_tup pe_wp) (wpE_mono (h B σ F H S) fun v H1 ⟨F1, P, Γ1, ⟨Ps, e1, w⟩, p, ex1, S1⟩ => by
  subst e1
  obtain ⟨a, xs, h1, h2, h3⟩ := p
  refine ⟨a, h1, ⟨xs, Evl.ex_t S1.ex h2⟩, F1, Ps, Γ1, w, ⟨fun H => SqT X.K H a xs, YAt xs, ?_, fun H ex => Evl.ex_t ex h2, ?_⟩, ex1, S1⟩
  · rw [← h3.length]
    exact walk_tup
  · rintro i P H x H' F2 ef eh hP ⟨rfl, hx⟩
    obtain ⟨P', q1, q2⟩ := h3.get hx
    rw [hP] at q1
    cases q1
    exact ⟨F2, P.up ef q2, Grow.refl eh⟩)
theorem i_range {tg : Expr} {p : Pos} {WI : List Fct → Ctx → Prop} (hm : X.mg "range" = none) (h : PV X a Γ fun P Γ1 => ∃ n : Int, P = fInt n ∧ -100000 ≤ n ∧ n ≤ 100000 ∧ WI ((List.range n.toNat).map fun (i : Nat) => fInt (i : Int)) Γ1) (hg : Gl X "range" := by rfl)
    (hs : starEach [a] X.env = [(false, eval a X.env)] := by rfl) : DI X tg (.Call (.Name "range" p) [a] [] pos) Γ WI := fun B σ F H S => wpI_of (pi_range1 hg hm (pa_cons pe_wp pa_nil hs) hs) (wpE_mono (h B σ F H S) fun v H1 ⟨F1, P, Γ1, ⟨n, e1, h1, h2, w⟩, p, ex1, S1⟩ => by
  subst e1
  have p : v = .int n := p
  subst p
  refine ⟨n, rfl, by omega, by omega, F1, _, Γ1, w, ⟨fun _ => True, YFn fun i => .int ((0 : Int) + i), ?_, fun _ _ => trivial, ?_⟩, ex1, S1⟩
  · rw [List.length_map, List.length_range]
    exact walk_range
  · rintro i P H x H' F2 ef eh hP ⟨rfl, hx⟩
    rw [List.getElem?_map] at hP
    cases q : (List.range n.toNat)[i]? with
    | none =>
      rw [q] at hP
      cases hP
    | some j =>
      rw [q] at hP
      have hj : j = i := by
        obtain ⟨z1, z2⟩ := List.getElem?_eq_some_iff.mp q
        rw [List.getElem_range] at z2
        exact z2.symm
      subst hj
      cases hP
      refine ⟨F2, ?_, Grow.refl eh⟩
      show x = .int (j : Int)
      rw [hx]
      show V.int (0 + (j : Int)) = .int (j : Int)
      rw [Int.zero_add])
end
end DL

/-! DL3: comprehensions over facts. -/
namespace DL
open PySem L2 PyProof.Rows
section
variable {B : Base} {Γ : Ctx} {σ : L2.St} {F H : Hp}
theorem wipeC_get {i : Nat} : ∀ {vs : List Nat}, (wipeC Γ vs)[i]? = if i ∈ vs ∧ i < Γ.length then some .no else Γ[i]?
  | [] => by simp [wipeC]
  | v :: vs => by
    unfold wipeC
    by_cases hv : v = i
    · subst hv
      by_cases hl : v < Γ.length
      · rw [List.getElem?_set_self (by rw [wipeC_length]; exact hl), if_pos ⟨List.mem_cons_self, hl⟩]
      · rw [List.getElem?_eq_none (by rw [List.length_set, wipeC_length]; omega), if_neg (fun z => hl z.2), List.getElem?_eq_none (by omega)]
    · rw [List.getElem?_set_ne hv, wipeC_get (vs := vs)]
      have e : (i ∈ v :: vs) ↔ i ∈ vs := by
        rw [List.mem_cons]
        exact ⟨fun z => z.resolve_left (fun q => hv q.symm), Or.inr⟩
      simp only [e]
theorem wipeC_set {vs : List Nat} {j : Nat} {s : Slot} (h : j ∈ vs) : wipeC ((wipeC Γ vs).set j s) vs = wipeC Γ vs := by
  apply List.ext_getElem?
  intro i
  rw [wipeC_get, List.length_set, wipeC_length, wipeC_get]
  by_cases hi : i ∈ vs ∧ i < Γ.length
  · rw [if_pos hi, if_pos hi]
  · rw [if_neg hi, if_neg hi]
    by_cases hj : j = i
    · subst hj
      have hl : ¬ j < Γ.length := fun z => hi ⟨h, z⟩
      rw [List.getElem?_eq_none (by rw [List.length_set, wipeC_length]; omega), List.getElem?_eq_none (by omega)]
    · rw [List.getElem?_set_ne hj, wipeC_get, if_neg hi]
theorem wipe_get {i : Nat} : ∀ {vs : List Nat}, i ∉ vs → (L2.wipe σ vs)[i]? = σ[i]?
  | [], _ => rfl
  | v :: vs, h => by
    unfold L2.wipe
    rw [List.getElem?_set_ne (fun z => h (by rw [z]; exact List.mem_cons_self)), wipe_get fun z => h (List.mem_cons_of_mem _ z)]
theorem Sat.unwipe {vs : List Nat} (S : Sat B Γ (L2.wipe σ vs) F H) : Sat B (wipeC Γ vs) σ F H := by
  have hlen : Γ.length = σ.length := S.len.trans (L2.wipe_length _ _)
  have key : ∀ (m : Nat) (s : Slot), (wipeC Γ vs)[m]? = some s → s = .no ∨ (m ∉ vs ∧ Γ[m]? = some s) := fun m s e => by
    rw [wipeC_get] at e
    split at e
    · exact .inl (Option.some.inj e).symm
    · rename_i hn
      by_cases hm : m ∈ vs
      · have hl : ¬ m < Γ.length := fun z => hn ⟨hm, z⟩
        rw [List.getElem?_eq_none (by omega)] at e
        cases e
      · exact .inr ⟨hm, e⟩
  refine ⟨S.ex, S.bF, S.bH, S.off, by rw [wipeC_length]; exact hlen, fun i s ov e1 e2 => ?_, fun j k O1 O2 a hjk e1 e2 e3 e4 => ?_⟩
  · rcases key i s e1 with rfl | ⟨hm, e⟩
    · trivial
    · exact S.sl i s ov e (by rw [wipe_get hm]; exact e2)
  · rcases key j _ e1 with h | ⟨h1, h2⟩
    · cases h
    · rcases key k _ e2 with h | ⟨h3, h4⟩
      · cases h
      · exact S.ap j k O1 O2 a hjk h2 h4 (by rw [wipe_get h1]; exact e3) (by rw [wipe_get h3]; exact e4)
/-- a new list at D that a block fills, beside all else -/
theorem Sat.startD {D : Addr} {o : HO} (S : Sat B Γ σ F H) (hD : H D = none) : Sat ⟨F, upd B.H0 D o⟩ Γ σ F (upd H D o) := by
  have old : ∀ (j : Nat) (O1 : Own), Γ[j]? = some (.ow O1) → σ[j]? ≠ some (some (.ref D)) := fun j O1 e z => by
    obtain ⟨b, u, e1, _, _, e2, _⟩ := S.getO e
    rw [e1] at z
    injection z with z
    injection z with z
    injection z with z
    rw [z, hD] at e2
    cases e2
  have fD : F D = none := Evl.fresh_back S.ex hD
  refine ⟨fun c w e => ?_, Evl.Ex.refl _, fun c w e => ?_, fun c h1 h2 => h2, S.len, fun i s ov e1 e2 => ?_, S.ap⟩
  · rw [upd_ne (ne_of_none e fD)]
    exact S.ex c w e
  · by_cases hc : c = D
    · subst hc
      have e : upd B.H0 c o c = some w := e
      rw [upd_same] at e ⊢
      exact e
    · have e : upd B.H0 D o c = some w := e
      rw [upd_ne hc] at e ⊢
      exact S.bH c w e
  · have z := S.sl i s ov e1 e2
    cases s with
    | no => trivial
    | fz P => exact z
    | ow O =>
      obtain ⟨a, u, z1, z2, z3, z4, z5⟩ := z
      subst z1
      have na : a ≠ D := fun q => old i O e1 (by rw [e2, q])
      exact ⟨a, u, rfl, z2, by show upd B.H0 D o a = none; rw [upd_ne na]; exact z3, by rw [upd_ne na]; exact z4, z5⟩
theorem Sat.atD {F1 H0 : Hp} {D : Addr} {o : HO} (S : Sat ⟨F1, upd H0 D o⟩ Γ σ F H) (fD : F1 D = none) : H D = some o ∧ F D = none := ⟨S.bH D o upd_same, S.off D (by show upd H0 D o D ≠ none; rw [upd_same]; exact fun z => nomatch z) fD⟩
theorem Sat.stepD {F1 H0 : Hp} {D : Addr} {o o' : HO} (S : Sat ⟨F1, upd H0 D o⟩ Γ σ F H) (fD : F1 D = none) : Sat ⟨F1, upd H0 D o'⟩ Γ σ F (upd H D o') := by
  obtain ⟨hD, gD⟩ := S.atD fD
  refine ⟨fun c w e => ?_, S.bF, fun c w e => ?_, fun c h1 h2 => ?_, S.len, fun i s ov e1 e2 => ?_, S.ap⟩
  · rw [upd_ne (ne_of_none e gD)]
    exact S.ex c w e
  · by_cases hc : c = D
    · subst hc
      have e : upd H0 c o' c = some w := e
      rw [upd_same] at e ⊢
      exact e
    · have e : upd H0 D o' c = some w := e
      rw [upd_ne hc] at e ⊢
      exact S.bH c w (by show upd H0 D o c = some w; rw [upd_ne hc]; exact e)
  · by_cases hc : c = D
    · subst hc
      exact gD
    · refine S.off c ?_ h2
      have h1 : upd H0 D o' c ≠ none := h1
      show upd H0 D o c ≠ none
      rw [upd_ne hc] at h1 ⊢
      exact h1
  · have z := S.sl i s ov e1 e2
    cases s with
    | no => trivial
    | fz P => exact z
    | ow O =>
      obtain ⟨a, u, z1, z2, z3, z4, z5⟩ := z
      subst z1
      have z3 : upd H0 D o a = none := z3
      have na : a ≠ D := fun q => by
        subst q
        rw [upd_same] at z3
        cases z3
      exact ⟨a, u, rfl, z2, by show upd H0 D o' a = none; rw [upd_ne na] at z3 ⊢; exact z3, by rw [upd_ne na]; exact z4, z5⟩
/-- the list is known to all -/
theorem Sat.endD {σ1 : L2.St} {F1 H1 : Hp} {D : Addr} {o : HO} {Γ1 : Ctx} (S1 : Sat B Γ1 σ1 F1 H1) (hD : H1 D = none) (S : Sat ⟨F1, upd B.H0 D o⟩ Γ σ F H) : Ex F (upd F D o) ∧ Sat B Γ σ (upd F D o) H := by
  have fD1 : F1 D = none := Evl.fresh_back S1.ex hD
  have bD : B.H0 D = none := Evl.fresh_back S1.bH hD
  obtain ⟨hd, fD⟩ := S.atD fD1
  have ex : Ex F (upd F D o) := Evl.Ex.new fD
  refine ⟨ex, fun c w e => ?_, (S1.bF.trans S.bF).trans ex, fun c w e => ?_, fun c h1 h2 => ?_, S.len, fun i s ov e1 e2 => ?_, S.ap⟩
  · by_cases hc : c = D
    · subst hc
      rw [upd_same] at e
      cases e
      exact hd
    · rw [upd_ne hc] at e
      exact S.ex c w e
  · exact S.bH c w (by show upd B.H0 D o c = some w; rw [upd_ne (ne_of_none e bD)]; exact e)
  · have hc : c ≠ D := fun z => h1 (z ▸ bD)
    rw [upd_ne hc]
    exact S.off c (by show upd B.H0 D o c ≠ none; rw [upd_ne hc]; exact h1) (S1.off c h1 h2)
  · have z := S.sl i s ov e1 e2
    cases s with
    | no => trivial
    | fz P =>
      obtain ⟨v, z1, z2⟩ := z
      exact ⟨v, z1, P.up ex z2⟩
    | ow O =>
      obtain ⟨a, u, z1, z2, z3, z4, z5⟩ := z
      have z3 : upd B.H0 D o a = none := z3
      have na : a ≠ D := fun q => by
        subst q
        rw [upd_same] at z3
        cases z3
      rw [upd_ne na] at z3
      exact ⟨a, u, z1, by rw [upd_ne na]; exact z2, z3, z4, O.up ex z5⟩
end
section
variable (X : Cx) (scope : Scope)
abbrev bX (s : Shared) (H : Hp) (C : Addr) (cl : List (Str × Addr)) (fp : List Addr) : Cx := X.blk s H scope (compEnvC scope cl C X.env) fp
def allE (e : Expr) : TE := fun σ H Q => ∀ s H0 C cl fp, wpE (bX X scope s H0 C cl fp) e σ H Q
def allTs : List Expr → TT
  | [] => tYes
  | [c] => fun σ H Q => ∀ s H0 C cl fp, wpT (bX X scope s H0 C cl fp) c σ H Q
  | _ => fun _ _ _ => False
def PVb (e : Expr) (Γ : Ctx) (W : Fct → Ctx → Prop) : Prop := ∀ s H0 C cl fp, PV (bX X scope s H0 C cl fp) e Γ W
def PIfb (ifs : List Expr) (Γ : Ctx) (W : Bool → Ctx → Prop) : Prop := match ifs with
  | [] => W true Γ
  | [c] => ∀ s H0 C cl fp, PB (bX X scope s H0 C cl fp) c Γ W
  | _ => False
variable {X scope}
theorem pe_all {e : Expr} (s : Shared) (H : Hp) (C : Addr) (cl : List (Str × Addr)) (fp : List Addr) : PE (X.blk s H scope (compEnvC scope cl C X.env) fp) e (allE X scope e) := ⟨fun pins s0 _ _ _ I h => h s H C cl fp pins s0 I⟩
theorem pts_all {ifs : List Expr} (s : Shared) (H : Hp) (C : Addr) (cl : List (Str × Addr)) (fp : List Addr) : PTs (X.blk s H scope (compEnvC scope cl C X.env) fp) ifs (allTs X scope ifs) := by
  match ifs with
  | [] => exact pts_nil
  | [c] => exact pts_one ⟨fun pins s0 _ _ _ I h => h s H C cl fp pins s0 I⟩
  | _ :: _ :: _ => exact ⟨fun _ _ _ _ _ _ h => h.elim⟩
theorem allE_run {e : Expr} {Γ : Ctx} {W : Fct → Ctx → Prop} (h : PVb X scope e Γ W) {B : Base} {σ : L2.St} {F H : Hp} (S : Sat B Γ σ F H) {Q : VK} (q : ∀ v H' F' P Γ', W P Γ' → P.p v F' → Ex F F' → Sat B Γ' σ F' H' → Q v H') : allE X scope e σ H Q := fun s H0 C cl fp =>
  wpE_mono (h s H0 C cl fp B σ F H S) fun v H' ⟨F', P, Γ', w, p, ex, S'⟩ => q v H' F' P Γ' w p ex S'
theorem allTs_run {ifs : List Expr} {Γ : Ctx} {W : Bool → Ctx → Prop} (h : PIfb X scope ifs Γ W) {B : Base} {σ : L2.St} {F H : Hp} (S : Sat B Γ σ F H) {Q : Bool → Hp → Prop} (q : ∀ b H' F' Γ', W b Γ' → Ex F F' → Sat B Γ' σ F' H' → Q b H') : allTs X scope ifs σ H Q := by
  match ifs, h with
  | [], h => exact q true H F Γ h (Evl.Ex.refl _) S
  | [c], h => exact fun s H0 C cl fp => wpT_mono (h s H0 C cl fp B σ F H S) fun b H' ⟨F', Γ', w, ex, S'⟩ => q b H' F' Γ' w ex S'
  | _ :: _ :: _, h => exact h.elim
end
section
variable {X : Cx} {Γ : Ctx} {elt tg iter : Expr} {ifs : List Expr} {scope : Scope} {own : List (Str × Nat)} {pos : Pos} {W : Fct → Ctx → Prop} {j : Nat}
/-- what a comprehension asks: Iv by the turn, the facts of the list so far, the slots -/
def LcW (X : Cx) (scope : Scope) (elt : Expr) (ifs : List Expr) (vs : List Nat) (j : Nat) (Γ1 : Ctx) (Ps : List Fct) (W : Fct → Ctx → Prop) : Prop := ∃ Iv : Nat → List Fct → Ctx → Prop, Ps.length ≤ 50000 ∧ Iv 0 [] (wipeC Γ1 vs) ∧
  (∀ (i : Nat) (P : Fct) (acc : List Fct) (Γi : Ctx), Ps[i]? = some P → Iv i acc Γi → PIfb X scope ifs (Γi.set j (.fz P)) fun b Γ2 => if b = true then PVb X scope elt Γ2 fun R Γ3 => Iv (i + 1) (acc ++ [R]) (wipeC Γ3 vs) else Iv (i + 1) acc (wipeC Γ2 vs)) ∧
  ∀ acc Γn, Iv Ps.length acc Γn → W (fLst X.K acc) (wipeC Γn vs)
theorem wipe_wipe {σ : L2.St} {vs : List Nat} : L2.wipe (L2.wipe σ vs) vs = L2.wipe σ vs := by
  have g : ∀ (σ : L2.St) (vs : List Nat) (i : Nat), (L2.wipe σ vs)[i]? = if i ∈ vs ∧ i < σ.length then some none else σ[i]? := by
    intro σ vs i
    induction vs with
    | nil => simp [L2.wipe]
    | cons v vs ih =>
      unfold L2.wipe
      by_cases hv : v = i
      · subst hv
        by_cases hl : v < σ.length
        · rw [List.getElem?_set_self (by rw [L2.wipe_length]; exact hl), if_pos ⟨List.mem_cons_self, hl⟩]
        · rw [List.getElem?_eq_none (by rw [List.length_set, L2.wipe_length]; omega), if_neg (fun z => hl z.2), List.getElem?_eq_none (by omega)]
      · rw [List.getElem?_set_ne hv, ih]
        have e : (i ∈ v :: vs) ↔ i ∈ vs := by
          rw [List.mem_cons]
          exact ⟨fun z => z.resolve_left (fun q => hv q.symm), Or.inr⟩
        simp only [e]
  apply List.ext_getElem?
  intro i
  rw [g, L2.wipe_length, g]
  split
  · rfl
  · rfl
theorem wipe_set {σ : L2.St} {vs : List Nat} {j : Nat} {v : Option V} (h : j ∈ vs) : L2.wipe ((L2.wipe σ vs).set j v) vs = L2.wipe σ vs := by
  have g : ∀ (σ : L2.St) (vs : List Nat) (i : Nat), (L2.wipe σ vs)[i]? = if i ∈ vs ∧ i < σ.length then some none else σ[i]? := by
    intro σ vs i
    induction vs with
    | nil => simp [L2.wipe]
    | cons v vs ih =>
      unfold L2.wipe
      by_cases hv : v = i
      · subst hv
        by_cases hl : v < σ.length
        · rw [List.getElem?_set_self (by rw [L2.wipe_length]; exact hl), if_pos ⟨List.mem_cons_self, hl⟩]
        · rw [List.getElem?_eq_none (by rw [List.length_set, L2.wipe_length]; omega), if_neg (fun z => hl z.2), List.getElem?_eq_none (by omega)]
      · rw [List.getElem?_set_ne hv, ih]
        have e : (i ∈ v :: vs) ↔ i ∈ vs := by
          rw [List.mem_cons]
          exact ⟨fun z => z.resolve_left (fun q => hv q.symm), Or.inr⟩
        simp only [e]
  apply List.ext_getElem?
  intro i
  rw [g, List.length_set, L2.wipe_length, g]
  by_cases hi : i ∈ vs ∧ i < σ.length
  · rw [if_pos hi, if_pos hi]
  · rw [if_neg hi, if_neg hi]
    by_cases hj : j = i
    · subst hj
      have hl : ¬ j < σ.length := fun z => hi ⟨h, z⟩
      rw [List.getElem?_eq_none (by rw [List.length_set, L2.wipe_length]; omega), List.getElem?_eq_none (by omega)]
    · rw [List.getElem?_set_ne hj, g, if_neg hi]
theorem lc_sat {wi : TI} {vs : List Nat} (hj : j ∈ vs) {B : Base} {σ : L2.St} {F1 H1 : Hp} {Γ1 : Ctx} {J : It} {Ps : List Fct} (S1 : Sat B Γ1 σ F1 H1) (hw : DW F1 J Ps) (hl : LcW X scope elt ifs vs j Γ1 Ps W) {Q : VK} (q : ∀ v H' F' P Γ', W P Γ' → P.p v F' → Ex F1 F' → Sat B Γ' σ F' H' → Q v H') :
    ∀ D, H1 D = none → ∃ W : Nat → Nat → Hp → Prop, (∃ m, W 0 m (upd H1 D (.lst []))) ∧ ∀ i m H, W i m H → (J.stop i H ∧ Q (.ref D) H) ∨ (J.go i H ∧ ∃ Nx : Hp → Prop, (∀ H', Nx H' → ∃ m', m' < m ∧ W (i + 1) m' H') ∧ ∀ x H', J.yld i H x H' → gName j x (L2.wipe σ vs) H' fun σ2 H2 => L2.wipe σ2 vs = L2.wipe σ vs ∧ allTs X scope ifs σ2 H2 fun b H3 =>
      if b = true then allE X scope elt σ2 H3 fun y H4 => ∃ acc, H4 D = some (.lst acc) ∧ acc.length < sizeLine ∧ Nx (upd H4 D (.lst (acc ++ [y]))) else Nx H3) := by
  obtain ⟨Iv, hsz, i0, is, id⟩ := hl
  obtain ⟨G, Y, wk, hG, hY⟩ := hw
  intro D hD
  have fD : F1 D = none := Evl.fresh_back S1.ex hD
  refine lc_it wk (fun i H => ∃ F Γi acc accF, Iv i accF Γi ∧ AllP acc accF F ∧ acc.length ≤ i ∧ Sat ⟨F1, upd B.H0 D (.lst acc)⟩ Γi (L2.wipe σ vs) F H) ⟨F1, wipeC Γ1 vs, [], [], i0, .nil, Nat.le_refl _, (S1.wipe vs).startD hD⟩ (fun i H _ ⟨F, Γi, acc, accF, _, _, _, S⟩ => hG H (S.bF.trans S.ex)) ?_ ?_
  · rintro i x H H' hlt ⟨F, Γi, acc, accF, iv, al, hle, S⟩ y
    obtain ⟨P, hP⟩ : ∃ P, Ps[i]? = some P := ⟨Ps[i], List.getElem?_eq_getElem hlt⟩
    obtain ⟨F2, px, gr⟩ := hY i P H x H' F S.bF S.ex hP y
    have S2 := (S.grow gr).set (i := j) px
    refine ⟨wipe_set hj, allTs_run (is i P accF Γi hP iv) S2 fun b H3 F3 Γ3 w3 ex3 S3 => ?_⟩
    cases b with
    | false =>
      refine iteF ⟨F3, wipeC Γ3 vs, acc, accF, w3, al.up (gr.f.trans ex3), Nat.le_succ_of_le hle, ?_⟩
      have S4 := S3.wipe vs
      rw [wipe_set hj] at S4
      exact S4
    | true =>
      refine iteT (allE_run w3 S3 fun v H4 F4 R Γ4 w4 p4 ex4 S4 => ?_)
      refine ⟨acc, (S4.atD fD).1, Nat.lt_of_le_of_lt hle (Nat.lt_of_lt_of_le hlt (Evl.sz_of (by omega))), F4, wipeC Γ4 vs, acc ++ [v], accF ++ [R], w4, (al.up ((gr.f.trans ex3).trans ex4)).append (.cons p4 .nil), ?_, ?_⟩
      · rw [List.length_append, List.length_singleton]
        omega
      · have S5 := (S4.stepD (o' := .lst (acc ++ [v])) fD).wipe vs
        rw [wipe_set hj] at S5
        exact S5
  · rintro H ⟨F, Γi, acc, accF, iv, al, hle, S⟩
    obtain ⟨ex, S'⟩ := Sat.endD S1 hD S
    refine q (.ref D) H _ _ _ (id accF Γi iv) ⟨D, acc, rfl, upd_same, al.up ex⟩ (S.bF.trans ex) S'.unwipe
theorem v_lc (ok : BlkOk X.N X.env.scope scope own) (hN : X.N.Nodup) (hj : j ∈ own.map (·.2)) (hg : ∀ s H C cl fp, PG (X.blk s H scope (compEnvC scope cl C X.env) fp) tg (gName j))
    (hi : DI X tg iter Γ fun Ps Γ1 => LcW X scope elt ifs (own.map (·.2)) j Γ1 Ps W) (hc : X.calm = true := by rfl) (hs : ∀ x, foldedSetIterable iter X.env x = pure x := by intro _; rfl) : PV X (.ListComp elt [⟨tg, iter, ifs, 0⟩] scope pos) Γ W :=
  v_of (pe_lc hc hN pi_wp ok hg (fun s H C cl fp => pts_all s H C cl fp) (fun s H C cl fp => pe_all s H C cl fp) hs) fun B σ F H S =>
    wpI_mono (hi B σ F H S) fun J H1 ⟨F1, Ps, Γ1, w, dw, ex1, S1⟩ => lc_sat (wi := wpI X tg iter) (Q := fun v H' => ∃ F' P Γ', W P Γ' ∧ P.p v F' ∧ Ex F F' ∧ Sat B Γ' σ F' H') hj S1 dw w fun v H' F' P Γ' w' p ex' S' => ⟨F', P, Γ', w', p, ex1.trans ex', S'⟩
/-- y = [..] on one row -/
theorem p_setLc {D : DE} {i : Nat} {y : Str} {py spos : Pos} (ok : BlkOk X.N X.env.scope scope own) (hN : X.N.Nodup) (hj : j ∈ own.map (·.2)) (hg : ∀ s H C cl fp, PG (X.blk s H scope (compEnvC scope cl C X.env) fp) tg (gName j))
    (hsw : swapsWith (.ListComp elt [⟨tg, iter, ifs, 0⟩] scope pos) (some (.Name y py)) spos.line X.env = pure true)
    (hi : DI X tg iter Γ fun Ps Γ1 => LcW X scope elt ifs (own.map (·.2)) j Γ1 Ps fun P Γ2 => D.nx (Γ2.set i (.fz P))) (hy : X.N[i]? = some y := by rfl) (hyl : X.env.scope.names.lookup y = some .local := by rfl) (hc : X.calm = true := by rfl) (hs : ∀ x, foldedSetIterable iter X.env x = pure x := by intro _; rfl) :
    P1 X (.Assign [.Name y py] (.ListComp elt [⟨tg, iter, ifs, 0⟩] scope pos) spos) Γ D :=
  p_of (ps_setLc hc hN hy hyl hsw pi_wp ok hg (fun s H C cl fp => pts_all s H C cl fp) (fun s H C cl fp => pe_all s H C cl fp) hs) fun B σ F H S =>
    wpI_mono (hi B σ F H S) fun J H1 ⟨F1, Ps, Γ1, w, dw, ex1, S1⟩ => lc_sat (wi := wpI X tg iter) (Q := fun x H1 => gName i x σ H1 (conc B D).nx) hj S1 dw w fun v H' F' P Γ' w' p ex' S' => ⟨_, F', w', S'.set p⟩
/-- a pure one: of the items xs those with k, each by g -/
theorem lcw_of {α : Type} {vs : List Nat} {Γ1 : Ctx} (hj : j ∈ vs) (xs : List α) (f g : α → Fct) (k : α → Bool) (hl : xs.length ≤ 50000)
    (h : ∀ x ∈ xs, PIfb X scope ifs ((wipeC Γ1 vs).set j (.fz (f x))) fun b Γ2 => b = k x ∧ Γ2 = (wipeC Γ1 vs).set j (.fz (f x)) ∧ (k x = true → PVb X scope elt ((wipeC Γ1 vs).set j (.fz (f x))) fun R Γ3 => R = g x ∧ Γ3 = (wipeC Γ1 vs).set j (.fz (f x))))
    (hW : W (fLst X.K ((xs.filter k).map g)) (wipeC Γ1 vs)) : LcW X scope elt ifs vs j Γ1 (xs.map f) W := by
  refine ⟨fun i acc Γi => Γi = wipeC Γ1 vs ∧ acc = ((xs.take i).filter k).map g, by rw [List.length_map]; exact hl, ⟨rfl, by simp⟩, ?_, ?_⟩
  · rintro i P acc Γi hP ⟨rfl, rfl⟩
    rw [List.getElem?_map] at hP
    cases hx : xs[i]? with
    | none =>
      rw [hx] at hP
      cases hP
    | some x =>
      rw [hx] at hP
      cases hP
      have hm : x ∈ xs := List.mem_of_getElem? hx
      have et : xs.take (i + 1) = xs.take i ++ [x] := by
        rw [List.take_add_one, hx]
        rfl
      have key := h x hm
      have fin : ∀ b Γ2, (b = k x ∧ Γ2 = (wipeC Γ1 vs).set j (.fz (f x)) ∧ (k x = true → PVb X scope elt ((wipeC Γ1 vs).set j (.fz (f x))) fun R Γ3 => R = g x ∧ Γ3 = (wipeC Γ1 vs).set j (.fz (f x)))) →
          (if b = true then PVb X scope elt Γ2 fun R Γ3 => wipeC Γ3 vs = wipeC Γ1 vs ∧ ((xs.take i).filter k).map g ++ [R] = ((xs.take (i + 1)).filter k).map g else wipeC Γ2 vs = wipeC Γ1 vs ∧ ((xs.take i).filter k).map g = ((xs.take (i + 1)).filter k).map g) := by
        rintro b Γ2 ⟨rfl, rfl, hv⟩
        cases hk : k x with
        | true =>
          refine iteT fun s H0 C cl fp => (hv hk s H0 C cl fp).imp ?_
          rintro R Γ3 ⟨rfl, rfl⟩
          refine ⟨wipeC_set hj, ?_⟩
          rw [et, List.filter_append, List.map_append, List.filter_cons, if_pos hk]
          rfl
        | false =>
          refine iteF ⟨wipeC_set hj, ?_⟩
          rw [et, List.filter_append, List.map_append, List.filter_cons, if_neg (by rw [hk]; decide)]
          simp
      match ifs, key with
      | [], key => exact fin _ _ key
      | [c], key => exact fun s H0 C cl fp => (key s H0 C cl fp).imp fin
      | _ :: _ :: _, key => exact key.elim
  · rintro acc Γn ⟨rfl, rfl⟩
    have e : wipeC (wipeC Γ1 vs) vs = wipeC Γ1 vs := by
      apply List.ext_getElem?
      intro i
      rw [wipeC_get, wipeC_length, wipeC_get]
      split <;> rfl
    rw [e, List.length_map, List.take_length]
    exact hW
end
end DL

/-! DL4: comprehensions of two clauses (pure ones). -/
namespace DL
open PySem L2 PyProof.Rows
section
variable (X : Cx) (scope : Scope)
def allI (tg iter : Expr) : TI := fun σ H R => ∀ s H0 C cl fp, wpI (bX X scope s H0 C cl fp) tg iter σ H R
def DIb (tg iter : Expr) (Γ : Ctx) (W : List Fct → Ctx → Prop) : Prop := ∀ s H0 C cl fp, DI (bX X scope s H0 C cl fp) tg iter Γ W
variable {X scope}
theorem pi_all {tg iter : Expr} (s : Shared) (H : Hp) (C : Addr) (cl : List (Str × Addr)) (fp : List Addr) : PI (X.blk s H scope (compEnvC scope cl C X.env) fp) tg iter (allI X scope tg iter) := ⟨fun pins s0 _ _ _ I h => h s H C cl fp pins s0 I⟩
theorem allI_run {tg iter : Expr} {Γ : Ctx} {W : List Fct → Ctx → Prop} (h : DIb X scope tg iter Γ W) {B : Base} {σ : L2.St} {F H : Hp} (S : Sat B Γ σ F H) {Q : It → Hp → Prop} (q : ∀ J H' F' Ps Γ', W Ps Γ' → DW F' J Ps → Ex F F' → Sat B Γ' σ F' H' → Q J H') : allI X scope tg iter σ H Q := fun s H0 C cl fp =>
  wpI_mono (h s H0 C cl fp B σ F H S) fun J H' ⟨F', Ps, Γ', w, dw, ex, S'⟩ => q J H' F' Ps Γ' w dw ex S'
end
theorem allTs_nil_run {X : Cx} {scope : Scope} {σ : L2.St} {H : Hp} {Q : Bool → Hp → Prop} (h : Q true H) : allTs X scope [] σ H Q := h
theorem walk_turns {J : It} {n : Nat} {G : Hp → Prop} {Y : Nat → Hp → V → Hp → Prop} (w : Walk J n G Y) {T : Nat → V → Hp → (Hp → Prop) → Prop} {H1 : Hp} {Qd : Hp → Prop} (Pv : Nat → Hp → Prop) (h0 : Pv 0 H1) (hG : ∀ i H, i ≤ n → Pv i H → G H)
    (hs : ∀ i x H H', i < n → Pv i H → Y i H x H' → T i x H' (Pv (i + 1))) (hd : ∀ H, Pv n H → Qd H) :
    ∃ W : Nat → Nat → Hp → Prop, (∃ m, W 0 m H1) ∧ ∀ i m H, W i m H → (J.stop i H ∧ Qd H) ∨ (J.go i H ∧ ∃ Nx : Hp → Prop, (∀ H', Nx H' → ∃ m', m' < m ∧ W (i + 1) m' H') ∧ ∀ x H', J.yld i H x H' → T i x H' Nx) := by
  refine ⟨fun i m H => m = n - i ∧ i ≤ n ∧ Pv i H, ⟨n, by simp, Nat.zero_le _, h0⟩, ?_⟩
  rintro i m H ⟨rfl, hi, p⟩
  have q := hG i H hi p
  by_cases hlt : i < n
  · refine .inr ⟨w.goes i H hlt q, Pv (i + 1), fun H' p' => ⟨n - (i + 1), by omega, rfl, hlt, p'⟩, fun x H' y => hs i x H H' hlt p (w.yields i H x H' hlt q y)⟩
  · have e : i = n := by omega
    subst e
    exact .inl ⟨w.stops H q, hd H p⟩
theorem wipeC_sub {Γ : Ctx} {vs vs1 : List Nat} {j : Nat} {s : Slot} (hj : j ∈ vs) (h : ∀ i ∈ vs1, i ∈ vs) : wipeC (wipeC ((wipeC Γ vs).set j s) vs1) vs = wipeC Γ vs := by
  apply List.ext_getElem?
  intro i
  rw [wipeC_get, wipeC_length, List.length_set, wipeC_length, wipeC_get, wipeC_get, List.length_set, wipeC_length]
  by_cases hi : i ∈ vs ∧ i < Γ.length
  · rw [if_pos hi, if_pos hi]
  · rw [if_neg hi, if_neg hi, if_neg (fun z => hi ⟨h i z.1, z.2⟩)]
    by_cases hk : j = i
    · subst hk
      have hl : ¬ j < Γ.length := fun z => hi ⟨hj, z⟩
      rw [List.getElem?_eq_none (by rw [List.length_set, wipeC_length]; omega), List.getElem?_eq_none (by omega)]
    · rw [List.getElem?_set_ne hk, wipeC_get, if_neg hi]
theorem wipe_getAll (σ : L2.St) (vs : List Nat) (i : Nat) : (L2.wipe σ vs)[i]? = if i ∈ vs ∧ i < σ.length then some none else σ[i]? := by
  induction vs with
  | nil => simp [L2.wipe]
  | cons v vs ih =>
    unfold L2.wipe
    by_cases hv : v = i
    · subst hv
      by_cases hl : v < σ.length
      · rw [List.getElem?_set_self (by rw [L2.wipe_length]; exact hl), if_pos ⟨List.mem_cons_self, hl⟩]
      · rw [List.getElem?_eq_none (by rw [List.length_set, L2.wipe_length]; omega), if_neg (fun z => hl z.2), List.getElem?_eq_none (by omega)]
    · rw [List.getElem?_set_ne hv, ih]
      have e : (i ∈ v :: vs) ↔ i ∈ vs := by
        rw [List.mem_cons]
        exact ⟨fun z => z.resolve_left (fun q => hv q.symm), Or.inr⟩
      simp only [e]
theorem wipe_sub {σ : L2.St} {vs vs1 : List Nat} {j : Nat} {v : Option V} (hj : j ∈ vs) (h : ∀ i ∈ vs1, i ∈ vs) : L2.wipe (L2.wipe ((L2.wipe σ vs).set j v) vs1) vs = L2.wipe σ vs := by
  apply List.ext_getElem?
  intro i
  rw [wipe_getAll, L2.wipe_length, List.length_set, L2.wipe_length, wipe_getAll, wipe_getAll, List.length_set, L2.wipe_length]
  by_cases hi : i ∈ vs ∧ i < σ.length
  · rw [if_pos hi, if_pos hi]
  · rw [if_neg hi, if_neg hi, if_neg (fun z => hi ⟨h i z.1, z.2⟩)]
    by_cases hk : j = i
    · subst hk
      have hl : ¬ j < σ.length := fun z => hi ⟨hj, z⟩
      rw [List.getElem?_eq_none (by rw [List.length_set, L2.wipe_length]; omega), List.getElem?_eq_none (by omega)]
    · rw [List.getElem?_set_ne hk, wipe_getAll, if_neg hi]
section
variable {X : Cx} {Γ : Ctx} {elt tg iter tg1 iter1 : Expr} {ifs : List Expr} {scope : Scope} {own : List (Str × Nat)} {vs1 : List Nat} {pos : Pos} {W : Fct → Ctx → Prop} {j j1 : Nat}
def res2 {α β : Type} (ys : α → List β) (k : α → β → Bool) (g : α → β → Fct) (l : List α) : List Fct := l.flatMap fun x => ((ys x).filter (k x)).map (g x)
theorem res2_len {α β : Type} (ys : α → List β) (k : α → β → Bool) (g : α → β → Fct) (m : Nat) : ∀ l : List α, (∀ x ∈ l, (ys x).length ≤ m) → (res2 ys k g l).length ≤ l.length * m
  | [], _ => by simp [res2]
  | x :: l, h => by
    have ih := res2_len ys k g m l fun y hy => h y (List.mem_cons_of_mem _ hy)
    have hx := h x List.mem_cons_self
    have e : res2 ys k g (x :: l) = ((ys x).filter (k x)).map (g x) ++ res2 ys k g l := by
      unfold res2
      rw [List.flatMap_cons]
    have hf := List.length_filter_le (k x) (ys x)
    rw [e, List.length_append, List.length_map, List.length_cons, Nat.succ_mul]
    omega
/-- for x in xs (by f) for y in ys x (by f1 x) if k x y: g x y -/
def Lc2W {α β : Type} (X : Cx) (scope : Scope) (elt tg1 iter1 : Expr) (ifs : List Expr) (vs vs1 : List Nat) (j j1 : Nat) (Γ1 : Ctx) (xs : List α) (f : α → Fct) (ys : α → List β) (f1 : α → β → Fct) (k : α → β → Bool) (g : α → β → Fct) : Prop :=
  xs.length ≤ 200 ∧ (∀ x ∈ xs, (ys x).length ≤ 200) ∧ ∀ x ∈ xs, DIb X scope tg1 iter1 ((wipeC Γ1 vs).set j (.fz (f x))) fun Ps Γ2 => Ps = (ys x).map (f1 x) ∧ Γ2 = (wipeC Γ1 vs).set j (.fz (f x)) ∧
    ∀ y ∈ ys x, PIfb X scope ifs ((wipeC ((wipeC Γ1 vs).set j (.fz (f x))) vs1).set j1 (.fz (f1 x y))) fun b Γ3 => b = k x y ∧ Γ3 = (wipeC ((wipeC Γ1 vs).set j (.fz (f x))) vs1).set j1 (.fz (f1 x y)) ∧
      (k x y = true → PVb X scope elt ((wipeC ((wipeC Γ1 vs).set j (.fz (f x))) vs1).set j1 (.fz (f1 x y))) fun R Γ4 => R = g x y ∧ Γ4 = (wipeC ((wipeC Γ1 vs).set j (.fz (f x))) vs1).set j1 (.fz (f1 x y)))
theorem lc2_sat {α β : Type} {vs : List Nat} (hj : j ∈ vs) (hj1 : j1 ∈ vs1) (hvs : ∀ i ∈ vs1, i ∈ vs) {xs : List α} {f : α → Fct} {ys : α → List β} {f1 : α → β → Fct} {k : α → β → Bool} {g : α → β → Fct} {B : Base} {σ : L2.St} {F1 H1 : Hp} {Γ1 : Ctx} {J : It} (S1 : Sat B Γ1 σ F1 H1) (hw : DW F1 J (xs.map f))
    (hl : Lc2W X scope elt tg1 iter1 ifs vs vs1 j j1 Γ1 xs f ys f1 k g) {Q : VK} (q : ∀ v H' F', (fLst X.K (res2 ys k g xs)).p v F' → Ex F1 F' → Sat B (wipeC Γ1 vs) σ F' H' → Q v H') :
    ∀ D, H1 D = none → ∃ W : Nat → Nat → Hp → Prop, (∃ m, W 0 m (upd H1 D (.lst []))) ∧ ∀ i m H, W i m H → (J.stop i H ∧ Q (.ref D) H) ∨ (J.go i H ∧ ∃ Nx : Hp → Prop, (∀ H', Nx H' → ∃ m', m' < m ∧ W (i + 1) m' H') ∧ ∀ x H', J.yld i H x H' → gName j x (L2.wipe σ vs) H' fun σ2 H2 => L2.wipe σ2 vs = L2.wipe σ vs ∧ allTs X scope [] σ2 H2 fun b H3 =>
      if b = true then allI X scope tg1 iter1 σ2 H3 fun J1 H4 => ∃ W1 : Nat → Nat → Hp → Prop, (∃ m, W1 0 m H4) ∧ ∀ i1 k1 H, W1 i1 k1 H →
        (J1.stop i1 H ∧ Nx H) ∨ (J1.go i1 H ∧ ∃ Nx1 : Hp → Prop, (∀ H', Nx1 H' → ∃ k', k' < k1 ∧ W1 (i1 + 1) k' H') ∧ ∀ x H', J1.yld i1 H x H' → gName j1 x (L2.wipe σ2 vs1) H' fun σ3 H5 => L2.wipe σ3 vs1 = L2.wipe σ2 vs1 ∧ allTs X scope ifs σ3 H5 fun b H6 =>
          if b = true then allE X scope elt σ3 H6 fun y H7 => ∃ acc, H7 D = some (.lst acc) ∧ acc.length < sizeLine ∧ Nx1 (upd H7 D (.lst (acc ++ [y]))) else Nx1 H6)
      else Nx H3) := by
  obtain ⟨hz, hz2, hin⟩ := hl
  obtain ⟨G, Y, wk, hG, hY⟩ := hw
  intro D hD
  have fD : F1 D = none := Evl.fresh_back S1.ex hD
  have small : ∀ (i : Nat) (x : α) (i1 : Nat) (acc : List V) (F : Hp), xs[i]? = some x → AllP acc (res2 ys k g (xs.take i) ++ (((ys x).take i1).filter (k x)).map (g x)) F → acc.length < sizeLine := fun i x i1 acc F hx al => by
    have h1 := res2_len ys k g 200 (xs.take i) fun y hy => hz2 y (List.mem_of_mem_take hy)
    have h2 := List.length_filter_le (k x) ((ys x).take i1)
    have h3 := hz2 x (List.mem_of_getElem? hx)
    have h4 : (xs.take i).length ≤ 200 := by rw [List.length_take]; omega
    have h5 : ((ys x).take i1).length ≤ 200 := by rw [List.length_take]; omega
    have h6 : (xs.take i).length * 200 ≤ 200 * 200 := Nat.mul_le_mul_right _ h4
    have h7 := al.length
    rw [List.length_append, List.length_map] at h7
    exact Evl.sz_lt (by omega)
  refine walk_turns wk (T := fun i x H' Nx => gName j x (L2.wipe σ vs) H' fun σ2 H2 => L2.wipe σ2 vs = L2.wipe σ vs ∧ allTs X scope [] σ2 H2 fun b H3 => if b = true then allI X scope tg1 iter1 σ2 H3 fun J1 H4 => ∃ W1 : Nat → Nat → Hp → Prop, (∃ m, W1 0 m H4) ∧ ∀ i1 k1 H, W1 i1 k1 H →
        (J1.stop i1 H ∧ Nx H) ∨ (J1.go i1 H ∧ ∃ Nx1 : Hp → Prop, (∀ H', Nx1 H' → ∃ k', k' < k1 ∧ W1 (i1 + 1) k' H') ∧ ∀ x H', J1.yld i1 H x H' → gName j1 x (L2.wipe σ2 vs1) H' fun σ3 H5 => L2.wipe σ3 vs1 = L2.wipe σ2 vs1 ∧ allTs X scope ifs σ3 H5 fun b H6 =>
          if b = true then allE X scope elt σ3 H6 fun y H7 => ∃ acc, H7 D = some (.lst acc) ∧ acc.length < sizeLine ∧ Nx1 (upd H7 D (.lst (acc ++ [y]))) else Nx1 H6) else Nx H3)
    (fun i H => ∃ F acc, AllP acc (res2 ys k g (xs.take i)) F ∧ Sat ⟨F1, upd B.H0 D (.lst acc)⟩ (wipeC Γ1 vs) (L2.wipe σ vs) F H) ⟨F1, [], by simp [res2]; exact .nil, (S1.wipe vs).startD hD⟩ (fun i H _ ⟨F, acc, _, S⟩ => hG H (S.bF.trans S.ex)) ?_ ?_
  · rintro i xv H H' hlt ⟨F, acc, al, S⟩ y
    rw [List.length_map] at hlt
    have hx : xs[i]? = some xs[i] := List.getElem?_eq_getElem hlt
    generalize xs[i] = x at hx
    have hP : (xs.map f)[i]? = some (f x) := by rw [List.getElem?_map, hx]; rfl
    obtain ⟨F2, px, gr⟩ := hY i (f x) H xv H' F S.bF S.ex hP y
    have S2 := (S.grow gr).set (i := j) px
    have hm : x ∈ xs := List.mem_of_getElem? hx
    have et : res2 ys k g (xs.take (i + 1)) = res2 ys k g (xs.take i) ++ ((ys x).filter (k x)).map (g x) := by
      unfold res2
      rw [List.take_add_one, hx, List.flatMap_append]
      simp
    refine ⟨wipe_set hj, allTs_nil_run ?_⟩
    dsimp -failIfUnchanged only
    rw [if_pos rfl]
    refine allI_run (hin x hm) S2 ?_
    rintro J1 H4 F4 Ps Γ4 ⟨rfl, rfl, hy⟩ ⟨G1, Y1, wk1, hG1, hY1⟩ ex4 S4
    refine walk_turns wk1 (T := fun i1 x H' Nx1 => gName j1 x (L2.wipe ((L2.wipe σ vs).set j (some xv)) vs1) H' fun σ3 H5 => L2.wipe σ3 vs1 = L2.wipe ((L2.wipe σ vs).set j (some xv)) vs1 ∧ allTs X scope ifs σ3 H5 fun b H6 =>
          if b = true then allE X scope elt σ3 H6 fun y H7 => ∃ acc, H7 D = some (.lst acc) ∧ acc.length < sizeLine ∧ Nx1 (upd H7 D (.lst (acc ++ [y]))) else Nx1 H6)
      (fun i1 H => ∃ F acc, Ex F4 F ∧ AllP acc (res2 ys k g (xs.take i) ++ (((ys x).take i1).filter (k x)).map (g x)) F ∧ Sat ⟨F1, upd B.H0 D (.lst acc)⟩ (wipeC ((wipeC Γ1 vs).set j (.fz (f x))) vs1) (L2.wipe ((L2.wipe σ vs).set j (some xv)) vs1) F H)
      ⟨F4, acc, Evl.Ex.refl _, by simp; exact al.up (gr.f.trans ex4), S4.wipe vs1⟩ (fun i1 H _ ⟨F, acc, e4, _, S⟩ => hG1 H (e4.trans S.ex)) ?_ ?_
    · rintro i1 yv H5 H6 hlt1 ⟨F5, acc5, e5, al5, S5⟩ yy
      rw [List.length_map] at hlt1
      have hy1 : (ys x)[i1]? = some (ys x)[i1] := List.getElem?_eq_getElem hlt1
      generalize (ys x)[i1] = y1 at hy1
      have hP1 : ((ys x).map (f1 x))[i1]? = some (f1 x y1) := by rw [List.getElem?_map, hy1]; rfl
      obtain ⟨F6, px6, gr6⟩ := hY1 i1 (f1 x y1) H5 yv H6 F5 e5 S5.ex hP1 yy
      have S6 := (S5.grow gr6).set (i := j1) px6
      have hm1 : y1 ∈ ys x := List.mem_of_getElem? hy1
      have et1 : (ys x).take (i1 + 1) = (ys x).take i1 ++ [y1] := by
        rw [List.take_add_one, hy1]
        rfl
      refine ⟨wipe_set hj1, allTs_run (hy y1 hm1) S6 ?_⟩
      rintro b H7 F7 Γ7 ⟨rfl, rfl, hv⟩ ex7 S7
      cases hk : k x y1 with
      | false =>
        refine iteF ⟨F7, acc5, (e5.trans gr6.f).trans ex7, ?_, ?_⟩
        · rw [et1, List.filter_append, List.filter_cons, if_neg (by rw [hk]; decide), List.filter_nil, List.append_nil]
          exact al5.up (gr6.f.trans ex7)
        · have S8 := S7.wipe vs1
          rw [wipe_set hj1, wipeC_set hj1] at S8
          exact S8
      | true =>
        refine iteT (allE_run (hv hk) S7 ?_)
        rintro v H8 F8 R Γ8 ⟨rfl, rfl⟩ p8 ex8 S8
        refine ⟨acc5, (S8.atD fD).1, small i x i1 acc5 F5 hx al5, F8, acc5 ++ [v], ((e5.trans gr6.f).trans ex7).trans ex8, ?_, ?_⟩
        · rw [et1, List.filter_append, List.filter_cons, if_pos hk, List.filter_nil, List.map_append, ← List.append_assoc]
          exact (al5.up ((gr6.f.trans ex7).trans ex8)).append (.cons p8 .nil)
        · have S9 := (S8.stepD (o' := .lst (acc5 ++ [v])) fD).wipe vs1
          rw [wipe_set hj1, wipeC_set hj1] at S9
          exact S9
    · rintro H5 ⟨F5, acc5, e5, al5, S5⟩
      refine ⟨F5, acc5, ?_, ?_⟩
      · rw [List.length_map, List.take_length] at al5
        rw [et]
        exact al5
      · have S6 := S5.wipe vs
        rw [wipe_sub hj hvs, wipeC_sub hj hvs] at S6
        exact S6
  · rintro H ⟨F, acc, al, S⟩
    obtain ⟨ex, S'⟩ := Sat.endD S1 hD S
    rw [List.length_map, List.take_length] at al
    have S2 := S'.unwipe
    have e : wipeC (wipeC Γ1 vs) vs = wipeC Γ1 vs := by
      apply List.ext_getElem?
      intro i
      rw [wipeC_get, wipeC_length, wipeC_get]
      split <;> rfl
    rw [e] at S2
    exact q (.ref D) H _ ⟨D, acc, rfl, upd_same, al.up ex⟩ (S.bF.trans ex) S2
theorem v_lc2 {α β : Type} (ok : BlkOk X.N X.env.scope scope own) (hN : X.N.Nodup) (hj : j ∈ own.map (·.2)) (hj1 : j1 ∈ vs1) (hvs : ∀ i ∈ vs1, i ∈ own.map (·.2)) (hg : ∀ s H C cl fp, PG (X.blk s H scope (compEnvC scope cl C X.env) fp) tg (gName j)) (hg1 : ∀ s H C cl fp, PG (X.blk s H scope (compEnvC scope cl C X.env) fp) tg1 (gName j1))
    (hi : DI X tg iter Γ fun Ps Γ1 => ∃ (xs : List α) (f : α → Fct) (ys : α → List β) (f1 : α → β → Fct) (k : α → β → Bool) (g : α → β → Fct), Ps = xs.map f ∧ Lc2W X scope elt tg1 iter1 ifs (own.map (·.2)) vs1 j j1 Γ1 xs f ys f1 k g ∧ W (fLst X.K (res2 ys k g xs)) (wipeC Γ1 (own.map (·.2))))
    (hc : X.calm = true := by rfl) (hs : ∀ x, foldedSetIterable iter X.env x = pure x := by intro _; rfl) (hs1 : ∀ env x, foldedSetIterable iter1 env x = pure x := by intro _ _; rfl) : PV X (.ListComp elt [⟨tg, iter, [], 0⟩, ⟨tg1, iter1, ifs, 0⟩] scope pos) Γ W :=
  v_of (pe_lc2 hc hN pi_wp ok hvs hg (fun s H C cl fp => pts_all (X := X) (ifs := []) s H C cl fp) (fun s H C cl fp => pi_all s H C cl fp) hg1 (fun s H C cl fp => pts_all s H C cl fp) (fun s H C cl fp => pe_all s H C cl fp) hs hs1) fun B σ F H S =>
    wpI_mono (hi B σ F H S) fun J H1 ⟨F1, Ps, Γ1, ⟨xs, f, ys, f1, k, g, e, w, w2⟩, dw, ex1, S1⟩ => by
      subst e
      exact lc2_sat (Q := fun v H' => ∃ F' P Γ', W P Γ' ∧ P.p v F' ∧ Ex F F' ∧ Sat B Γ' σ F' H') hj hj1 hvs S1 dw w fun v H' F' p ex' S' => ⟨F', _, _, w2, p, ex1.trans ex', S'⟩
theorem p_setLc2 {α β : Type} {D : DE} {i : Nat} {y : Str} {py spos : Pos} (ok : BlkOk X.N X.env.scope scope own) (hN : X.N.Nodup) (hj : j ∈ own.map (·.2)) (hj1 : j1 ∈ vs1) (hvs : ∀ i ∈ vs1, i ∈ own.map (·.2)) (hg : ∀ s H C cl fp, PG (X.blk s H scope (compEnvC scope cl C X.env) fp) tg (gName j)) (hg1 : ∀ s H C cl fp, PG (X.blk s H scope (compEnvC scope cl C X.env) fp) tg1 (gName j1))
    (hsw : swapsWith (.ListComp elt [⟨tg, iter, [], 0⟩, ⟨tg1, iter1, ifs, 0⟩] scope pos) (some (.Name y py)) spos.line X.env = pure true)
    (hi : DI X tg iter Γ fun Ps Γ1 => ∃ (xs : List α) (f : α → Fct) (ys : α → List β) (f1 : α → β → Fct) (k : α → β → Bool) (g : α → β → Fct), Ps = xs.map f ∧ Lc2W X scope elt tg1 iter1 ifs (own.map (·.2)) vs1 j j1 Γ1 xs f ys f1 k g ∧ D.nx ((wipeC Γ1 (own.map (·.2))).set i (.fz (fLst X.K (res2 ys k g xs)))))
    (hy : X.N[i]? = some y := by rfl) (hyl : X.env.scope.names.lookup y = some .local := by rfl) (hc : X.calm = true := by rfl) (hs : ∀ x, foldedSetIterable iter X.env x = pure x := by intro _; rfl) (hs1 : ∀ env x, foldedSetIterable iter1 env x = pure x := by intro _ _; rfl) :
    P1 X (.Assign [.Name y py] (.ListComp elt [⟨tg, iter, [], 0⟩, ⟨tg1, iter1, ifs, 0⟩] scope pos) spos) Γ D :=
  p_of (ps_setLc2 hc hN hy hyl hsw pi_wp ok hvs hg (fun s H C cl fp => pts_all (X := X) (ifs := []) s H C cl fp) (fun s H C cl fp => pi_all s H C cl fp) hg1 (fun s H C cl fp => pts_all s H C cl fp) (fun s H C cl fp => pe_all s H C cl fp) hs hs1) fun B σ F H S =>
    wpI_mono (hi B σ F H S) fun J H1 ⟨F1, Ps, Γ1, ⟨xs, f, ys, f1, k, g, e, w, w2⟩, dw, ex1, S1⟩ => by
      subst e
      exact lc2_sat (Q := fun x H1 => gName i x σ H1 (conc B D).nx) hj hj1 hvs S1 dw w fun v H' F' p ex' S' => ⟨_, F', w2, S'.set p⟩
end
end DL

/-! DL5: dicts whose keys are tuples, nested or not. -/
namespace DL
open PySem L2 PyProof.Rows
mutual
inductive NKV (K : PySem.W.Frag) (H : Hp) : NestedKey → V → Prop
  | int (i : Int) : NKV K H (.num i) (.int i)
  | str (x : Str) : NKV K H (.text x) (.str x)
  | tup {a : Addr} {xs : List V} {ks : List NestedKey} : SqT K H a xs → NKAll K H ks xs → NKV K H (.tup ks) (.ref a)
inductive NKAll (K : PySem.W.Frag) (H : Hp) : List NestedKey → List V → Prop
  | nil : NKAll K H [] []
  | cons {k : NestedKey} {v : V} {ks : List NestedKey} {vs : List V} : NKV K H k v → NKAll K H ks vs → NKAll K H (k :: ks) (v :: vs)
end
mutual
theorem NKV.up {K : PySem.W.Frag} {H H' : Hp} (e : Ex H H') : ∀ (k : NestedKey) (v : V), NKV K H k v → NKV K H' k v
  | .none, _, h => by cases h
  | .num i, _, h => by cases h; exact .int i
  | .text x, _, h => by cases h; exact .str x
  | .tup ks, _, h => by
    cases h with
    | tup h1 h2 => exact .tup (Evl.ex_t e h1) (NKAll.up e ks _ h2)
theorem NKAll.up {K : PySem.W.Frag} {H H' : Hp} (e : Ex H H') : ∀ (ks : List NestedKey) (vs : List V), NKAll K H ks vs → NKAll K H' ks vs
  | [], _, h => by cases h; exact .nil
  | k :: ks, _, h => by
    cases h with
    | cons h1 h2 => exact .cons (NKV.up e k _ h1) (NKAll.up e ks _ h2)
end
mutual
theorem NKV.is {X : Cx} {pins : List (Addr × Obj)} {σ : L2.St} {H : Hp} {s : Shared} (I : Inv X pins σ H s) : ∀ (k : NestedKey) (v : V) (u : Value), NKV X.K H k v → RelV v u → NestedIs s.heap k u
  | .none, _, _, h, _ => by cases h
  | .num i, _, _, h, r => by
    cases h
    obtain ⟨t, rfl⟩ := r
    exact .int i t
  | .text x, _, _, h, r => by
    cases h
    obtain ⟨t, rfl⟩ := r
    exact .text x t
  | .tup ks, _, _, h, r => by
    cases h with
    | tup h1 h2 =>
      cases r
      obtain ⟨its, rv, ⟨o, e1, e2, n, e3⟩, _⟩ := I.tuple h1
      exact .tup e1 e2 e3 (by simpa using NKAll.is I ks _ _ h2 rv)
theorem NKAll.is {X : Cx} {pins : List (Addr × Obj)} {σ : L2.St} {H : Hp} {s : Shared} (I : Inv X pins σ H s) : ∀ (ks : List NestedKey) (vs : List V) (us : List Value), NKAll X.K H ks vs → Vals vs us → NestedAll s.heap ks us
  | [], _, _, h, r => by cases h; cases r; exact .nil
  | k :: ks, _, _, h, r => by
    cases h with
    | cons h1 h2 =>
      cases r with
      | cons r1 r2 => exact .cons (NKV.is I k _ _ h1 r1) (NKAll.is I ks _ _ h2 r2)
end
/-! ### the object -/
def DnR (p : NestedKey × Addr × V) (q : NestedKey × Addr × Value) : Prop := p.1 = q.1 ∧ p.2.1 = q.2.1 ∧ RelV p.2.2 q.2.2
def dnPhi (P : Program) (w : World) (d : Addr) (xs : List (NestedKey × Addr × V)) (h : Heap) : Prop := xs.length ≤ sizeLine ∧ (d == sysModules) = false ∧ ∃ ys, Paired DnR xs ys ∧ ∃ o es ep, h.get? d = some o ∧ o.ExactDict ∧ o.data = .dict es ep ∧ es.toList = ys.map (entryOfKey (nestedKind P w)) ∧ (ys.map (·.1)).Nodup
def DNo (P : Program) (w : World) (d : Addr) (xs : List (NestedKey × Addr × V)) : HO := .ext (dnPhi P w d xs)
theorem dn_ok {P : Program} {w : World} {d : Addr} {xs : List (NestedKey × Addr × V)} {H : Hp} {h : Heap} (x : dnPhi P w d xs h) : ObjOk P w H h d (DNo P w d xs) := by
  refine ⟨x, ?_, fun h1 h2 q k => ?_⟩
  · obtain ⟨_, _, ys, _, o, es, ep, e, _⟩ := x
    exact ⟨o, e⟩
  · obtain ⟨z, y, ys, r, o, es, ep, e, q⟩ := q
    exact ⟨z, y, ys, r, o, es, ep, k o e, q⟩
def KeysAt (K : PySem.W.Frag) (H : Hp) (xs : List (NestedKey × Addr × V)) : Prop := ∀ p ∈ xs, NKV K H p.1 (.ref p.2.1) ∧ p.1.depth ≤ 8
theorem KeysAt.up {K : PySem.W.Frag} {H H' : Hp} (e : Ex H H') {xs : List (NestedKey × Addr × V)} (h : KeysAt K H xs) : KeysAt K H' xs := fun p hp => ⟨NKV.up e _ _ (h p hp).1, (h p hp).2⟩
theorem DnR.mem : ∀ {xs : List (NestedKey × Addr × V)} {ys : List (NestedKey × Addr × Value)}, Paired DnR xs ys → ∀ y ∈ ys, ∃ x ∈ xs, x.1 = y.1 ∧ x.2.1 = y.2.1
  | _, _, .nil, y, hy => by cases hy
  | _, _, .cons (a := x) r t, y, hy => by
    rcases List.mem_cons.mp hy with e | hy
    · rw [e]
      exact ⟨x, List.mem_cons_self, r.1, r.2.1⟩
    · obtain ⟨x', hx', e⟩ := DnR.mem t y hy
      exact ⟨x', List.mem_cons_of_mem _ hx', e⟩
section
variable {X : Cx} {pins : List (Addr × Obj)} {σ : L2.St} {H : Hp} {s : Shared}
theorem dn_of {d : Addr} {xs : List (NestedKey × Addr × V)} (I : Inv X pins σ H s) (e : H d = some (DNo X.prog X.w d xs)) (k : KeysAt X.K H xs) :
    ∃ ys, Paired DnR xs ys ∧ s.heap.DictOfH (nestedKind X.prog X.w) d ys ∧ xs.length ≤ sizeLine ∧ (d == sysModules) = false := by
  obtain ⟨⟨z, y, ys, r, o, es, ep, h1, h2, h3, h4, h5⟩, _⟩ := (show ObjOk X.prog X.w H s.heap d (DNo X.prog X.w d xs) from I.hok d _ e)
  refine ⟨ys, r, ⟨o, es, ep, h1, h2, h3, h4, fun q hq => ?_, h5⟩, z, y⟩
  obtain ⟨p, hp, e1, e2⟩ := DnR.mem r q hq
  obtain ⟨k1, k2⟩ := k p hp
  rw [← e1, ← e2]
  exact ⟨NKV.is I _ _ _ k1 rfl, k2⟩
theorem key_is {k : NestedKey} {a : Addr} (I : Inv X pins σ H s) (h : NKV X.K H k (.ref a)) (hd : k.depth ≤ 8) : (nestedKind X.prog X.w).is s.heap k a := ⟨NKV.is I _ _ _ h rfl, hd⟩
theorem room8 {j : Nat} {A : Around} (hr : Room j A) : (nestedKind X.prog X.w).room A.in1 := by
  have := hr.units
  show A.units + 1 + 8 < cLine
  omega
/-! ### look, put -/
def atX {α : Type} (xs : List (NestedKey × Addr × α)) (k : NestedKey) : Option (Addr × α) := (xs.find? fun x => decide (x.1 = k)).map (·.2)
def putX {α : Type} (xs : List (NestedKey × Addr × α)) (k : NestedKey) (a : Addr) (v : α) : List (NestedKey × Addr × α) := if (atX xs k).isSome then xs.map (fun x => if x.1 = k then (x.1, x.2.1, v) else x) else xs ++ [(k, a, v)]
theorem at_rel (k : NestedKey) : ∀ {xs : List (NestedKey × Addr × V)} {ys : List (NestedKey × Addr × Value)}, Paired DnR xs ys → (atX xs k = none ∧ atKey ys k = none) ∨ ∃ a v u, atX xs k = some (a, v) ∧ atKey ys k = some (a, u) ∧ RelV v u
  | _, _, .nil => .inl ⟨rfl, rfl⟩
  | _, _, .cons (l₁ := xs) (l₂ := ys) (a := x) (b := y) r t => by
    obtain ⟨r1, r2, r3⟩ := r
    by_cases h : x.1 = k
    · refine .inr ⟨x.2.1, x.2.2, y.2.2, ?_, ?_, r3⟩
      · unfold atX
        rw [List.find?_cons_of_pos (by simpa using h)]
        rfl
      · unfold atKey
        rw [List.find?_cons_of_pos (by rw [← r1]; simpa using h), r2]
        rfl
    · have e1 : atX (x :: xs) k = atX xs k := by
        unfold atX
        rw [List.find?_cons_of_neg (by simpa using h)]
      have e2 : atKey (y :: ys) k = atKey ys k := by
        unfold atKey
        rw [List.find?_cons_of_neg (by rw [← r1]; simpa using h)]
      rw [e1, e2]
      exact at_rel k t
theorem put_rel {k : NestedKey} {a : Addr} {v : V} {u : Value} (rv : RelV v u) {xs : List (NestedKey × Addr × V)} {ys : List (NestedKey × Addr × Value)} (r : Paired DnR xs ys) : Paired DnR (putX xs k a v) (storedH ys k a u) := by
  have hs : (atX xs k).isSome = (atKey ys k).isSome := by
    rcases at_rel k r with ⟨e1, e2⟩ | ⟨b, v', u', e1, e2, _⟩
    · rw [e1, e2] <;> rfl
    · rw [e1, e2] <;> rfl
  unfold putX storedH
  rw [hs]
  split
  · rename_i hh
    clear hs hh
    induction r with
    | nil => exact .nil
    | cons h t ih =>
      obtain ⟨r1, r2, r3⟩ := h
      refine .cons ?_ ih
      show DnR (if _ then _ else _) (putAt k u _)
      unfold putAt
      rw [r1]
      split
      · exact ⟨rfl, r2, rv⟩
      · exact ⟨r1, r2, r3⟩
  · exact Paired.append r (.cons ⟨rfl, rfl, rv⟩ .nil)
where Paired.append {α β : Type} {R : α → β → Prop} : ∀ {l1 l2 : List α} {m1 m2 : List β}, Paired R l1 m1 → Paired R l2 m2 → Paired R (l1 ++ l2) (m1 ++ m2)
  | _, _, _, _, .nil, h => h
  | _, _, _, _, .cons h t, q => .cons h (Paired.append t q)
theorem putX_len {α : Type} (xs : List (NestedKey × Addr × α)) (k : NestedKey) (a : Addr) (v : α) : (putX xs k a v).length ≤ xs.length + 1 := by
  unfold putX
  split
  · rw [List.length_map]
    omega
  · rw [List.length_append, List.length_singleton]
    omega
/-- what a store leaves -/
theorem dn_write {d : Addr} {xs xs' : List (NestedKey × Addr × V)} {ys' : List (NestedKey × Addr × Value)} {h' : Heap} {t' : Nat} (I : Inv X pins σ H s) (e : H d = some (DNo X.prog X.w d xs)) (r : Paired DnR xs' ys') (dd : h'.DictOfH (nestedKind X.prog X.w) d ys') (z : xs'.length ≤ sizeLine) (y : (d == sysModules) = false)
    (sb : Heap.SameBut d s.heap h') : Inv X pins σ (upd H d (DNo X.prog X.w d xs')) { s with heap := h', toks := t' } := by
  obtain ⟨o, es, ep, h1, h2, h3, h4, _, h5⟩ := dd
  exact I.write (e := d) (by rw [e]; trivial) (.inl rfl) (fun b u hb q => (sb.2 b hb).trans q) ⟨o, h1⟩ (dn_ok ⟨z, y, ys', r, o, es, ep, h1, h2, h3, h4, h5⟩)
end
/-! ### the rules by values -/
section
variable {X : Cx}
def NDAt (X : Cx) (H : Hp) (d : Addr) (xs : List (NestedKey × Addr × V)) : Prop := H d = some (DNo X.prog X.w d xs) ∧ KeysAt X.K H xs
def rInN (X : Cx) (neg : Bool) : R2 := fun x y H Q => ∃ d xs k a, y = .ref d ∧ x = .ref a ∧ NDAt X H d xs ∧ NKV X.K H k (.ref a) ∧ k.depth ≤ 8 ∧ Q (.bl (if neg then !(atX xs k).isSome else (atX xs k).isSome)) H
theorem op_inN {j : Nat} (hr : Room j X.A) : OpR X (compareOp .In) (rInN X false) := by
  intro pins s σ H x y v u Q I rx ry h
  obtain ⟨d, xs, k, a, rfl, rfl, ⟨hd, hk⟩, hn, hp, q⟩ := h
  cases rx
  cases ry
  obtain ⟨ys, r, dd, z, yy⟩ := dn_of I hd hk
  refine wpAny_in_heap (room8 hr) (key_is I hn hp) yy dd ?_
  have e : (atX xs k).isSome = (atKey ys k).isSome := by
    rcases at_rel k r with ⟨e1, e2⟩ | ⟨b, v', u', e1, e2, _⟩
    · rw [e1, e2] <;> rfl
    · rw [e1, e2] <;> rfl
  rw [← e]
  exact ⟨.bl (atX xs k).isSome, H, I.tok _, rfl, q⟩
theorem op_notInN {j : Nat} (hr : Room j X.A) : OpR X (compareOp .NotIn) (rInN X true) := by
  intro pins s σ H x y v u Q I rx ry h
  obtain ⟨d, xs, k, a, rfl, rfl, ⟨hd, hk⟩, hn, hp, q⟩ := h
  cases rx
  cases ry
  obtain ⟨ys, r, dd, z, yy⟩ := dn_of I hd hk
  have e : (atX xs k).isSome = (atKey ys k).isSome := by
    rcases at_rel k r with ⟨e1, e2⟩ | ⟨b, v', u', e1, e2, _⟩
    · rw [e1, e2] <;> rfl
    · rw [e1, e2] <;> rfl
  show wpAny _ _ (do return Value.bool (!(← contains (.ref d) (.ref a)))) _ _ s
  refine wpAny_bind (wpAny_contains_heap (room8 hr) (key_is I hn hp) yy dd (wpAny_pure ?_))
  rw [← e]
  exact ⟨.bl (!(atX xs k).isSome), H, I.tok _, rfl, q⟩
def rGetN (X : Cx) : R2 := fun x y H Q => ∃ d xs k a b v, x = .ref d ∧ y = .ref a ∧ NDAt X H d xs ∧ NKV X.K H k (.ref a) ∧ k.depth ≤ 8 ∧ atX xs k = some (b, v) ∧ Q v H
theorem ix_N {j : Nat} (hr : Room j X.A) : IxR X (rGetN X) := by
  intro value slice pins s σ H x y v u Q I rx ry h hs
  obtain ⟨d, xs, k, a, b, z0, rfl, rfl, ⟨hd, hk⟩, hn, hp, e, q⟩ := h
  cases rx
  cases ry
  obtain ⟨ys, r, dd, z, yy⟩ := dn_of I hd hk
  rcases at_rel k r with ⟨e1, e2⟩ | ⟨b', v', u', e1, e2, rv⟩
  · rw [e] at e1
    cases e1
  · rw [e] at e1
    cases e1
    exact tail_any dd.typeIs slot_dict_getitem.lookup (wpAny_getItem_heap (room8 hr) (key_is I hn hp) dd e2 ⟨_, H, I.tok _, rv, q⟩) hs
/-- d.get(k, z) -/
def rGet2N (X : Cx) : V → List V → Hp → VK → Prop := fun x vs H Q => ∃ d xs k a z, x = .ref d ∧ vs = [.ref a, z] ∧ NDAt X H d xs ∧ NKV X.K H k (.ref a) ∧ k.depth ≤ 8 ∧ Q (((atX xs k).map (·.2)).getD z) H
theorem mt_get2N {j : Nat} (hr : Room j X.A) : MtR X "dict.get" (rGet2N X) := by
  intro pins s σ H x vs v us Q I rx rvs h
  obtain ⟨d, xs, k, a, z0, rfl, rfl, ⟨hd, hk⟩, hn, hp, q⟩ := h
  cases rx
  obtain ⟨u1, u2, rfl, r1, r2⟩ := vals2 rvs
  cases r1
  obtain ⟨ys, r, dd, z, yy⟩ := dn_of I hd hk
  refine call_meetsIn F.slot_dict_get dd.typeIs F.entry_dict_get (F.args_dict_get_3 _ _ _) (meetsH_dict_get_default (nestedKind X.prog X.w) d a yy u2) ⟨room8 hr, k, ys, key_is I hn hp, dd, ?_⟩
  rcases at_rel k r with ⟨e1, e2⟩ | ⟨b', v', u', e1, e2, rv⟩
  · rw [e1] at q
    rw [e2]
    exact ⟨z0, H, I.tok _, r2, q⟩
  · rw [e1] at q
    rw [e2]
    exact ⟨v', H, I.tok _, rv, q⟩
/-- d.setdefault(k, z) -/
def rSetdN (X : Cx) : V → List V → Hp → VK → Prop := fun x vs H Q => ∃ d xs k a z, x = .ref d ∧ vs = [.ref a, z] ∧ NDAt X H d xs ∧ NKV X.K H k (.ref a) ∧ k.depth ≤ 8 ∧ (∀ b v, atX xs k = some (b, v) → Q v H) ∧
  (atX xs k = none → xs.length < sizeLine ∧ Q z (upd H d (DNo X.prog X.w d (putX xs k a z))))
theorem mt_setdN {j : Nat} (hr : Room j X.A) : MtR X "dict.setdefault" (rSetdN X) := by
  intro pins s σ H x vs v us Q I rx rvs h
  obtain ⟨d, xs, k, a, z0, rfl, rfl, ⟨hd, hk⟩, hn, hp, q1, q2⟩ := h
  cases rx
  obtain ⟨u1, u2, rfl, r1, r2⟩ := vals2 rvs
  cases r1
  obtain ⟨ys, r, dd, z, yy⟩ := dn_of I hd hk
  have hz : ys.length ≤ sizeLine := by rw [← Paired.length r]; exact z
  refine call_setdefault_heap (hsz := hz) (room8 hr) (key_is I hn hp) yy dd (fun p e => ?_) fun e h' dd' sb => ?_
  · rcases at_rel k r with ⟨e1, e2⟩ | ⟨b', v', u', e1, e2, rv⟩
    · rw [e] at e2
      cases e2
    · rw [e] at e2
      cases e2
      exact ⟨v', H, I.tok _, rv, q1 b' v' e1⟩
  · rcases at_rel k r with ⟨e1, e2⟩ | ⟨b', v', u', e1, e2, rv⟩
    · obtain ⟨hl, q⟩ := q2 e1
      exact ⟨z0, _, dn_write I hd (put_rel r2 r) dd' (Nat.le_trans (putX_len _ _ _ _) hl) yy sb, r2, q⟩
    · rw [e] at e2
      cases e2
/-- d[k] = v -/
def rSetN (X : Cx) : TSet := fun o i v H Q => ∃ d xs k a, o = .ref d ∧ i = .ref a ∧ NDAt X H d xs ∧ NKV X.K H k (.ref a) ∧ k.depth ≤ 8 ∧ xs.length < sizeLine ∧ Q (upd H d (DNo X.prog X.w d (putX xs k a v)))
theorem set_N {j : Nat} (hr : Room j X.A) : PSet X (rSetN X) := by
  intro pins s σ H o i v ov iv u Q I ro ri rv h
  obtain ⟨d, xs, k, a, rfl, rfl, ⟨hd, hk⟩, hn, hp, hl, q⟩ := h
  cases ro
  cases ri
  obtain ⟨ys, r, dd, z, yy⟩ := dn_of I hd hk
  have hz : ys.length ≤ sizeLine := by rw [← Paired.length r]; exact z
  exact wpAny_setItem_heap (hsz := hz) (room8 hr) (key_is I hn hp) dd fun h' dd' sb => ⟨_, dn_write I hd (put_rel rv r) dd' (Nat.le_trans (putX_len _ _ _ _) hl) yy sb, q⟩
/-- len(d) -/
def rLenN (X : Cx) : List V → Hp → VK → Prop := fun vs H Q => ∃ d xs, vs = [.ref d] ∧ NDAt X H d xs ∧ Q (.int (xs.length : Nat)) H
theorem call_lenN : CallR X (.builtin "len") (rLenN X) := by
  intro pins s σ H vs us Q I r h
  obtain ⟨d, xs, rfl, ⟨hd, hk⟩, q⟩ := h
  obtain ⟨u, rfl, rx⟩ := vals1 r
  cases rx
  obtain ⟨ys, r, dd, z, yy⟩ := dn_of I hd hk
  have hl : xs.length = ys.length := Paired.length r
  refine call_len_dictH yy dd (by rw [← hl]; rw [sizeLine_eq] at z; omega) ?_
  rw [← hl]
  exact ⟨.int ((xs.length : Nat) : Int), H, I.tok _, ⟨_, rfl⟩, q⟩
/-- {} -/
def tDNewN (X : Cx) : TE := fun _ H Q => ∀ p, H p = none → Q (.ref p) (upd H p (DNo X.prog X.w p []))
theorem pe_dnewN {pos : Pos} : PE X (.Dict [] [] pos) (tDNewN X) := ⟨fun pins s σ H Q I h => by
  refine wpAny_Dict_empty ⟨.ref s.heap.objs.size, _, I.laid (a := s.heap.objs.size) (o := DNo X.prog X.w s.heap.objs.size []) (t' := s.toks) (fun _ _ q => Heap.get?_push_of_some _ q) (Nat.le_refl _) (dn_ok ?_), rfl, h _ (I.hok.fresh (Nat.le_refl _))⟩
  obtain ⟨o, es, ep, h1, h2, h3, h4, _, h5⟩ := Heap.DictOfH.new (knd := nestedKind X.prog X.w) s.heap
  exact ⟨Nat.zero_le _, beq_eq_false_iff_ne.mpr (Ne.symm (Nat.ne_of_lt I.big)), [], .nil, o, es, ep, h1, h2, h3, h4, h5⟩⟩
theorem ty_N : TyOk X "dict" (fun x H => ∃ d xs, x = .ref d ∧ NDAt X H d xs) := by
  intro pins σ H s x v I rx h
  obtain ⟨d, xs, rfl, hd, hk⟩ := h
  cases rx
  obtain ⟨ys, r, ⟨o, es, ep, h1, h2, h3, h4⟩, z, yy⟩ := dn_of I hd hk
  exact ⟨⟨o, h1, h2.1⟩, fun a e => by cases e; exact ⟨o, h1, h2.2.1⟩⟩
end
end DL

/-! DL6: dicts and lists of a def's own, over facts. -/
namespace DL
open PySem L2 PyProof.Rows
/-- the fact that a value is a key -/
def KeyF (K : PySem.W.Frag) (P : Fct) (k : NestedKey) : Prop := k.depth ≤ 8 ∧ ∀ v F, P.p v F → NKV K F k v ∧ ∃ a, v = .ref a
abbrev KF := NestedKey × Fct
def lkF (kvs : List KF) (k : NestedKey) : Option Fct := (kvs.find? fun x => decide (x.1 = k)).map (·.2)
def ptF (kvs : List KF) (k : NestedKey) (R : Fct) : List KF := if (lkF kvs k).isSome then kvs.map (fun x => if x.1 = k then (x.1, R) else x) else kvs ++ [(k, R)]
def DnF (K : PySem.W.Frag) (F : Hp) (x : NestedKey × Addr × V) (kv : KF) : Prop := x.1 = kv.1 ∧ NKV K F x.1 (.ref x.2.1) ∧ x.1.depth ≤ 8 ∧ kv.2.p x.2.2 F
theorem Paired.up {α β : Type} {R R' : α → β → Prop} (h : ∀ a b, R a b → R' a b) : ∀ {l : List α} {m : List β}, Paired R l m → Paired R' l m
  | _, _, .nil => .nil
  | _, _, .cons q t => .cons (h _ _ q) (Paired.up h t)
theorem Paired.app {α β : Type} {R : α → β → Prop} : ∀ {l1 l2 : List α} {m1 m2 : List β}, Paired R l1 m1 → Paired R l2 m2 → Paired R (l1 ++ l2) (m1 ++ m2)
  | _, _, _, _, .nil, h => h
  | _, _, _, _, .cons h t, q => .cons h (Paired.app t q)
/-- a dict -/
def oDN (P : Program) (w : World) (K : PySem.W.Frag) (kvs : List KF) : Own := ⟨fun a o F => ∃ xs, o = DNo P w a xs ∧ Paired (DnF K F) xs kvs, fun e h => by
  obtain ⟨xs, h1, h2⟩ := h
  exact ⟨xs, h1, Paired.up (fun x kv q => ⟨q.1, NKV.up e _ _ q.2.1, q.2.2.1, kv.2.up e q.2.2.2⟩) h2⟩⟩
def fDN (P : Program) (w : World) (K : PySem.W.Frag) (kvs : List KF) : Fct := (oDN P w K kvs).fct
theorem dnf_keys {K : PySem.W.Frag} {F : Hp} : ∀ {xs : List (NestedKey × Addr × V)} {kvs : List KF}, Paired (DnF K F) xs kvs → KeysAt K F xs
  | _, _, .nil, p, hp => by cases hp
  | _, _, .cons q t, p, hp => by
    rcases List.mem_cons.mp hp with e | hp
    · rw [e]
      exact ⟨q.2.1, q.2.2.1⟩
    · exact dnf_keys t p hp
theorem dnf_at {K : PySem.W.Frag} {F : Hp} (k : NestedKey) : ∀ {xs : List (NestedKey × Addr × V)} {kvs : List KF}, Paired (DnF K F) xs kvs → (atX xs k = none ∧ lkF kvs k = none) ∨ ∃ a v R, atX xs k = some (a, v) ∧ lkF kvs k = some R ∧ R.p v F
  | _, _, .nil => .inl ⟨rfl, rfl⟩
  | _, _, .cons (l₁ := xs) (l₂ := kvs) (a := x) (b := y) r t => by
    obtain ⟨r1, _, _, r3⟩ := r
    by_cases h : x.1 = k
    · refine .inr ⟨x.2.1, x.2.2, y.2, ?_, ?_, r3⟩
      · unfold atX
        rw [List.find?_cons_of_pos (by simpa using h)]
        rfl
      · unfold lkF
        rw [List.find?_cons_of_pos (by rw [← r1]; simpa using h)]
        rfl
    · have e1 : atX (x :: xs) k = atX xs k := by
        unfold atX
        rw [List.find?_cons_of_neg (by simpa using h)]
      have e2 : lkF (y :: kvs) k = lkF kvs k := by
        unfold lkF
        rw [List.find?_cons_of_neg (by rw [← r1]; simpa using h)]
      rw [e1, e2]
      exact dnf_at k t
theorem dnf_some {K : PySem.W.Frag} {F : Hp} {k : NestedKey} {xs : List (NestedKey × Addr × V)} {kvs : List KF} (h : Paired (DnF K F) xs kvs) : (atX xs k).isSome = (lkF kvs k).isSome := by
  rcases dnf_at k h with ⟨e1, e2⟩ | ⟨a, v, R, e1, e2, _⟩
  · rw [e1, e2] <;> rfl
  · rw [e1, e2] <;> rfl
theorem dnf_put {K : PySem.W.Frag} {F : Hp} {k : NestedKey} {a : Addr} {v : V} {R : Fct} (hk : NKV K F k (.ref a)) (hd : k.depth ≤ 8) (hv : R.p v F) {xs : List (NestedKey × Addr × V)} {kvs : List KF} (h : Paired (DnF K F) xs kvs) : Paired (DnF K F) (putX xs k a v) (ptF kvs k R) := by
  unfold putX ptF
  rw [dnf_some h]
  split
  · rename_i hh
    clear hh
    induction h with
    | nil => exact .nil
    | cons h t ih =>
      obtain ⟨r1, r2, r3, r4⟩ := h
      refine .cons ?_ ih
      show DnF K F (if _ then _ else _) (if _ then _ else _)
      rw [r1]
      split
      · exact ⟨rfl, by rw [← r1]; exact r2, by rw [← r1]; exact r3, hv⟩
      · exact ⟨r1, r2, r3, r4⟩
  · exact Paired.app h (.cons ⟨rfl, hk, hd, hv⟩ .nil)
theorem upd_self {H : Hp} {a : Addr} {o : HO} (h : H a = some o) : upd H a o = H := by
  funext b
  unfold upd
  split
  · rename_i e
    rw [e, h]
  · rfl
section
variable {X : Cx} {Γ : Ctx} {e a b : Expr} {pos : Pos} {W : Fct → Ctx → Prop} {WB : Bool → Ctx → Prop}
theorem ndat_of {F H : Hp} {d : Addr} {xs : List (NestedKey × Addr × V)} {kvs : List KF} (ex : Ex F H) (hd : H d = some (DNo X.prog X.w d xs)) (h : Paired (DnF X.K F) xs kvs) : NDAt X H d xs := ⟨hd, (dnf_keys h).up ex⟩
/-! #### a dict that all know -/
theorem o2_inN {kvs : List KF} {P : Fct} {k : NestedKey} (hk : KeyF X.K P k) : Op2 (rInN X false) P (fDN X.prog X.w X.K kvs) (fBl (lkF kvs k).isSome) := by
  intro v v' F H ex p p' Q q
  obtain ⟨d, o, e1, e2, xs, e3, h⟩ := p'
  subst e3
  obtain ⟨h1, a, rfl⟩ := hk.2 v F p
  refine ⟨d, xs, k, a, e1, rfl, ndat_of ex (ex d _ e2) h, NKV.up ex _ _ h1, hk.1, ?_⟩
  show Q (.bl (atX xs k).isSome) H
  rw [dnf_some h]
  exact q _ F H rfl (Grow.refl ex)
theorem o2_notInN {kvs : List KF} {P : Fct} {k : NestedKey} (hk : KeyF X.K P k) : Op2 (rInN X true) P (fDN X.prog X.w X.K kvs) (fBl (!(lkF kvs k).isSome)) := by
  intro v v' F H ex p p' Q q
  obtain ⟨d, o, e1, e2, xs, e3, h⟩ := p'
  subst e3
  obtain ⟨h1, a, rfl⟩ := hk.2 v F p
  refine ⟨d, xs, k, a, e1, rfl, ndat_of ex (ex d _ e2) h, NKV.up ex _ _ h1, hk.1, ?_⟩
  show Q (.bl (!(atX xs k).isSome)) H
  rw [dnf_some h]
  exact q _ F H rfl (Grow.refl ex)
theorem o2_getN {kvs : List KF} {P R : Fct} {k : NestedKey} (hk : KeyF X.K P k) (hl : lkF kvs k = some R) : Op2 (rGetN X) (fDN X.prog X.w X.K kvs) P R := by
  intro v v' F H ex p p' Q q
  obtain ⟨d, o, e1, e2, xs, e3, h⟩ := p
  subst e3
  obtain ⟨h1, a, rfl⟩ := hk.2 v' F p'
  rcases dnf_at k h with ⟨_, e4⟩ | ⟨b, z, R', e4, e5, hz⟩
  · rw [hl] at e4
    cases e4
  · rw [hl] at e5
    cases e5
    exact ⟨d, xs, k, a, b, z, e1, rfl, ndat_of ex (ex d _ e2) h, NKV.up ex _ _ h1, hk.1, e4, q z F H hz (Grow.refl ex)⟩
theorem om_get2N {kvs : List KF} {P R : Fct} {k : NestedKey} (hk : KeyF X.K P k) : OpM (rGet2N X) (fDN X.prog X.w X.K kvs) [P, R] ((lkF kvs k).getD R) := by
  intro v vs F H ex p ps Q q
  obtain ⟨d, o, e1, e2, xs, e3, h⟩ := p
  subst e3
  cases ps with
  | cons p1 ps =>
    cases ps with
    | cons p2 ps =>
      cases ps
      obtain ⟨h1, a, rfl⟩ := hk.2 _ F p1
      refine ⟨d, xs, k, a, _, e1, rfl, ndat_of ex (ex d _ e2) h, NKV.up ex _ _ h1, hk.1, ?_⟩
      rcases dnf_at k h with ⟨e4, e5⟩ | ⟨b, z, R', e4, e5, hz⟩
      · rw [e5] at q
        rw [e4]
        exact q _ F H p2 (Grow.refl ex)
      · rw [e5] at q
        rw [e4]
        exact q _ F H hz (Grow.refl ex)
theorem oc_lenN {kvs : List KF} : OpC (rLenN X) [fDN X.prog X.w X.K kvs] (fInt (kvs.length : Nat)) := by
  intro vs F H ex ps Q q
  cases ps with
  | cons p ps =>
    cases ps
    obtain ⟨d, o, e1, e2, xs, e3, h⟩ := p
    subst e3 e1
    refine ⟨d, xs, rfl, ndat_of ex (ex d _ e2) h, ?_⟩
    rw [Paired.length h]
    exact q _ F H rfl (Grow.refl ex)
/-! #### methods -/
def FTy (X : Cx) (P : Fct) (ty : V → Hp → Prop) : Prop := ∀ v F H, Ex F H → P.p v F → ty v H
/-- o.m(e, ..), the receiver known to all -/
theorem v_mG {o : Expr} {name : Str} {apos : Pos} {es : List Expr} {T id : String} {r : V → List V → Hp → VK → Prop} {ty : V → Hp → Prop} (ht : TyOk X T ty) (pa : PlainAttrs T) (slot : PySem.Slot T name id) (hty : typeOf (.builtin id) = pure (.type "method_descriptor")) (hm : MtR X id r)
    (h : PV X o Γ fun P Γ1 => FTy X P ty ∧ PAs X (a :: es) Γ1 fun Ps Γ2 => ∃ R, OpM r P Ps R ∧ W R Γ2)
    (hbase : attributeBase o name X.env (eval o X.env) = eval o X.env := by rfl)
    (hfew : ((backTo pos (starEach (a :: es) X.env)).all (fun x => !x.1) && (backToKw pos (keywordEach [] X.env)).all (fun x => x.1.isSome)
      && decide ((a :: es).length + ([] : List Keyword).length + (if ([] : List Keyword).isEmpty then 0 else 1) < 30)) = true := by rfl)
    (hline : (apos.endLine == pos.line) = true := by rfl) (hs : starEach (a :: es) X.env = (false, eval a X.env) :: starEach es X.env := by rfl) (hplain : (backTo pos (starEach es X.env)).any (·.1) = false := by rfl) :
    PV X (.Call (.Attribute o name apos) (a :: es) [] pos) Γ W := by
  refine v_of (pe_mG ht pa slot hty hm pe_wp pa_wp hbase hfew hline hs hplain) fun B σ F H S => wpE_mono (h B σ F H S) fun v H1 ⟨F1, P, Γ1, ⟨h1, w⟩, p, ex1, S1⟩ => ?_
  refine ⟨h1 v F1 H1 S1.ex p, wpA_mono (w B σ F1 H1 S1) fun vs H2 ⟨F2, Ps, Γ2, ⟨R, ho, w2⟩, ps, ex2, S2⟩ => ?_⟩
  exact ho v vs F2 H2 S2.ex (P.up ex2 p) ps _ fun z F' H' q g => ⟨F', R, Γ2, w2, q, (ex1.trans ex2).trans g.f, S2.grow g⟩
def OwnTy (X : Cx) (O : Own) (ty : V → Hp → Prop) : Prop := ∀ a o F H, Ex F H → H a = some o → O.p a o F → ty (.ref a) H
def OwnM (r : V → List V → Hp → VK → Prop) (O : Own) (Ps : List Fct) (Z : Fct → Own → Prop) : Prop := ∀ a o vs F H, F a = none → H a = some o → O.p a o F → Ex F H → AllP vs Ps F → ∀ Q : VK, (∀ R O' z o', Z R O' → R.p z F → O'.p a o' F → Q z (upd H a o')) → r (.ref a) vs H Q
/-- d.m(e, ..), d a name whose object is our own -/
theorem v_mO (i : Nat) {x name : Str} {xpos apos : Pos} {es : List Expr} {T id : String} {r : V → List V → Hp → VK → Prop} {ty : V → Hp → Prop} {O0 : Own} (ht : TyOk X T ty) (pa : PlainAttrs T) (slot : PySem.Slot T name id) (hty : typeOf (.builtin id) = pure (.type "method_descriptor")) (hm : MtR X id r)
    (h0 : Γ[i]? = some (.ow O0)) (hO : OwnTy X O0 ty) (h : PAs X (a :: es) Γ fun Ps Γ1 => ∃ O, Γ1[i]? = some (.ow O) ∧ OwnM r O Ps fun R O' => W R (Γ1.set i (.ow O')))
    (hN : X.N[i]? = some x := by rfl) (hv : Vis X.env.scope x := by first | exact Or.inl rfl | exact Or.inr (Or.inl rfl) | exact Or.inr (Or.inr rfl)) (hd : (x == ("__debug__" : Str)) = false := by decide) (hcd : (x == ("__classdict__" : Str)) = false := by decide)
    (hbase : attributeBase (.Name x xpos) name X.env (eval (.Name x xpos) X.env) = eval (.Name x xpos) X.env := by rfl)
    (hfew : ((backTo pos (starEach (a :: es) X.env)).all (fun x => !x.1) && (backToKw pos (keywordEach [] X.env)).all (fun x => x.1.isSome)
      && decide ((a :: es).length + ([] : List Keyword).length + (if ([] : List Keyword).isEmpty then 0 else 1) < 30)) = true := by rfl)
    (hline : (apos.endLine == pos.line) = true := by rfl) (hs : starEach (a :: es) X.env = (false, eval a X.env) :: starEach es X.env := by rfl) (hplain : (backTo pos (starEach es X.env)).any (·.1) = false := by rfl) :
    PV X (.Call (.Attribute (.Name x xpos) name apos) (a :: es) [] pos) Γ W := by
  refine v_of (pe_mG ht pa slot hty hm (pe_var hN hv hd hcd) pa_wp hbase hfew hline hs hplain) fun B σ F H S => ?_
  obtain ⟨d, o, e1, e2, e3, e4, e5⟩ := S.getO h0
  refine ⟨.ref d, e1, hO d o F H S.ex e4 e5, wpA_mono (h B σ F H S) fun vs H2 ⟨F2, Ps, Γ2, ⟨O, hO2, ho⟩, ps, ex2, S2⟩ => ?_⟩
  obtain ⟨d', o', f1, f2, f3, f4, f5⟩ := S2.getO hO2
  rw [e1] at f1
  cases f1
  exact ho d o' vs F2 H2 f2 f4 f5 S2.ex ps _ fun R O' z o2 q1 q2 q3 => ⟨F2, R, _, q1, q2, ex2, S2.write hO2 e1 q3⟩
/-- d.m() -/
theorem v_mO0 (i : Nat) {x name : Str} {xpos apos : Pos} {T id : String} {r : V → List V → Hp → VK → Prop} {ty : V → Hp → Prop} {O0 : Own} (ht : TyOk X T ty) (pa : PlainAttrs T) (slot : PySem.Slot T name id) (hty : typeOf (.builtin id) = pure (.type "method_descriptor")) (hm : MtR X id r)
    (h0 : Γ[i]? = some (.ow O0)) (hO : OwnTy X O0 ty) (h : OwnM r O0 [] fun R O' => W R (Γ.set i (.ow O')))
    (hN : X.N[i]? = some x := by rfl) (hv : Vis X.env.scope x := by first | exact Or.inl rfl | exact Or.inr (Or.inl rfl) | exact Or.inr (Or.inr rfl)) (hd : (x == ("__debug__" : Str)) = false := by decide) (hcd : (x == ("__classdict__" : Str)) = false := by decide)
    (hbase : attributeBase (.Name x xpos) name X.env (eval (.Name x xpos) X.env) = eval (.Name x xpos) X.env := by rfl) (hline : (apos.endLine == pos.line) = true := by rfl) : PV X (.Call (.Attribute (.Name x xpos) name apos) [] [] pos) Γ W := by
  refine v_of (pe_mG0 ht pa slot hty hm (pe_var hN hv hd hcd) hbase hline) fun B σ F H S => ?_
  obtain ⟨d, o, e1, e2, e3, e4, e5⟩ := S.getO h0
  exact ⟨.ref d, e1, hO d o F H S.ex e4 e5, h d o [] F H e2 e4 e5 S.ex .nil _ fun R O' z o2 q1 q2 q3 => ⟨F, R, _, q1, q2, Evl.Ex.refl _, S.write h0 e1 q3⟩⟩
theorem own_ty_N {kvs : List KF} : OwnTy X (oDN X.prog X.w X.K kvs) (fun x H => ∃ d xs, x = .ref d ∧ NDAt X H d xs) := fun a o F H ex ho h => by
  obtain ⟨xs, e, q⟩ := h
  subst e
  exact ⟨a, xs, rfl, ndat_of ex ho q⟩
theorem f_ty_N {kvs : List KF} : FTy X (fDN X.prog X.w X.K kvs) (fun x H => ∃ d xs, x = .ref d ∧ NDAt X H d xs) := fun v F H ex h => by
  obtain ⟨d, o, e1, e2, xs, e3, h⟩ := h
  subst e3
  exact ⟨d, xs, e1, ndat_of ex (ex d _ e2) h⟩
theorem own_setdN {kvs : List KF} {P R : Fct} {k : NestedKey} {Z : Fct → Own → Prop} (hk : KeyF X.K P k) (hl : kvs.length < 100000) (h1 : ∀ R', lkF kvs k = some R' → Z R' (oDN X.prog X.w X.K kvs)) (h2 : lkF kvs k = none → Z R (oDN X.prog X.w X.K (ptF kvs k R))) :
    OwnM (rSetdN X) (oDN X.prog X.w X.K kvs) [P, R] Z := by
  intro d o vs F H fd hd p ex ps Q q
  obtain ⟨xs, e3, h⟩ := p
  subst e3
  cases ps with
  | cons p1 ps =>
    cases ps with
    | cons p2 ps =>
      cases ps
      obtain ⟨k1, a, rfl⟩ := hk.2 _ F p1
      refine ⟨d, xs, k, a, _, rfl, rfl, ndat_of ex hd h, NKV.up ex _ _ k1, hk.1, fun b z e4 => ?_, fun e4 => ⟨Evl.sz_lt (by rw [Paired.length h]; exact hl), ?_⟩⟩
      · rcases dnf_at k h with ⟨e5, e6⟩ | ⟨b', z', R', e5, e6, hz⟩
        · rw [e4] at e5
          cases e5
        · rw [e4] at e5
          cases e5
          have := q R' _ z _ (h1 R' e6) hz ⟨xs, rfl, h⟩
          rw [upd_self hd] at this
          exact this
      · rcases dnf_at k h with ⟨e5, e6⟩ | ⟨b', z', R', e5, e6, hz⟩
        · exact q R _ _ _ (h2 e6) p2 ⟨_, rfl, dnf_put k1 hk.1 p2 h⟩
        · rw [e4] at e5
          cases e5
theorem own_get2N {kvs : List KF} {P R : Fct} {k : NestedKey} {Z : Fct → Own → Prop} (hk : KeyF X.K P k) (h1 : Z ((lkF kvs k).getD R) (oDN X.prog X.w X.K kvs)) : OwnM (rGet2N X) (oDN X.prog X.w X.K kvs) [P, R] Z := by
  intro d o vs F H fd hd p ex ps Q q
  obtain ⟨xs, e3, h⟩ := p
  subst e3
  cases ps with
  | cons p1 ps =>
    cases ps with
    | cons p2 ps =>
      cases ps
      obtain ⟨k1, a, rfl⟩ := hk.2 _ F p1
      refine ⟨d, xs, k, a, _, rfl, rfl, ndat_of ex hd h, NKV.up ex _ _ k1, hk.1, ?_⟩
      have fin : ∀ z, ((lkF kvs k).getD R).p z F → Q z H := fun z hz => by
        have := q _ _ z _ h1 hz ⟨xs, rfl, h⟩
        rw [upd_self hd] at this
        exact this
      rcases dnf_at k h with ⟨e5, e6⟩ | ⟨b', z', R', e5, e6, hz⟩
      · rw [e6] at fin
        rw [e5]
        exact fin _ p2
      · rw [e6] at fin
        rw [e5]
        exact fin _ hz
/-! #### own objects by their names -/
/-- k in d, k not in d -/
theorem b_inO (i : Nat) {x : Str} {xpos : Pos} {neg : Bool} {op : CmpOp} (ho : OpR X (compareOp op) (rInN X neg)) (h : PV X a Γ fun P Γ1 => ∃ k kvs, KeyF X.K P k ∧ Γ1[i]? = some (.ow (oDN X.prog X.w X.K kvs)) ∧ WB (if neg then !(lkF kvs k).isSome else (lkF kvs k).isSome) Γ1) (hm : behindInMarks op (.Name x xpos) = false := by rfl)
    (hN : X.N[i]? = some x := by rfl) (hv : Vis X.env.scope x := by first | exact Or.inl rfl | exact Or.inr (Or.inl rfl) | exact Or.inr (Or.inr rfl)) (hd : (x == ("__debug__" : Str)) = false := by decide) (hcd : (x == ("__classdict__" : Str)) = false := by decide) :
    PB X (.Compare a [op] [.Name x xpos] pos) Γ WB := b_of (pt_cmpR ho pe_wp (pe_var hN hv hd hcd) hm) fun B σ F H S => wpE_mono (h B σ F H S) fun v H1 ⟨F1, P, Γ1, ⟨k, kvs, hk, hO, w⟩, p, ex1, S1⟩ => by
  obtain ⟨d, o, e1, e2, e3, e4, xs, e5, q⟩ := S1.getO hO
  subst e5
  obtain ⟨k1, b, rfl⟩ := hk.2 _ F1 p
  refine ⟨.ref d, e1, d, xs, k, b, rfl, rfl, ndat_of S1.ex e4 q, NKV.up S1.ex _ _ k1, hk.1, _, rfl, F1, Γ1, ?_, ex1, S1⟩
  rw [dnf_some q]
  exact w
/-- d[k] = v -/
theorem p_setO (i : Nat) {D : DE} {x : Str} {xpos p' : Pos} {k v : Expr} {j : Nat} (hr : Room j X.A) (h : PV X v Γ fun R Γ1 => ∃ kvs, Γ1[i]? = some (.ow (oDN X.prog X.w X.K kvs)) ∧ kvs.length < 100000 ∧ PV X k Γ1 fun P Γ2 => ∃ kk, KeyF X.K P kk ∧ Γ2[i]? = some (.ow (oDN X.prog X.w X.K kvs)) ∧ D.nx (Γ2.set i (.ow (oDN X.prog X.w X.K (ptF kvs kk R)))))
    (hs : swapsWithSole [.Subscript (.Name x xpos) k p'] v pos.line X.env = pure false := by rfl) (hw : swappedStores [.Subscript (.Name x xpos) k p'] v X.env = pure none := by rfl) (h1 : (assignEach [.Subscript (.Name x xpos) k p'] X.env).map (·.2) = [assign (.Subscript (.Name x xpos) k p') X.env] := by rfl)
    (ha : ∀ u, assign (.Subscript (.Name x xpos) k p') X.env u = (do
      let ov ← holding [u] (eval (.Name x xpos) X.env)
      let iv ← holding [u, ov] (eval k X.env)
      standAt p'
      holding [u, ov, iv] (setItem ov iv u)
      release [u, ov, iv] []) := by intro _; rfl)
    (hN : X.N[i]? = some x := by rfl) (hv : Vis X.env.scope x := by first | exact Or.inl rfl | exact Or.inr (Or.inl rfl) | exact Or.inr (Or.inr rfl)) (hd : (x == ("__debug__" : Str)) = false := by decide) (hcd : (x == ("__classdict__" : Str)) = false := by decide) :
    P1 X (.Assign [.Subscript (.Name x xpos) k p'] v pos) Γ D := p_of (ps_asg pe_wp (pg_sub (pe_var hN hv hd hcd) pe_wp (set_N hr) ha) hs hw h1) fun B σ F H S => wpE_mono (h B σ F H S) fun z H1 ⟨F1, R, Γ1, ⟨kvs, w1, hl, w2⟩, p, ex1, S1⟩ => by
  obtain ⟨d0, o0, i1, _⟩ := S1.getO w1
  refine ⟨.ref d0, i1, wpE_mono (w2 B σ F1 H1 S1) fun y H2 ⟨F2, P, Γ2, ⟨kk, hk, hO2, wn⟩, pk, ex2, S2⟩ => ?_⟩
  obtain ⟨d, o, e1, e2, e3, e4, xs, e5, q⟩ := S2.getO hO2
  subst e5
  rw [i1] at e1
  cases e1
  obtain ⟨k1, b, rfl⟩ := hk.2 _ F2 pk
  exact ⟨d0, xs, kk, b, rfl, rfl, ndat_of S2.ex e4 q, NKV.up S2.ex _ _ k1, hk.1, Evl.sz_lt (by rw [Paired.length q]; exact hl), _, F2, wn, S2.write hO2 i1 ⟨_, rfl, dnf_put k1 hk.1 (R.up ex2 p) q⟩⟩
/-- len(d), d a dict of our own -/
theorem v_lenO (i : Nat) {x ln : Str} {xpos p : Pos} {kvs : List KF} (hm : X.mg "len" = none) (hO : Γ[i]? = some (.ow (oDN X.prog X.w X.K kvs))) (h : W (fInt (kvs.length : Nat)) Γ) (hg : Gl X "len" := by rfl) (hst : starEach [.Name x xpos] X.env = (false, eval (.Name x xpos) X.env) :: starEach [] X.env := by rfl)
    (hN : X.N[i]? = some x := by rfl) (hv : Vis X.env.scope x := by first | exact Or.inl rfl | exact Or.inr (Or.inl rfl) | exact Or.inr (Or.inr rfl)) (hd : (x == ("__debug__" : Str)) = false := by decide) (hcd : (x == ("__classdict__" : Str)) = false := by decide) :
    PV X (.Call (.Name "len" p) [.Name x xpos] [] pos) Γ W := v_of (pe_callB call_lenN hg hm PySem.boot_len (pa_cons (pe_var hN hv hd hcd) pa_nil hst) (by decide) (by decide) hst rfl) fun B σ F H S => by
  obtain ⟨d, o, e1, e2, e3, e4, xs, e5, q⟩ := S.getO hO
  subst e5
  refine ⟨.ref d, e1, d, xs, rfl, ndat_of S.ex e4 q, F, _, Γ, h, ?_, Evl.Ex.refl _, S⟩
  rw [Paired.length q]
  rfl
/-! #### new objects of our own -/
/-- e gives a new object that nobody else knows -/
def PN (X : Cx) (e : Expr) (Γ : Ctx) (W : Own → Ctx → Prop) : Prop := ∀ B σ F H, Sat B Γ σ F H → wpE X e σ H fun v H' => ∃ a o F' H1 O Γ', v = .ref a ∧ H' = upd H1 a o ∧ H1 a = none ∧ W O Γ' ∧ O.p a o F' ∧ Ex F F' ∧ Sat B Γ' σ F' H1
theorem n_of {WO : Own → Ctx → Prop} {t : TE} (he : PE X e t) (h : ∀ B σ F H, Sat B Γ σ F H → t σ H fun v H' => ∃ a o F' H1 O Γ', v = .ref a ∧ H' = upd H1 a o ∧ H1 a = none ∧ WO O Γ' ∧ O.p a o F' ∧ Ex F F' ∧ Sat B Γ' σ F' H1) : PN X e Γ WO := fun B σ F H S => wpE_of he (h B σ F H S)
theorem p_asgO {D : DE} {i : Nat} {x : Str} {p' : Pos} (h : PN X e Γ fun O Γ1 => D.nx (Γ1.set i (.ow O))) (hN : X.N.Nodup) (hi : X.N[i]? = some x := by rfl) (hx : Loc X.env.scope x := by first | exact Or.inl rfl | exact Or.inr rfl) (hs : swapsWith e (some (.Name x p')) pos.line X.env = pure false := by rfl)
    (hf : X.fn x = true ∨ X.env.scope.names.lookup x = some .local := by first | exact .inl rfl | exact .inr rfl) : P1 X (.Assign [.Name x p'] e pos) Γ D :=
  p_of (ps_set hN hi hx pe_wp hs hf) fun B σ F H S => wpE_mono (h B σ F H S) fun v H1 ⟨a, o, F', H2, O, Γ', e1, e2, e3, w, q, ex, S'⟩ => by
    subst e1 e2
    exact ⟨_, F', w, S'.setO e3 q⟩
theorem n_lst {WO : Own → Ctx → Prop} {es : List Expr} (h : PAs X es Γ fun Ps Γ1 => Ps.length ≤ 100000 ∧ WO (oLst Ps) Γ1) : PN X (.List es pos) Γ WO := n_of (pe_lst pa_wp) fun B σ F H S =>
  wpA_mono (h B σ F H S) fun vs H1 ⟨F1, Ps, Γ1, ⟨hl, w⟩, ps, ex1, S1⟩ => ⟨Evl.sz_of (by rw [ps.length]; exact hl), fun p hp => ⟨p, _, F1, H1, _, Γ1, rfl, rfl, hp, w, ⟨vs, rfl, ps⟩, ex1, S1⟩⟩
theorem n_dnew {WO : Own → Ctx → Prop} (h : WO (oDN X.prog X.w X.K []) Γ) : PN X (.Dict [] [] pos) Γ WO := n_of pe_dnewN fun B σ F H S p hp => ⟨p, _, F, H, _, Γ, rfl, rfl, hp, h, ⟨[], rfl, .nil⟩, Evl.Ex.refl _, S⟩
/-- known to all at once -/
theorem v_new (h : PN X e Γ fun O Γ1 => W O.fct Γ1) : PV X e Γ W := fun B σ F H S => wpE_mono (h B σ F H S) fun v H1 ⟨a, o, F', H2, O, Γ', e1, e2, e3, w, q, ex, S'⟩ => by
  subst e1 e2
  have g := Grow.new (o := o) S'.ex e3
  exact ⟨upd F' a o, _, Γ', w, ⟨a, o, rfl, upd_same, O.up g.f q⟩, ex.trans g.f, S'.grow g⟩
end
end DL

/-! DL7: what the operations give, over facts. -/
namespace DL
open PySem L2 PyProof.Rows
theorem allP_fV {F : Hp} : ∀ {xs ys : List V}, AllP xs (ys.map fV) F → xs = ys
  | [], [], _ => rfl
  | _ :: _, [], h => by cases h
  | [], _ :: _, h => by cases h
  | x :: xs, y :: ys, h => by
    cases h with
    | cons h1 h2 =>
      have h1 : x = y := h1
      rw [h1, allP_fV h2]
theorem allP_map {F : Hp} {α : Type} {f : α → V} {xs : List V} {l : List α} (h : AllP xs (l.map fun x => fV (f x)) F) : xs = l.map f := by
  have e : (l.map fun x => fV (f x)) = (l.map f).map fV := by rw [List.map_map]; rfl
  rw [e] at h
  exact allP_fV h
/-! ### scalars -/
theorem o2_I0 {g : Int → Int → V} {i j : Int} : Op2 (rI0 g) (fInt i) (fInt j) (fV (g i j)) := fun v v' F H ex p p' Q q => ⟨i, j, p, p', q _ F H rfl (Grow.refl ex)⟩
theorem o2_I {C : Int → Int → Prop} {g : Int → Int → V} {i j : Int} (hc : C i j) : Op2 (rI C g) (fInt i) (fInt j) (fV (g i j)) := fun v v' F H ex p p' Q q => ⟨i, j, p, p', hc, q _ F H rfl (Grow.refl ex)⟩
theorem o2_eq {x y : V} (h : scal x y = true) : Op2 rEq (fV x) (fV y) (fBl (decide (x = y))) := fun v v' F H ex p p' Q q => by
  have p : v = x := p
  have p' : v' = y := p'
  subst p p'
  exact ⟨h, q _ F H rfl (Grow.refl ex)⟩
theorem o2_ne {x y : V} (h : scal x y = true) : Op2 rNe (fV x) (fV y) (fBl (!decide (x = y))) := fun v v' F H ex p p' Q q => by
  have p : v = x := p
  have p' : v' = y := p'
  subst p p'
  exact ⟨h, q _ F H rfl (Grow.refl ex)⟩
def rIsN : R2 := fun x y H Q => y = .non ∧ Q (.bl (decide (x = .non))) H
def rNotN : R2 := fun x y H Q => y = .non ∧ Q (.bl (!decide (x = .non))) H
theorem op_isn {X : Cx} : OpR X (compareOp .Is) rIsN := op_isN
theorem op_notn {X : Cx} : OpR X (compareOp .IsNot) rNotN := op_notN
theorem o2_isN {x : V} : Op2 rIsN (fV x) fNon (fBl (decide (x = .non))) := fun v v' F H ex p p' Q q => by
  have p : v = x := p
  subst p
  exact ⟨p', q _ F H rfl (Grow.refl ex)⟩
theorem o2_notN {x : V} : Op2 rNotN (fV x) fNon (fBl (!decide (x = .non))) := fun v v' F H ex p p' Q q => by
  have p : v = x := p
  subst p
  exact ⟨p', q _ F H rfl (Grow.refl ex)⟩
theorem o2_notNT {K : PySem.W.Frag} {Ps : List Fct} : Op2 rNotN (fTup K Ps) fNon (fBl true) := fun v v' F H ex p p' Q q => by
  obtain ⟨a, xs, rfl, _, _⟩ := p
  refine ⟨p', ?_⟩
  have e : (!decide (V.ref a = V.non)) = true := by
    rw [decide_eq_false (fun z => nomatch z)]
    rfl
  rw [e]
  exact q _ F H rfl (Grow.refl ex)
def rInSg : R2 := fun x y H Q => ∃ (c : Nat) (z : Str), x = .str ⟨#[c]⟩ ∧ y = .str z ∧ Q (.bl (decide (c ∈ z.cps.toList))) H
theorem op_insg {X : Cx} : OpR X (compareOp .In) rInSg := op_in_sign
theorem o2_inSg {c : Nat} {z : Str} : Op2 rInSg (fStr ⟨#[c]⟩) (fStr z) (fBl (decide (c ∈ z.cps.toList))) := fun v v' F H ex p p' Q q => ⟨c, z, p, p', q _ F H rfl (Grow.refl ex)⟩
def rAddS : R2 := fun x y H Q => ∃ i j, x = .str i ∧ y = .str j ∧ i.length + j.length ≤ sizeLine ∧ Q (.str (i ++ j)) H
theorem op_adds {X : Cx} : OpR X (binaryOp .Add) rAddS := op_add_str
theorem o2_addS {i j : Str} (h : i.length + j.length ≤ 100000) : Op2 rAddS (fStr i) (fStr j) (fStr (i ++ j)) := fun v v' F H ex p p' Q q => ⟨i, j, p, p', Evl.sz_of h, q _ F H rfl (Grow.refl ex)⟩
/-! ### texts in sequences -/
theorem inV_str {s : Str} : ∀ {l : List Str}, inV (.str s) (l.map V.str) = decide (s ∈ l)
  | [] => by simp [inV]
  | x :: l => by
    have ih := inV_str (s := s) (l := l)
    unfold inV at ih ⊢
    rw [List.map_cons, List.any_cons, ih]
    have e : eqV (V.str x) (V.str s) = decide (x = s) := by
      unfold eqV
      first | rfl | simp [beq_eq_decide]
    rw [e]
    by_cases h : x = s
    · subst h
      simp
    · have h2 : ¬ s = x := fun z => h z.symm
      simp [h, h2]
theorem o2_inT {K : PySem.W.Frag} {neg : Bool} {s : Str} {l : List Str} : Op2 (rIn K neg) (fStr s) (fTup K (l.map fStr)) (fBl (if neg then !decide (s ∈ l) else decide (s ∈ l))) := fun v v' F H ex p p' Q q => by
  have p : v = .str s := p
  subst p
  obtain ⟨a, xs, rfl, hx, hl⟩ := p'
  have e := allP_map hl
  subst e
  refine ⟨a, _, rfl, Or.inr (Evl.ex_t ex hx), rfl, by simp [flatV], ?_⟩
  rw [inV_str]
  exact q _ F H rfl (Grow.refl ex)
theorem o2_inL {K : PySem.W.Frag} {neg : Bool} {s : Str} {l : List Str} : Op2 (rIn K neg) (fStr s) (fLst K (l.map fStr)) (fBl (if neg then !decide (s ∈ l) else decide (s ∈ l))) := fun v v' F H ex p p' Q q => by
  have p : v = .str s := p
  subst p
  obtain ⟨a, xs, rfl, hx, hl⟩ := p'
  have e := allP_map hl
  subst e
  refine ⟨a, _, rfl, Or.inl (SqL.of (ex a _ hx)), rfl, by simp [flatV], ?_⟩
  rw [inV_str]
  exact q _ F H rfl (Grow.refl ex)
/-! ### items, slices, sums of sequences -/
theorem allP_at {F : Hp} {xs : List V} {Ps : List Fct} {i : Int} {R : Fct} (h : AllP xs Ps F) (e : atI Ps i = some R) : ∃ v, atI xs i = some v ∧ R.p v F := by
  unfold atI at e ⊢
  rw [h.length]
  cases q : ixN Ps.length i with
  | none =>
    rw [q] at e
    cases e
  | some j =>
    rw [q] at e
    exact h.get2 e
theorem o2_ixT {K : PySem.W.Frag} {Ps : List Fct} {i : Int} {R : Fct} (h : atI Ps i = some R) : Op2 (rIxT K) (fTup K Ps) (fInt i) R := fun v v' F H ex p p' Q q => by
  obtain ⟨a, xs, h1, h2, h3⟩ := p
  obtain ⟨z, e, hz⟩ := allP_at h3 h
  exact ⟨a, xs, i, z, h1, p', Evl.ex_t ex h2, e, q z F H hz (Grow.refl ex)⟩
theorem o2_ixL {K : PySem.W.Frag} {Ps : List Fct} {i : Int} {R : Fct} (h : atI Ps i = some R) : Op2 (rIxL K) (fLst K Ps) (fInt i) R := fun v v' F H ex p p' Q q => by
  obtain ⟨a, xs, h1, h2, h3⟩ := p
  obtain ⟨z, e, hz⟩ := allP_at h3 h
  exact ⟨a, xs, i, z, h1, p', SqL.of (ex a _ h2), e, q z F H hz (Grow.refl ex)⟩
theorem o2_ixS {z : Str} {i : Int} {c : Nat} (hl : z.length ≤ 100000) (h : atI z.cps.toList i = some c) : Op2 rIxS (fStr z) (fInt i) (fStr ⟨#[c]⟩) := fun v v' F H ex p p' Q q => ⟨z, i, c, p, p', Evl.sz_of hl, h, q _ F H rfl (Grow.refl ex)⟩
def cutF {α : Type} (xs : List α) (lo hi : Option Int) : List α := (xs.drop (HT.sIx xs.length 0 lo)).take (HT.sIx xs.length xs.length hi - HT.sIx xs.length 0 lo)
theorem allP_cut {F : Hp} {xs : List V} {Ps : List Fct} (h : AllP xs Ps F) (lo hi : Option Int) : AllP (cutV xs lo hi) (cutF Ps lo hi) F := by
  unfold cutV cutF
  rw [h.length]
  exact (h.drop _).take _
theorem cutF_map {α β : Type} (f : α → β) (xs : List α) (lo hi : Option Int) : cutF (xs.map f) lo hi = (cutF xs lo hi).map f := by
  unfold cutF
  rw [List.length_map, List.map_take, List.map_drop]
theorem cutF_to {α : Type} (xs : List α) (k : Nat) : cutF xs none (some (k : Int)) = xs.take k := by
  unfold cutF
  rw [HT.sIx_none, HT.sIx_nat, List.drop_zero, Nat.sub_zero]
  by_cases h : k ≤ xs.length
  · rw [Nat.min_eq_left h]
  · rw [Nat.min_eq_right (by omega), List.take_length, List.take_of_length_le (by omega)]
theorem cutF_from {α : Type} (xs : List α) (k : Nat) : cutF xs (some (k : Int)) none = xs.drop k := by
  unfold cutF
  rw [HT.sIx_none, HT.sIx_nat]
  by_cases h : k ≤ xs.length
  · rw [Nat.min_eq_left h, List.take_of_length_le (by rw [List.length_drop]; exact Nat.le_refl _)]
  · rw [Nat.min_eq_right (by omega), List.drop_length, List.drop_of_length_le (by omega)]
    simp
theorem cutF_mid {α : Type} (xs : List α) (i j : Nat) : cutF xs (some (i : Int)) (some (j : Int)) = (xs.drop i).take (j - i) := by
  unfold cutF
  rw [HT.sIx_nat, HT.sIx_nat]
  by_cases h : i ≤ xs.length
  · rw [Nat.min_eq_left h]
    by_cases h2 : j ≤ xs.length
    · rw [Nat.min_eq_left h2]
    · rw [Nat.min_eq_right (by omega), List.take_of_length_le (by rw [List.length_drop] ; omega), List.take_of_length_le (by rw [List.length_drop]; omega)]
  · have e : min i xs.length = xs.length := by omega
    rw [e, List.drop_length, List.drop_of_length_le (by omega)]
    simp
theorem os_T {K : PySem.W.Frag} {Ps : List Fct} {lo hi : Option Int} : OpS (rSlA K) (fTup K Ps) lo hi (fTup K (cutF Ps lo hi)) := fun v F H ex p Q q => by
  obtain ⟨a, xs, h1, h2, h3⟩ := p
  have hc := allP_cut h3 lo hi
  refine ⟨a, xs, h1, Evl.ex_t ex h2, fun hw => ?_, fun _ p hp => ?_⟩
  · refine q _ F H ⟨a, _, rfl, h2, ?_⟩ (Grow.refl ex)
    have e : cutV xs lo hi = xs := by
      unfold cutV
      rw [hw.1, hw.2, List.drop_zero, Nat.sub_zero, List.take_length]
    rw [e] at hc
    exact hc
  · have g := Grow.new (o := .tup (cutV xs lo hi)) ex hp
    exact q _ _ _ ⟨p, _, rfl, SqT.of upd_same, hc.up g.f⟩ g
theorem os_L {K : PySem.W.Frag} {Ps : List Fct} {lo hi : Option Int} : OpS (rSlL K) (fLst K Ps) lo hi (fLst K (cutF Ps lo hi)) := fun v F H ex p Q q => by
  obtain ⟨a, xs, h1, h2, h3⟩ := p
  refine ⟨a, xs, h1, SqL.of (ex a _ h2), fun p hp => ?_⟩
  have g := Grow.new (o := .lst (cutV xs lo hi)) ex hp
  exact q _ _ _ ⟨p, _, rfl, upd_same, (allP_cut h3 lo hi).up g.f⟩ g
theorem o2_catT {K : PySem.W.Frag} {Ps Qs : List Fct} (hl : Ps.length + Qs.length ≤ 100000) : Op2 (rCatA K) (fTup K Ps) (fTup K Qs) (fTup K (Ps ++ Qs)) := fun v v' F H ex p p' Q q => by
  obtain ⟨a, xs, h1, h2, h3⟩ := p
  obtain ⟨b, ys, h4, h5, h6⟩ := p'
  have ha := h3.append h6
  refine ⟨a, b, xs, ys, h1, h4, Evl.ex_t ex h2, Evl.ex_t ex h5, Evl.sz_of (by rw [h3.length, h6.length]; exact hl), fun e => ?_, fun _ e => ?_, fun _ _ p hp => ?_⟩
  · subst e
    exact q _ F H ⟨b, ys, rfl, h5, ha⟩ (Grow.refl ex)
  · subst e
    rw [List.append_nil] at ha
    exact q _ F H ⟨a, xs, rfl, h2, ha⟩ (Grow.refl ex)
  · have g := Grow.new (o := .tup (xs ++ ys)) ex hp
    exact q _ _ _ ⟨p, _, rfl, SqT.of upd_same, ha.up g.f⟩ g
theorem o2_catL {K : PySem.W.Frag} {Ps Qs : List Fct} (hl : Ps.length + Qs.length ≤ 100000) : Op2 rCat (fLst K Ps) (fLst K Qs) (fLst K (Ps ++ Qs)) := fun v v' F H ex p p' Q q => by
  obtain ⟨a, xs, h1, h2, h3⟩ := p
  obtain ⟨b, ys, h4, h5, h6⟩ := p'
  refine ⟨a, b, xs, ys, h1, h4, ex a _ h2, ex b _ h5, Evl.sz_of (by rw [h3.length, h6.length]; exact hl), fun p hp => ?_⟩
  have g := Grow.new (o := .lst (xs ++ ys)) ex hp
  exact q _ _ _ ⟨p, _, rfl, upd_same, (h3.append h6).up g.f⟩ g
/-! ### data of any depth: ==, in -/
def DatF (K : PySem.W.Frag) (P : Fct) (d : PyData) : Prop := ∀ v F, P.p v F → Dp K F v d
mutual
theorem dp_up {K : PySem.W.Frag} {H H' : Hp} (e : Ex H H') : ∀ (d : PyData) (v : V), Dp K H v d → Dp K H' v d
  | .none, _, h => by cases h; exact .non
  | .bool b, _, h => by cases h; exact .bl b
  | .int i, _, h => by cases h; exact .int i
  | .str x, _, h => by cases h; exact .str x
  | .list ds, _, h => by
    cases h with
    | lst h1 h2 => exact .lst (Evl.ex_l e h1) (dpAll_up e ds _ h2)
  | .tuple ds, _, h => by
    cases h with
    | tup h1 h2 => exact .tup (Evl.ex_t e h1) (dpAll_up e ds _ h2)
  | .dict _, _, h => by cases h
theorem dpAll_up {K : PySem.W.Frag} {H H' : Hp} (e : Ex H H') : ∀ (ds : List PyData) (vs : List V), DpAll K H vs ds → DpAll K H' vs ds
  | [], _, h => by cases h; exact .nil
  | d :: ds, _, h => by
    cases h with
    | cons h1 h2 => exact .cons (dp_up e d _ h1) (dpAll_up e ds _ h2)
end
theorem dat_all {K : PySem.W.Frag} {F : Hp} : ∀ {vs : List V} {Ps : List Fct} {ds : List PyData}, AllP vs Ps F → Paired (DatF K) Ps ds → DpAll K F vs ds
  | _, _, _, .nil, .nil => .nil
  | _, _, _, .cons h t, .cons q r => .cons (q _ _ h) (dat_all t r)
theorem dat_int {K : PySem.W.Frag} {i : Int} : DatF K (fInt i) (.int i) := fun v F h => by
  have h : v = .int i := h
  subst h
  exact .int i
theorem dat_str {K : PySem.W.Frag} {x : Str} : DatF K (fStr x) (.str x) := fun v F h => by
  have h : v = .str x := h
  subst h
  exact .str x
theorem dat_tup {K : PySem.W.Frag} {Ps : List Fct} {ds : List PyData} (h : Paired (DatF K) Ps ds) : DatF K (fTup K Ps) (.tuple ds) := fun v F p => by
  obtain ⟨a, xs, rfl, h2, h3⟩ := p
  exact .tup h2 (dat_all h3 h)
theorem dat_lst {K : PySem.W.Frag} {Ps : List Fct} {ds : List PyData} (h : Paired (DatF K) Ps ds) : DatF K (fLst K Ps) (.list ds) := fun v F p => by
  obtain ⟨a, xs, rfl, h2, h3⟩ := p
  exact .lst (SqL.of h2) (dat_all h3 h)
theorem paired_map {α β γ : Type} {R : β → γ → Prop} {f : α → β} {g : α → γ} : ∀ (l : List α), (∀ x ∈ l, R (f x) (g x)) → Paired R (l.map f) (l.map g)
  | [], _ => .nil
  | x :: l, h => .cons (h x List.mem_cons_self) (paired_map l fun y hy => h y (List.mem_cons_of_mem _ hy))
theorem o2_eqD {K : PySem.W.Frag} {P P' : Fct} {d d' : PyData} (h : DatF K P d) (h' : DatF K P' d') (s : SeqAt.shaped d = true) (s' : SeqAt.shaped d' = true) : Op2 (rEqD K) P P' (fBl (PyData.eqv d d')) := fun v v' F H ex p p' Q q =>
  ⟨d, d', dp_up ex d v (h v F p), dp_up ex d' v' (h' v' F p'), s, s', q _ F H rfl (Grow.refl ex)⟩
theorem o2_neD {K : PySem.W.Frag} {P P' : Fct} {d d' : PyData} (h : DatF K P d) (h' : DatF K P' d') (s : SeqAt.shaped d = true) (s' : SeqAt.shaped d' = true) : Op2 (rNeD K) P P' (fBl (!PyData.eqv d d')) := fun v v' F H ex p p' Q q =>
  ⟨d, d', dp_up ex d v (h v F p), dp_up ex d' v' (h' v' F p'), s, s', q _ F H rfl (Grow.refl ex)⟩
theorem o2_inD {K : PySem.W.Frag} {P P' : Fct} {d : PyData} {ds : List PyData} (h : DatF K P d) (h' : DatF K P' (.list ds)) (s : SeqAt.shaped d = true) (s' : SeqAt.shaped (.list ds) = true) : Op2 (rInD K) P P' (fBl (ds.any fun z => PyData.eqv z d)) := fun v v' F H ex p p' Q q =>
  ⟨d, ds, dp_up ex d v (h v F p), dp_up ex _ v' (h' v' F p'), s, s', q _ F H rfl (Grow.refl ex)⟩
theorem o2_notInD {K : PySem.W.Frag} {P P' : Fct} {d : PyData} {ds : List PyData} (h : DatF K P d) (h' : DatF K P' (.list ds)) (s : SeqAt.shaped d = true) (s' : SeqAt.shaped (.list ds) = true) : Op2 (rNotInD K) P P' (fBl (!ds.any fun z => PyData.eqv z d)) := fun v v' F H ex p p' Q q =>
  ⟨d, ds, dp_up ex d v (h v F p), dp_up ex _ v' (h' v' F p'), s, s', q _ F H rfl (Grow.refl ex)⟩
/-! ### built-ins -/
/-- what isinstance asks of an own class -/
structure InsK (K : PySem.W.Frag) (C : Addr) : Prop where
  cl : Cls K C
  ha : PySem.W.findIn K (.ref C) "__class__" = some (some (.builtin "object.__class__"))
  hn : PySem.W.specialIn K (.builtin "object.__class__") "__get__" = some (some (.builtin "getset_descriptor.__get__"))
  htk : PySem.W.takesIn K (.builtin "object.__class__") = some true
  hm : PySem.W.mroIn K C (.type "object") = some true
  me : PySem.W.kitOne K (.ref C) (.ref C) = some true
def TyF (K : PySem.W.Frag) (P : Fct) (t : Value) : Prop := ∀ v F H, Ex F H → P.p v F → TyX K H v t
theorem ty_int {K : PySem.W.Frag} {i : Int} : TyF K (fInt i) (.type "int") := fun v F H ex h => by
  have h : v = .int i := h
  subst h
  exact .base (.int i)
theorem ty_bl {K : PySem.W.Frag} {i : Bool} : TyF K (fBl i) (.type "bool") := fun v F H ex h => by
  have h : v = .bl i := h
  subst h
  exact .base (.bl i)
theorem ty_str {K : PySem.W.Frag} {i : Str} : TyF K (fStr i) (.type "str") := fun v F H ex h => by
  have h : v = .str i := h
  subst h
  exact .base (.str i)
theorem ty_tup {K : PySem.W.Frag} {Ps : List Fct} : TyF K (fTup K Ps) (.type "tuple") := fun v F H ex h => by
  obtain ⟨a, xs, rfl, h2, _⟩ := h
  rcases h2 with (h2 | ⟨o, h2⟩) | ⟨o, its, n, e1, e2, _⟩
  · exact .base (.tup (ex a _ h2))
  · exact .fTuple (ex a _ h2)
  · exact .kTuple e1 e2
theorem ty_ins {K : PySem.W.Frag} {C : Addr} {fs : List (Str × Fct)} (c : InsK K C) : TyF K (fIns C fs) (.ref C) := fun v F H ex h => by
  obtain ⟨a, dx, gs, rfl, h2, _⟩ := h
  exact .base (.ins (ex a _ h2) c.cl c.ha c.hn c.htk c.hm)
theorem oc_isi {K : PySem.W.Frag} {P : Fct} {m n : String} {b : Bool} (h : TyF K P (.type m)) (hk : kitB m n = some b) : OpC (rIsi K) [P, fTy n] (fBl b) := fun vs F H ex ps Q q => by
  cases ps with
  | cons p1 ps =>
    cases ps with
    | cons p2 ps =>
      cases ps
      exact ⟨_, _, .type m, .type n, b, by rw [show _ = V.ty n from p2], ClsV.ty n, h _ F H ex p1, kit_ty hk, q _ F H rfl (Grow.refl ex)⟩
theorem oc_isiC {K : PySem.W.Frag} {C : Addr} {fs : List (Str × Fct)} (c : InsK K C) : OpC (rIsi K) [fIns C fs, fRef C] (fBl true) := fun vs F H ex ps Q q => by
  cases ps with
  | cons p1 ps =>
    cases ps with
    | cons p2 ps =>
      cases ps
      exact ⟨_, _, .ref C, .ref C, true, by rw [show _ = V.ref C from p2], ClsV.own C, ty_ins c _ F H ex p1, c.me, q _ F H rfl (Grow.refl ex)⟩
def rLen (K : PySem.W.Frag) : List V → Hp → VK → Prop := fun xs H Q => ∃ x n, xs = [x] ∧ LenV K x H n ∧ Q (.int n) H
theorem call_ln {X : Cx} : CallR X (.builtin "len") (rLen X.K) := call_len
theorem oc_lenT {K : PySem.W.Frag} {Ps : List Fct} : OpC (rLen K) [fTup K Ps] (fInt (Ps.length : Nat)) := fun vs F H ex ps Q q => by
  cases ps with
  | cons p1 ps =>
    cases ps
    obtain ⟨a, xs, rfl, h2, h3⟩ := p1
    exact ⟨_, Ps.length, rfl, .inr ⟨xs, Evl.ex_t ex h2, h3.length.symm⟩, q _ F H rfl (Grow.refl ex)⟩
theorem oc_lenL {K : PySem.W.Frag} {Ps : List Fct} : OpC (rLen K) [fLst K Ps] (fInt (Ps.length : Nat)) := fun vs F H ex ps Q q => by
  cases ps with
  | cons p1 ps =>
    cases ps
    obtain ⟨a, xs, rfl, h2, h3⟩ := p1
    exact ⟨_, Ps.length, rfl, .inl ⟨xs, SqL.of (ex a _ h2), h3.length.symm⟩, q _ F H rfl (Grow.refl ex)⟩
theorem oc_lenS {K : PySem.W.Frag} {z : Str} (h : z.length ≤ 100000) : OpC (rLen K) [fStr z] (fInt (z.length : Nat)) := fun vs F H ex ps Q q => by
  cases ps with
  | cons p1 ps =>
    cases ps
    have p1 : _ = V.str z := p1
    subst p1
    exact ⟨_, z.length, rfl, ⟨Evl.sz_of h, rfl⟩, q _ F H rfl (Grow.refl ex)⟩
def rTuple (X : Cx) : List V → Hp → VK → Prop := fun xs H Q => ∃ p ys, xs = [.ref p] ∧ ((SqL X.K H p ys ∧ ∀ l, H l = none → Q (.ref l) (upd H l (.tup ys))) ∨ (SqT X.K H p ys ∧ Q (.ref p) H))
theorem call_tpl {X : Cx} : CallR X (.type "tuple") (rTuple X) := call_tuple_of
theorem oc_tuple {X : Cx} {Ps : List Fct} : OpC (rTuple X) [fLst X.K Ps] (fTup X.K Ps) := fun vs F H ex ps Q q => by
  cases ps with
  | cons p1 ps =>
    cases ps
    obtain ⟨a, xs, rfl, h2, h3⟩ := p1
    refine ⟨a, xs, rfl, .inl ⟨SqL.of (ex a _ h2), fun l hl => ?_⟩⟩
    have g := Grow.new (o := .tup xs) ex hl
    exact q _ _ _ ⟨l, xs, rfl, SqT.of upd_same, h3.up g.f⟩ g
def rListOf (X : Cx) : List V → Hp → VK → Prop := fun xs H Q => ∃ p ys, xs = [.ref p] ∧ (SqL X.K H p ys ∨ SqT X.K H p ys) ∧ ∀ l, H l = none → Q (.ref l) (upd H l (.lst ys))
theorem call_lst {X : Cx} : CallR X (.type "list") (rListOf X) := call_list_of
theorem oc_list {X : Cx} {Ps : List Fct} : OpC (rListOf X) [fLst X.K Ps] (fLst X.K Ps) := fun vs F H ex ps Q q => by
  cases ps with
  | cons p1 ps =>
    cases ps
    obtain ⟨a, xs, rfl, h2, h3⟩ := p1
    refine ⟨a, xs, rfl, .inl (SqL.of (ex a _ h2)), fun l hl => ?_⟩
    have g := Grow.new (o := .lst xs) ex hl
    exact q _ _ _ ⟨l, xs, rfl, upd_same, h3.up g.f⟩ g
theorem oc_all {K : PySem.W.Frag} {bs : List Bool} : OpC (rAll K) [fLst K (bs.map fBl)] (fBl (bs.all id)) := fun vs F H ex ps Q q => by
  cases ps with
  | cons p1 ps =>
    cases ps
    obtain ⟨a, xs, rfl, h2, h3⟩ := p1
    have e := allP_map h3
    subst e
    exact ⟨a, bs, rfl, SqL.of (ex a _ h2), q _ F H rfl (Grow.refl ex)⟩
def rInt1 : List V → Hp → VK → Prop := fun xs H Q => (∃ i, xs = [.int i] ∧ Q (.int i) H) ∨ ∃ k, xs = [.bl k] ∧ Q (.int (if k then 1 else 0)) H
theorem call_i1 {X : Cx} : CallR X (.type "int") rInt1 := call_int1
theorem oc_int {i : Int} : OpC rInt1 [fInt i] (fInt i) := fun vs F H ex ps Q q => by
  cases ps with
  | cons p1 ps =>
    cases ps
    have p1 : _ = V.int i := p1
    subst p1
    exact .inl ⟨i, rfl, q _ F H rfl (Grow.refl ex)⟩
def rAbs : List V → Hp → VK → Prop := fun xs H Q => ∃ i, xs = [.int i] ∧ Q (.int (if i < 0 then -i else i)) H
theorem call_ab {X : Cx} : CallR X (.builtin "abs") rAbs := call_abs
theorem oc_abs {i : Int} : OpC rAbs [fInt i] (fInt (if i < 0 then -i else i)) := fun vs F H ex ps Q q => by
  cases ps with
  | cons p1 ps =>
    cases ps
    have p1 : _ = V.int i := p1
    subst p1
    exact ⟨i, rfl, q _ F H rfl (Grow.refl ex)⟩
def rMax2 : List V → Hp → VK → Prop := fun xs H Q => ∃ i j, xs = [.int i, .int j] ∧ Q (.int (if j > i then j else i)) H
theorem call_mx {X : Cx} (hc : X.calm = true) : CallR X (.builtin "max") rMax2 := call_max2 hc
def rMin2 : List V → Hp → VK → Prop := fun xs H Q => ∃ i j, xs = [.int i, .int j] ∧ Q (.int (if j < i then j else i)) H
theorem call_mn {X : Cx} (hc : X.calm = true) : CallR X (.builtin "min") rMin2 := call_min2 hc
theorem oc_max {i j : Int} : OpC rMax2 [fInt i, fInt j] (fInt (if j > i then j else i)) := fun vs F H ex ps Q q => by
  cases ps with
  | cons p1 ps =>
    cases ps with
    | cons p2 ps =>
      cases ps
      have p1 : _ = V.int i := p1
      have p2 : _ = V.int j := p2
      subst p1 p2
      exact ⟨i, j, rfl, q _ F H rfl (Grow.refl ex)⟩
theorem oc_min {i j : Int} : OpC rMin2 [fInt i, fInt j] (fInt (if j < i then j else i)) := fun vs F H ex ps Q q => by
  cases ps with
  | cons p1 ps =>
    cases ps with
    | cons p2 ps =>
      cases ps
      have p1 : _ = V.int i := p1
      have p2 : _ = V.int j := p2
      subst p1 p2
      exact ⟨i, j, rfl, q _ F H rfl (Grow.refl ex)⟩
def rDivm : List V → Hp → VK → Prop := fun xs H Q => ∃ i j, xs = [.int i, .int j] ∧ CDiv i j ∧ ∀ p, H p = none → Q (.ref p) (upd H p (.tup [.int (i / j), .int (i % j)]))
theorem call_dm {X : Cx} : CallR X (.builtin "divmod") rDivm := call_divmod
theorem oc_divm {K : PySem.W.Frag} {i j : Int} (h : CDiv i j) : OpC rDivm [fInt i, fInt j] (fTup K [fInt (i / j), fInt (i % j)]) := fun vs F H ex ps Q q => by
  cases ps with
  | cons p1 ps =>
    cases ps with
    | cons p2 ps =>
      cases ps
      have p1 : _ = V.int i := p1
      have p2 : _ = V.int j := p2
      subst p1 p2
      refine ⟨i, j, rfl, h, fun p hp => ?_⟩
      have g := Grow.new (o := .tup [.int (i / j), .int (i % j)]) ex hp
      exact q _ _ _ ⟨p, _, rfl, SqT.of upd_same, .cons rfl (.cons rfl .nil)⟩ g
def rStrI : List V → Hp → VK → Prop := fun xs H Q => ∃ i, xs = [.int i] ∧ i.natAbs.log2 < 1920 ∧ Q (.str (toString i)) H
theorem call_si {X : Cx} : CallR X (.type "str") rStrI := call_str_int
theorem oc_strI {i : Int} (h : i.natAbs.log2 < 1920) : OpC rStrI [fInt i] (fStr (toString i)) := fun vs F H ex ps Q q => by
  cases ps with
  | cons p1 ps =>
    cases ps
    have p1 : _ = V.int i := p1
    subst p1
    exact ⟨i, rfl, h, q _ F H rfl (Grow.refl ex)⟩
/-! ### lists of a def's own -/
section
variable {X : Cx} {Γ : Ctx} {e a b : Expr} {pos : Pos} {W : Fct → Ctx → Prop} {WB : Bool → Ctx → Prop}
def tyL (X : Cx) (x : V) (H : Hp) : Prop := ∃ a xs, x = .ref a ∧ SqL X.K H a xs
theorem tyl_ok : TyOk X "list" (tyL X) := by
  intro pins σ H s x v I rx h
  obtain ⟨d, xs, rfl, hd⟩ := h
  cases rx
  obtain ⟨its, r, ⟨o, n, h1, h2, h3, h4⟩, z⟩ := I.list hd
  exact ⟨⟨o, h1, h2⟩, fun a e => by cases e; exact ⟨o, h1, h3⟩⟩
theorem own_tyl {Ps : List Fct} : OwnTy X (oLst Ps) (tyL X) := fun a o F H ex ho h => by
  obtain ⟨xs, e, q⟩ := h
  subst e
  exact ⟨a, xs, rfl, SqL.of ho⟩
theorem f_tyl {Ps : List Fct} : FTy X (fLst X.K Ps) (tyL X) := fun v F H ex h => by
  obtain ⟨d, xs, e1, e2, h⟩ := h
  exact ⟨d, xs, e1, SqL.of (ex d _ e2)⟩
theorem own_append {Ps : List Fct} {R : Fct} {Z : Fct → Own → Prop} (hl : Ps.length < 100000) (h : Z fNon (oLst (Ps ++ [R]))) : OwnM rAppend (oLst Ps) [R] Z := by
  intro d o vs F H fd hd p ex ps Q q
  obtain ⟨xs, e3, h3⟩ := p
  subst e3
  cases ps with
  | cons p1 ps =>
    cases ps
    exact ⟨d, xs, _, rfl, rfl, hd, Evl.sz_lt (by rw [h3.length]; exact hl), q fNon _ _ _ h rfl ⟨_, rfl, h3.append (.cons p1 .nil)⟩⟩
theorem own_pop {Ps : List Fct} {R : Fct} {Z : Fct → Own → Prop} (hl : Ps[Ps.length - 1]? = some R) (h : Z R (oLst Ps.dropLast)) : OwnM rPop (oLst Ps) [] Z := by
  intro d o vs F H fd hd p ex ps Q q
  obtain ⟨xs, e3, h3⟩ := p
  subst e3
  cases ps
  obtain ⟨y, e, hy⟩ := h3.get2 hl
  exact ⟨d, xs, y, rfl, rfl, hd, by rw [h3.length]; exact e, q R _ _ _ h hy ⟨_, rfl, h3.dropLast⟩⟩
/-- xs.append(e), a statement -/
theorem p_append (i : Nat) {D : DE} {x : Str} {xpos apos p2 : Pos} {Ps0 : List Fct} (h0 : Γ[i]? = some (.ow (oLst Ps0))) (h : PV X a Γ fun R Γ1 => ∃ Ps, Γ1[i]? = some (.ow (oLst Ps)) ∧ Ps.length < 100000 ∧ D.nx (Γ1.set i (.ow (oLst (Ps ++ [R])))))
    (hN : X.N[i]? = some x := by rfl) (hv : Vis X.env.scope x := by first | exact Or.inl rfl | exact Or.inr (Or.inl rfl) | exact Or.inr (Or.inr rfl)) (hd : (x == ("__debug__" : Str)) = false := by decide) (hcd : (x == ("__classdict__" : Str)) = false := by decide)
    (hbase : attributeBase (.Name x xpos) "append" X.env (eval (.Name x xpos) X.env) = eval (.Name x xpos) X.env := by rfl)
    (hfew : ((backTo pos (starEach [a] X.env)).all (fun x => !x.1) && (backToKw pos (keywordEach [] X.env)).all (fun x => x.1.isSome)
      && decide (([a] : List Expr).length + ([] : List Keyword).length + (if ([] : List Keyword).isEmpty then 0 else 1) < 30)) = true := by rfl)
    (hline : (apos.endLine == pos.line) = true := by rfl) (hs : starEach [a] X.env = (false, eval a X.env) :: starEach [] X.env := by rfl) (hplain : (backTo pos (starEach [] X.env)).any (·.1) = false := by rfl)
    (hsw : swapsWith (.Call (.Attribute (.Name x xpos) "append" apos) [a] [] pos) none p2.line X.env = pure false := by rfl) :
    P1 X (.Expr (.Call (.Attribute (.Name x xpos) "append" apos) [a] [] pos) p2) Γ D :=
  p_expr (v_mO i tyl_ok PySem.F.plainAttrs_list PySem.F.slot_list_append PySem.F.type_list_append mt_append h0 own_tyl (a_cons (h.imp fun R Γ1 ⟨Ps, q1, q2, q3⟩ => a_nil ⟨_, q1, own_append q2 q3⟩) hs) hN hv hd hcd hbase hfew hline hs hplain) hsw
/-- while xs, if xs -/
theorem b_truO (i : Nat) {x : Str} {xpos : Pos} {Ps : List Fct} (hO : Γ[i]? = some (.ow (oLst Ps))) (h : WB (!Ps.isEmpty) Γ)
    (hN : X.N[i]? = some x := by rfl) (hv : Vis X.env.scope x := by first | exact Or.inl rfl | exact Or.inr (Or.inl rfl) | exact Or.inr (Or.inr rfl)) (hd : (x == ("__debug__" : Str)) = false := by decide) (hcd : (x == ("__classdict__" : Str)) = false := by decide) :
    PB X (.Name x xpos) Γ WB := b_of (pt_truth (pe_var hN hv hd hcd) (by intro _; rfl)) fun B σ F H S => by
  obtain ⟨d, o, e1, e2, e3, e4, xs, e5, q⟩ := S.getO hO
  subst e5
  refine ⟨.ref d, e1, !Ps.isEmpty, .inl ⟨xs, SqL.of e4, ?_⟩, F, Γ, h, Evl.Ex.refl _, S⟩
  cases q with
  | nil => rfl
  | cons => rfl
/-- x in xs, x not in xs: texts, a list of our own -/
theorem b_inOL (i : Nat) {x : Str} {xpos : Pos} {neg : Bool} {op : CmpOp} (ho : OpR X (compareOp op) (rIn X.K neg)) (h : PV X a Γ fun P Γ1 => ∃ (s : Str) (l : List Str), P = fStr s ∧ Γ1[i]? = some (.ow (oLst (l.map fStr))) ∧ WB (if neg then !decide (s ∈ l) else decide (s ∈ l)) Γ1) (hm : behindInMarks op (.Name x xpos) = false := by rfl)
    (hN : X.N[i]? = some x := by rfl) (hv : Vis X.env.scope x := by first | exact Or.inl rfl | exact Or.inr (Or.inl rfl) | exact Or.inr (Or.inr rfl)) (hd : (x == ("__debug__" : Str)) = false := by decide) (hcd : (x == ("__classdict__" : Str)) = false := by decide) :
    PB X (.Compare a [op] [.Name x xpos] pos) Γ WB := b_of (pt_cmpR ho pe_wp (pe_var hN hv hd hcd) hm) fun B σ F H S => wpE_mono (h B σ F H S) fun v H1 ⟨F1, P, Γ1, ⟨s, l, e0, hO, w⟩, p, ex1, S1⟩ => by
  subst e0
  have p : v = .str s := p
  subst p
  obtain ⟨d, o, e1, e2, e3, e4, xs, e5, q⟩ := S1.getO hO
  subst e5
  have e := allP_map q
  subst e
  refine ⟨.ref d, e1, d, _, rfl, Or.inl (SqL.of e4), rfl, by simp [flatV], _, rfl, F1, Γ1, ?_, ex1, S1⟩
  rw [inV_str]
  exact w
end
end DL

/-! DL8: set comprehensions of tuples of ints (turned from the block of truth values), sorted of them. -/
namespace DL
open PySem L2 PyProof.Rows PpSet
open L2 (wipe)
section
variable {X : Cx}
theorem addT_raw {P : Program} {w : World} {A : Around} {E : Value → Shared → Prop} {s : Shared} {a x : Addr} {k : List Int} {L : List (Addr × List Int)} {es : Array (Int × Value)} {ep : Nat} {t : SetTable} {Q : Value → Shared → Prop} (R : SetTR P w s.heap a L es ep t) (hx : IsT P w s.heap k x) (hu : A.units + 64 < cLine) (hfew : L.length + 1 < 64)
    (hQ : ∀ h' L' es' ep' t' tk, Heap.SameBut a s.heap h' → SetTR P w h' a L' es' ep' t' → (k ∈ L.map (·.2) → L' = L) → (k ∉ L.map (·.2) → L'.Perm ((x, k) :: L)) → Q .none { s with heap := h', toks := tk }) :
    wpAny (model P w) A (call (.builtin "set.add") [.ref a, .ref x]) Q E s := by
  obtain ⟨o, ho, hex, hd⟩ := R.ob
  refine wpAny_call_entry F.slot_set_add ⟨o, ho, hex.1⟩ F.entry_set_add ?_ (F.args_set_add_2 _ _)
  unfold Builtin.«set.add» Builtin.Frozenset.oneOther
  simp only [List.isEmpty_nil, bind_assoc]
  unfold Builtin.Frozenset.addrOf setAdd
  refine wpAny_bind (wpAny_pure ?_)
  try dsimp only
  refine wpAny_bind (wpAny_pure ?_)
  try dsimp only
  refine wpAny_bind ?_
  refine wpAny_holding ?_
  have e1 : A.in1.units = A.units + 1 := rfl
  have hu1 : A.in1.units < cLine := by rw [e1]; omega
  refine wpAny_bind (wpAny_pyHash_tuple hu1 hx ?_)
  refine add_at (s := { s with toks := s.toks + (k.length + 1) }) R hx hu1 hfew fun b h' L' es' ep' t' hsb hS2 c1 c2 => ?_
  show wpAny _ _ (ret Value.none) _ _ _
  exact wpAny_pure ⟨_, rfl, hQ h' L' es' ep' t' _ hsb hS2 c1 c2⟩
theorem addT_ok {pins : List (Addr × Obj)} {σ : L2.St} {H : Hp} {s : Shared} {E : Value → Shared → Prop} {D x : Addr} {k : List Int} {L : List (Addr × List Int)} {Q : Value → Shared → Prop} (hu : X.A.units + 64 < cLine) (I : Inv X pins σ H s) (hD : H D = some (SetTO X.prog X.w D L)) (hL : ∀ p ∈ L, SqT X.K H p.1 (p.2.map V.int)) (hx : SqT X.K H x (k.map V.int)) (hfew : L.length + 1 < 64)
    (h : ∀ s' L', (k ∈ L.map (·.2) → L' = L) → (k ∉ L.map (·.2) → L'.Perm ((x, k) :: L)) → Inv X pins σ (upd H D (SetTO X.prog X.w D L')) s' → Q .none s') : wpAny (model X.prog X.w) X.A (call (.builtin "set.add") [.ref D, .ref x]) Q E s := by
  have R0 : SetT0 X.prog X.w s.heap D L := (I.hok D _ hD).1
  obtain ⟨es, ep, t, R⟩ := R0.full fun p hp => I.isT (hL p hp)
  refine addT_raw R (I.isT hx) hu hfew fun h' L' es' ep' t' tk sb R' c1 c2 => ?_
  have he : ∃ u, h'.get? D = some u := by
    obtain ⟨o, ho, _⟩ := R'.ob
    exact ⟨o, ho⟩
  exact h _ L' c1 c2 (I.write (e := D) (t' := tk) (by rw [hD]; trivial) (.inl rfl) (fun b u hb hu => (sb.2 b hb).trans hu) he (setTO_new R'.t0))
/-- {elt for target in iter if ..}, elt a tuple of ints: D the new set -/
def tScT (K : PySem.W.Frag) (P : Program) (w : World) (wi : TI) (g : TG) (tt : TT) (te : TE) (vs : List Nat) : TE := fun σ H Q => wi σ H fun J H1 => ∀ D, H1 D = none → ∃ W : Nat → Nat → Hp → Prop, (∃ m, W 0 m (upd H1 D (SetTO P w D []))) ∧ ∀ i m H, W i m H →
  (J.stop i H ∧ Q (.ref D) H) ∨ (J.go i H ∧ ∃ Nx : Hp → Prop, (∀ H', Nx H' → ∃ m', m' < m ∧ W (i + 1) m' H') ∧ ∀ x H', J.yld i H x H' → g x (wipe σ vs) H' fun σ2 H2 => wipe σ2 vs = wipe σ vs ∧ tt σ2 H2 fun b H3 =>
    if b = true then te σ2 H3 fun y H4 => ∃ (c : Addr) (k : List Int) (L : List (Addr × List Int)), y = .ref c ∧ SqT K H4 c (k.map V.int) ∧ H4 D = some (SetTO P w D L) ∧ (∀ p ∈ L, SqT K H4 p.1 (p.2.map V.int)) ∧ L.length + 1 < 64 ∧ ∀ L' : List (Addr × List Int), (k ∈ L.map (·.2) → L' = L) → (k ∉ L.map (·.2) → L'.Perm ((c, k) :: L)) → Nx (upd H4 D (SetTO P w D L')) else Nx H3)
theorem sct_core {pins : List (Addr × Obj)} {s : Shared} {σ : L2.St} {H : Hp} {Q : VK} {elt tg iter : Expr} {ifs : List Expr} {scope : Scope} {own : List (PySem.Str × Nat)} {pos pos' : Pos} {wi : TI} {g : TG} {tt : TT} {te : TE} {use : Option (Value → Sem Unit)} {Qf : Value → Shared → Prop}
    (hu : X.A.units + 64 < cLine) (hc : X.calm = true) (hN : X.N.Nodup) (I : Inv X pins σ H s) (hi : PI X tg iter wi) (ok : BlkOk X.N X.env.scope scope own)
    (hg : ∀ (s : Shared) (H : Hp) (C : Addr) (cl : List (PySem.Str × Addr)) (fp : List Addr), PG (X.blk s H scope (compEnvC scope cl C X.env) fp) tg g) (ht : ∀ (s : Shared) (H : Hp) (C : Addr) (cl : List (PySem.Str × Addr)) (fp : List Addr), PTs (X.blk s H scope (compEnvC scope cl C X.env) fp) ifs tt)
    (he : ∀ (s : Shared) (H : Hp) (C : Addr) (cl : List (PySem.Str × Addr)) (fp : List Addr), PE (X.blk s H scope (compEnvC scope cl C X.env) fp) elt te) (hs : ∀ x, foldedSetIterable iter X.env x = pure x)
    (h : tScT X.K X.prog X.w wi g tt te (own.map (·.2)) σ H Q)
    (hRR : ∀ D C s' m H', Inv X pins σ H' s' → Q (.ref D) H' → s'.heap.Ns C m → FpOk X pins H' C → compPost (model X.prog X.w) X.A X.xe use Qf (.ref D) C (.ok .next) s') :
    wpAny (model X.prog X.w) X.A (comprehension (.SetComp elt [⟨tg, iter, ifs, 0⟩] scope pos) scope X.env pos' (newSet (.type "set")) false (eval iter X.env) use) Qf X.xe s := by
  have hfree : ∀ y ∈ scope.names, y.2 = .free → ∃ c, X.env.cells.lookup y.1 = some c := fun y hy e => by
    rcases ok.free y hy e with k | k
    · exact I.ok.has _ (.inl k)
    · exact I.ok.has _ (.inr k)
  refine wpAny_comprehension_free (use := use) rfl hs (closure_ok hfree) ok.kind (fun y hy e => by rw [ok.uniq y hy, e])
    (thn (hi.run pins s σ H _ I h) fun xv s1 hx => thn hx fun itv s2 h2 => ?_)
  obtain ⟨it, fp, tn, J, H2, e, I2, T, st2, f2, q⟩ := h2
  subst e
  refine newSet_ok (newEnv_comp ?_)
  generalize hD : s2.heap.objs.size = D
  have hDn : H2 D = none := I2.hok.fresh (Nat.le_of_eq hD)
  obtain ⟨W, ⟨m0, w0⟩, turn⟩ := q D hDn
  -- the new list
  generalize hs3 : ({ s2 with heap := s2.heap.push { cls := .type "set", dict := none, data := .set #[] 0 (.fresh 0 0 (!X.w.params.followText "set-order")) } } : Shared) = s3
  have I3 : Inv X pins σ (upd H2 D (SetTO X.prog X.w D [])) s3 := by
    rw [← hs3]
    refine I2.laid (t' := s2.toks) (fun b o e => Heap.get?_push_of_some _ e) (Nat.le_of_eq hD) ?_
    rw [← hD]
    exact setTO_new (SetTR.t0 (setTR_fresh (P := X.prog) (Heap.get?_push_size _ rfl)))
  have h3 : s3.heap = s2.heap.push { cls := .type "set", dict := none, data := .set #[] 0 (.fresh 0 0 (!X.w.params.followText "set-order")) } := by rw [← hs3]
  have sz : ∀ b ∈ fp, b < s2.heap.objs.size := fun b hb => by
    obtain ⟨o, e, _⟩ := T.obj _ _ st2 b hb
    exact Heap.lt_size e
  have f3 : ∀ b ∈ fp, FpOk X pins (upd H2 D (SetTO X.prog X.w D [])) b ∧ b < s3.heap.objs.size := fun b hb => by
    have hlt := sz b hb
    refine ⟨⟨?_, (f2 b hb).2⟩, by rw [h3, Heap.size_push]; exact Nat.lt_succ_of_lt hlt⟩
    rw [upd_ne (by rw [← hD]; exact Nat.ne_of_lt hlt)]
    exact (f2 b hb).1
  have st3 : tn 0 s3.heap := T.keep _ _ _ st2 fun b _ o e => by rw [h3]; exact Heap.get?_push_of_some _ e
  have I4 := block_start I3 ok hN f3
  have pg := hg s3 (upd H2 D (SetTO X.prog X.w D [])) s3.heap.objs.size (cellsFrom (s3.heap.objs.size + 1) scope.names (cloFrom X.env.cells scope.names [])) fp
  have pt := ht s3 (upd H2 D (SetTO X.prog X.w D [])) s3.heap.objs.size (cellsFrom (s3.heap.objs.size + 1) scope.names (cloFrom X.env.cells scope.names [])) fp
  have pe := he s3 (upd H2 D (SetTO X.prog X.w D [])) s3.heap.objs.size (cellsFrom (s3.heap.objs.size + 1) scope.names (cloFrom X.env.cells scope.names [])) fp
  show codeAny _ _ (.compStart (.SetComp elt [⟨tg, iter, ifs, 0⟩] scope pos) 0 (.ref it) (.ref D) (compEnvC scope (cellsFrom (s3.heap.objs.size + 1) scope.names (cloFrom X.env.cells scope.names [])) s3.heap.objs.size X.env)) (compPost (model X.prog X.w) X.A X.xe use Qf (.ref D) s3.heap.objs.size) { s3 with heap := pushCells (s3.heap.push { cls := .type "dict", data := .dict #[] }) scope.names }
  have nfp : ∀ b ∈ fp, (upd H2 D (SetTO X.prog X.w D [])) b = none := fun b hb => (f3 b hb).1.1
  generalize hce : compEnvC scope (cellsFrom (s3.heap.objs.size + 1) scope.names (cloFrom X.env.cells scope.names [])) s3.heap.objs.size X.env = ce at I4 pg pt pe ⊢
  have cL : ce.locals = s3.heap.objs.size := by subst hce; rfl
  generalize hH3 : upd H2 D (SetTO X.prog X.w D []) = H3 at I3 I4 pg pt pe w0 nfp f3
  generalize hs4 : ({ s3 with heap := pushCells (s3.heap.push { cls := .type "dict", data := .dict #[] }) scope.names } : Shared) = s4 at I4 ⊢
  have st4 : tn 0 s4.heap := T.keep _ _ _ st3 fun b _ o e => by rw [← hs4]; exact pushCells_keeps _ _ _ _ (Heap.get?_push_of_some _ e)
  have stat : ∀ {σ' : L2.St} {H' : Hp} {s' : Shared}, Inv (X.blk s3 H3 scope ce fp) [] σ' H' s' → (∀ b ∈ fp, H' b = none) → ∀ b ∈ fp, FpOk (X.blk s3 H3 scope ce fp) [] H' b := fun {σ' H' s'} I' hn b hb =>
    ⟨hn b hb, (I'.ok.exf b hb).1, I'.ok.exfs b hb, .inl hb, fun x c e => (I'.ok.exf b hb).2 x c e, fun p hp => absurd (show p ∈ ([] : List (Addr × Obj)) ++ [] from hp) (by simp)⟩
  have loop : codeAny (model X.prog X.w) X.A (.compLoop (.SetComp elt [⟨tg, iter, ifs, 0⟩] scope pos) 0 (.ref it) (.ref D) ce) (compPost (model X.prog X.w) X.A X.xe use Qf (.ref D) s3.heap.objs.size) s4 := by
    refine compLoopS_any (fun n s' => ∃ i H', Inv (X.blk s3 H3 scope ce fp) [] (wipe σ (own.map (·.2))) H' s' ∧ tn i s'.heap ∧ (∀ b ∈ fp, H' b = none) ∧ W i n H') ?_ m0 ⟨0, H3, I4, st4, nfp, w0⟩
    rintro n s5 ⟨i, H5, I5, st5, n5, w5⟩
    rcases turn i n H5 w5 with ⟨stop, qq⟩ | ⟨go, Nx, hNx, step⟩
    · have td := T.done (X.blk s3 H3 scope ce fp) rfl rfl rfl hc i [] s5 _ H5 (fun _ _ => False) I5 (stat I5 n5) st5 stop
      refine thnF td fun r s6 ⟨hr, I6⟩ => ?_
      subst hr
      -- back in the def's context
      have I7 : Inv X pins σ H5 s6 := I3.call' (ch := fp) I6.os I6.base I6.hok I6.bare fun b hb => ⟨(f3 b hb).1.2.2.2.1, (f3 b hb).1.2.1, (f3 b hb).1.2.2.2.2.1, (f3 b hb).1.2.2.2.2.2⟩
      have nC : H5 s3.heap.objs.size = none := by
        have z : H5 ce.locals = none := I6.free
        rw [cL] at z
        exact z
      obtain ⟨m, hn, _⟩ := I6.loc
      have hn : s6.heap.Ns ce.locals m := hn
      rw [cL] at hn
      exact hRR D s3.heap.objs.size s6 m H5 I7 qq hn (I3.fpOk (Nat.le_refl _) nC)
    · have ti := T.item (X.blk s3 H3 scope ce fp) rfl rfl rfl hc i [] s5 _ H5 (fun _ _ => False) I5 (stat I5 n5) st5 go
      refine thnF ti fun r s6 ⟨u, hr, h6⟩ => ?_
      subst hr
      refine thnF h6 fun _ s7 ⟨x, H7, I7, r7, y7, st7, n7⟩ => ?_
      have I7' := I7.pinned (stat I7 n7) (T.obj _ _ st7)
      refine thnF (pg.run _ s7 _ H7 x u _ I7' r7 (step x H7 y7)) fun _ s8 ⟨σ8, H8, I8, hw8, q8⟩ => ?_
      refine thnF (pt.run _ s8 σ8 H8 _ I8 q8) fun b s9 ⟨H9, I9, q9⟩ => ?_
      -- the turn's end
      have fin : ∀ {s' : Shared} {H' : Hp}, Inv (X.blk s3 H3 scope ce fp) ([] ++ pinsAt fp s7.heap) σ8 H' s' → Nx H' → ∃ m, m < n ∧ ∃ i H', Inv (X.blk s3 H3 scope ce fp) [] (wipe σ (own.map (·.2))) H' s' ∧ tn i s'.heap ∧ (∀ b ∈ fp, H' b = none) ∧ W i m H' := fun {s' H'} I' nx => by
        obtain ⟨m', hm, w'⟩ := hNx H' nx
        have pin' : ∀ b ∈ fp, ∀ o, s7.heap.get? b = some o → s'.heap.get? b = some o ∧ H' b = none := fun b hb o e =>
          let z := I'.pin (b, o) (List.mem_append_right _ (List.mem_append_right _ (mem_pinsAt hb e)))
          ⟨z.1, z.2.1⟩
        have hl : (wipe σ (own.map (·.2))).length = σ8.length := by rw [← hw8, wipe_length]
        refine ⟨m', hm, i + 1, H', (I'.unpinned (pins := [])).weak hl (fun j v e => ?_), T.keep _ _ _ st7 fun b hb o e => (pin' b hb o e).1, fun b hb => ?_, w'⟩
        · rw [← hw8] at e
          exact (wipe_some e).1
        · obtain ⟨o, e, _⟩ := T.obj _ _ st7 b hb
          exact (pin' b hb o e).2
      cases b with
      | false =>
        simp only [Bool.false_eq_true, if_false] at q9 ⊢
        exact fin I9 q9
      | true =>
        simp only [if_true] at q9 ⊢
        refine thnF (pe.run _ s9 σ8 H9 _ I9 q9) fun z s10 ⟨yv, H10, I10, r10, cb, k0, L0, ey, hs10, hD10, hL10, hz10, nx⟩ => ?_
        subst ey
        cases r10
        exact addT_ok (X := X.blk s3 H3 scope ce fp) hu I10 hD10 hL10 hs10 hz10 fun s11 L' c1 c2 I11 => fin I11 (nx L' c1 c2)
  exact codeAny_compStart_set loop (T.self X.A 0 _ _ _ st4 loop)
theorem pe_sct {elt tg iter : Expr} {ifs : List Expr} {scope : Scope} {own : List (PySem.Str × Nat)} {pos : Pos} {wi : TI} {g : TG} {tt : TT} {te : TE} (hu : X.A.units + 64 < cLine) (hc : X.calm = true) (hN : X.N.Nodup) (hi : PI X tg iter wi) (ok : BlkOk X.N X.env.scope scope own)
    (hg : ∀ (s : Shared) (H : Hp) (C : Addr) (cl : List (PySem.Str × Addr)) (fp : List Addr), PG (X.blk s H scope (compEnvC scope cl C X.env) fp) tg g) (ht : ∀ (s : Shared) (H : Hp) (C : Addr) (cl : List (PySem.Str × Addr)) (fp : List Addr), PTs (X.blk s H scope (compEnvC scope cl C X.env) fp) ifs tt)
    (he : ∀ (s : Shared) (H : Hp) (C : Addr) (cl : List (PySem.Str × Addr)) (fp : List Addr), PE (X.blk s H scope (compEnvC scope cl C X.env) fp) elt te) (hs : ∀ x, foldedSetIterable iter X.env x = pure x := by intro _; rfl) :
    PE X (.SetComp elt [⟨tg, iter, ifs, 0⟩] scope pos) (tScT X.K X.prog X.w wi g tt te (own.map (·.2))) := by
  refine ⟨fun pins s σ H Q I h => ?_⟩
  rw [eval_SetComp]
  refine sct_core hu hc hN I hi ok hg ht he hs h fun D C s' m H' I' q hn f => ⟨m, hn, fun h'' sb => ?_⟩
  obtain ⟨f0, f1, f2, f3, f4, f5⟩ := f
  exact ⟨.ref D, H', I'.turned (t' := s'.toks) (fun b o hb e => (sb.2 b hb).trans e) f0 f1 f3 f4 f5, rfl, q⟩
end
end DL

/-! DL9: list(d), list(d.items()), dict(pairs) over dicts with tuple keys. -/
namespace DL
open PySem L2 PyProof.Rows
/-! ### facts that hide a choice -/
def fEx {ι : Type} (Q : ι → Fct) : Fct := ⟨fun v H => ∃ c, (Q c).p v H, fun e h => by
  obtain ⟨c, h⟩ := h
  exact ⟨c, (Q c).up e h⟩⟩
section
variable {X : Cx} {Γ : Ctx} {e a b : Expr} {pos : Pos} {W : Fct → Ctx → Prop} {WB : Bool → Ctx → Prop}
theorem PV.ex (h : PV X e Γ fun P Γ' => ∃ (ι : Type) (Q : ι → Fct), P = fEx Q ∧ ∀ c, W (Q c) Γ') : PV X e Γ W := fun B σ F H S => wpE_mono (h B σ F H S) fun v H' ⟨F', P, Γ', ⟨ι, Q, e1, w⟩, p, ex, S'⟩ => by
  subst e1
  obtain ⟨c, p⟩ := p
  exact ⟨F', Q c, Γ', w c, p, ex, S'⟩
end
theorem Fct.ext {P Q : Fct} (h : ∀ v F, P.p v F ↔ Q.p v F) : P = Q := by
  cases P with
  | mk p u =>
    cases Q with
    | mk q u' =>
      have e : p = q := by
        funext v F
        exact propext (h v F)
      subst e
      rfl
/-- the fact that a value is the key k -/
def fKey (K : PySem.W.Frag) (k : NestedKey) : Fct := ⟨fun v F => NKV K F k v ∧ ∃ a, v = .ref a, fun e h => ⟨NKV.up e _ _ h.1, h.2⟩⟩
theorem keyF_fKey {K : PySem.W.Frag} {k : NestedKey} (h : k.depth ≤ 8) : KeyF K (fKey K k) k := ⟨h, fun _ _ q => q⟩
/-- many new objects -/
theorem Grow.many {F H H' : Hp} (i : Ex F H) (e : Ex H H') : Grow F H (fun b => if H b = none then H' b else F b) H' := by
  refine ⟨fun c w q => ?_, e, fun c w q => ?_, fun b h1 h2 => ?_⟩
  · have := i c w q
    show (if H c = none then H' c else F c) = some w
    rw [if_neg (by rw [this]; exact fun z => nomatch z)]
    exact q
  · have q : (if H c = none then H' c else F c) = some w := q
    split at q
    · exact q
    · exact e c w (i c w q)
  · show (if H b = none then H' b else F b) = none
    rw [if_neg h1]
    exact h2
theorem dnr_keys : ∀ {xs : List (NestedKey × Addr × V)} {ys : List (NestedKey × Addr × Value)}, Paired DnR xs ys → xs.map (fun x => x.2.1) = ys.map fun y => y.2.1
  | _, _, .nil => rfl
  | _, _, .cons r t => by rw [List.map_cons, List.map_cons, r.2.1, dnr_keys t]
section
variable {X : Cx}
/-! ### list(d) -/
def rListN (X : Cx) : List V → Hp → VK → Prop := fun vs H Q => ∃ d xs, vs = [.ref d] ∧ NDAt X H d xs ∧ ∀ p, H p = none → Q (.ref p) (upd H p (.lst (xs.map fun x => V.ref x.2.1)))
theorem call_listN (hc : X.calm = true) : CallR X (.type "list") (rListN X) := by
  intro pins s σ H vs us Q I r h
  obtain ⟨d, xs, rfl, ⟨hd, hk⟩, q⟩ := h
  obtain ⟨u, rfl, rx⟩ := vals1 r
  cases rx
  obtain ⟨ys, r, dd, z, yy⟩ := dn_of I hd hk
  have hl : xs.length = ys.length := Paired.length r
  obtain ⟨es, ep, raw, hs, hes⟩ := dd.raw
  refine PySem.W.kdl_call (KdlSrc.rawDict yy) (I.ok.hd hc) raw (by omega) fun h' tk acc' c' kp e it => ?_
  have ea : acc'.toList = (ys.map fun y => y.2.1).map Value.ref := by
    have hl : acc'.toList.length = ys.length := by rw [Array.length_toList, it.1]; exact hs
    apply List.ext_getElem?
    intro j
    rw [List.getElem?_map, List.getElem?_map]
    cases hj : acc'.toList[j]? with
    | none =>
      have h1 := List.getElem?_eq_none_iff.mp hj
      rw [List.getElem?_eq_none (by omega)]
      all_goals rfl
    | some v =>
      obtain ⟨hi, hv⟩ := it.2 j v (by rw [← Array.getElem?_toList]; exact hj)
      obtain ⟨y, e1, e2, _⟩ := hes j hi
      rw [e1, hv, e2]
      all_goals rfl
  rw [← dnr_keys r] at ea
  have rv : Vals ((xs.map fun x => x.2.1).map V.ref) acc'.toList := by
    rw [ea]
    exact LiI.vals_refs _
  have eq : (xs.map fun x => V.ref x.2.1) = (xs.map fun x => x.2.1).map V.ref := by rw [List.map_map]; rfl
  rw [eq] at q
  refine ⟨.ref s.heap.objs.size, _, I.laid (t' := tk) (o := .lst ((xs.map fun x => x.2.1).map V.ref)) kp (Nat.le_refl _) ?_, rfl, q s.heap.objs.size (I.hok.fresh (Nat.le_refl _))⟩
  exact ⟨by rw [List.length_map, List.length_map]; exact z, acc'.toList, c', rv, by rw [Array.toArray_toList]; exact e⟩
/-! ### list(d.items()) -/
def putT2 : Hp → List Addr → List (V × V) → Hp
  | H, a :: as, p :: kvs => putT2 (upd H a (.tup [p.1, p.2])) as kvs
  | H, _, _ => H
theorem putT2_off {b : Addr} : ∀ (as : List Addr) (kvs : List (V × V)) (H : Hp), b ∉ as → putT2 H as kvs b = H b
  | [], _, _, _ => rfl
  | _ :: _, [], _, _ => rfl
  | a :: as, p :: kvs, H, h => by
    show putT2 (upd H a (.tup [p.1, p.2])) as kvs b = H b
    rw [putT2_off as kvs _ (fun z => h (List.mem_cons_of_mem _ z)), upd_ne (fun z => h (by rw [z]; exact List.mem_cons_self))]
theorem putT2_at : ∀ (as : List Addr) (kvs : List (V × V)) (H : Hp), as.length = kvs.length → as.Nodup → Paired (fun (t : Addr) (p : V × V) => putT2 H as kvs t = some (.tup [p.1, p.2])) as kvs
  | [], [], _, _, _ => .nil
  | [], _ :: _, _, h, _ => by cases h
  | _ :: _, [], _, h, _ => by cases h
  | a :: as, p :: kvs, H, h, hn => by
    have hn' := List.nodup_cons.mp hn
    have ih := putT2_at as kvs (upd H a (.tup [p.1, p.2])) (Nat.succ.inj h) hn'.2
    refine .cons ?_ ih
    show putT2 (upd H a (.tup [p.1, p.2])) as kvs a = some (.tup [p.1, p.2])
    rw [putT2_off as kvs _ hn'.1, upd_same]
def kvOf (xs : List (NestedKey × Addr × V)) : List (V × V) := xs.map fun x => (V.ref x.2.1, x.2.2)
def rItemsN (X : Cx) : V → Hp → VK → Prop := fun x H Q => ∃ (d : Addr) (xs : List (NestedKey × Addr × V)), x = .ref d ∧ NDAt X H d xs ∧
  ∀ (H' : Hp) (p : Addr) (ts : List Addr), Ex H H' → H p = none → (∀ t ∈ ts, H t = none) → p ∉ ts → H' p = some (.lst (ts.map V.ref)) → Paired (fun (t : Addr) (q : V × V) => H' t = some (.tup [q.1, q.2])) ts (kvOf xs) → Q (.ref p) H'
def tListItemsN (X : Cx) (te : TE) : TE := fun σ H Q => te σ H fun x H1 => rItemsN X x H1 Q
theorem items_laidN {pins : List (Addr × Obj)} {σ : L2.St} {H : Hp} {s : Shared} {h' : Heap} {tk : Nat} {xs : List (NestedKey × Addr × V)} {ys : List (NestedKey × Addr × Value)} {es : Array DictEntry} {acc : Array Value} {c : Nat} {as : List Addr} (I : Inv X pins σ H s) (hz : xs.length ≤ sizeLine) (rel : Paired DnR xs ys)
    (hs : es.size = ys.length) (hes : ∀ i (hi : i < es.size), ∃ y, ys[i]? = some y ∧ es[i].key = .ref y.2.1 ∧ es[i].val = y.2.2)
    (hk : ∀ b o, s.heap.get? b = some o → h'.get? b = some o) (hS : h'.get? s.heap.objs.size = some { cls := .type "list", dict := none, data := .seq acc c, slots := #[] }) (hl : as.length = es.size) (hG : PySem.W.DilG es s.heap.objs.size h' as) (hacc : acc.toList = as.map Value.ref) :
    ∃ H' : Hp, Ex H H' ∧ H s.heap.objs.size = none ∧ (∀ t ∈ as, H t = none) ∧ s.heap.objs.size ∉ as ∧ H' s.heap.objs.size = some (.lst (as.map V.ref)) ∧ Paired (fun (t : Addr) (q : V × V) => H' t = some (.tup [q.1, q.2])) as (kvOf xs) ∧ Inv X pins σ H' { s with heap := h', toks := tk } := by
  have lk : xs.length = ys.length := Paired.length rel
  have lkv : (kvOf xs).length = xs.length := by unfold kvOf; rw [List.length_map]
  have hSn : s.heap.objs.size ∉ as := fun z => Nat.lt_irrefl _ (hG.above _ z)
  have nd : as.Nodup := List.Pairwise.imp (fun {a b} (h : a < b) => Nat.ne_of_lt h) hG.rise
  have new : ∀ t ∈ as, H t = none := fun t ht => I.hok.fresh (Nat.le_of_lt (hG.above t ht))
  have newS : H s.heap.objs.size = none := I.hok.fresh (Nat.le_refl _)
  have atP := putT2_at as (kvOf xs) (upd H s.heap.objs.size (.lst (as.map V.ref))) (by omega) nd
  have off : ∀ b, b ∉ as → b ≠ s.heap.objs.size → putT2 (upd H s.heap.objs.size (.lst (as.map V.ref))) as (kvOf xs) b = H b := fun b h1 h2 => by rw [putT2_off as _ _ h1, upd_ne h2]
  have low : ∀ b o, s.heap.get? b = some o → b ∉ as ∧ b ≠ s.heap.objs.size := fun b o e => ⟨fun z => absurd (Heap.lt_size e) (Nat.not_lt.mpr (Nat.le_of_lt (hG.above b z))), Nat.ne_of_lt (Heap.lt_size e)⟩
  have kp : ∀ b u, H b = some u → (putT2 (upd H s.heap.objs.size (.lst (as.map V.ref))) as (kvOf xs)) b = some u := fun b u e => by
    rw [off b (fun z => by rw [new b z] at e; cases e) (fun z => by rw [z, newS] at e; cases e)]
    exact e
  have eS : putT2 (upd H s.heap.objs.size (.lst (as.map V.ref))) as (kvOf xs) s.heap.objs.size = some (.lst (as.map V.ref)) := by rw [putT2_off as _ _ hSn, upd_same]
  refine ⟨putT2 (upd H s.heap.objs.size (.lst (as.map V.ref))) as (kvOf xs), kp, newS, new, hSn, eS, atP, ?_⟩
  refine I.call' (ch := []) rfl ⟨fun b o q _ _ _ => hk b o q, fun b o q _ _ _ => ⟨o.slots, hk b o q⟩, fun b o q n _ => ?_, fun b o q _ => ⟨o, hk b o q⟩, fun b xs q => kp b _ q, fun b o u q => kp b _ q, fun b ps q => ⟨#[], by rw [kp b _ q]; simp⟩⟩ (fun b u q => ?_) I.bare fun b z => by simp at z
  · obtain ⟨z1, z2⟩ := low b o q
    rw [off b z1 z2]
    exact n
  · by_cases hb : b ∈ as
    · obtain ⟨j, pk, e1, e2, e3⟩ := LiI.paired_ix atP hb
      rw [e3] at q
      cases q
      obtain ⟨hj, f3⟩ := hG.pairs j b e1
      obtain ⟨y, g1, g2, g3⟩ := hes j hj
      unfold kvOf at e2
      rw [List.getElem?_map] at e2
      cases hx : xs[j]? with
      | none =>
        rw [hx] at e2
        cases e2
      | some x =>
        rw [hx] at e2
        cases e2
        obtain ⟨y', g4, g5, g6, g7⟩ := LiI.paired_get rel hx
        rw [g1] at g4
        cases g4
        refine ⟨by show 2 ≤ sizeLine; decide, [es[j].key, es[j].val], .cons ?_ (.cons ?_ .nil), ⟨_, f3, rfl, _, rfl⟩⟩
        · rw [g2, ← g6]
          rfl
        · rw [g3]
          exact g7
    · by_cases hb2 : b = s.heap.objs.size
      · rw [hb2] at q ⊢
        rw [eS] at q
        cases q
        refine ⟨by rw [List.length_map]; omega, acc.toList, c, by rw [hacc]; exact LiI.vals_refs as, ?_⟩
        rw [Array.toArray_toList]
        exact hS
      · rw [off b hb hb2] at q
        exact (I.hok b u q).stay (fun d v _ y => hk d v y) (fun d y => kp d _ y) fun d xs y => kp d _ y
theorem pe_listItemsN {e : Expr} {te : TE} {p apos cpos pos : Pos} (hc : X.calm = true) (he : PE X e te) (hg : Gl X "list") (hm : X.mg "list" = none) (hv : bootBuiltins "list" = some (.type "list") := by decide +kernel) (hbase : attributeBase e "items" X.env (eval e X.env) = eval e X.env := by rfl) (hline : (apos.endLine == cpos.line) = true := by rfl)
    (hs : starEach [.Call (.Attribute e "items" apos) [] [] cpos] X.env = (false, eval (.Call (.Attribute e "items" apos) [] [] cpos) X.env) :: starEach [] X.env := by rfl) :
    PE X (.Call (.Name "list" p) [.Call (.Attribute e "items" apos) [] [] cpos] [] pos) (tListItemsN X te) := by
  refine ⟨fun pins s σ H Q I hq => ?_⟩
  refine wpAny_Call_Name_kw (ld_blt I hg hm hv ?_)
  refine PyProof.Rows.callWith_type1 ?_ hs rfl
  rw [hs]
  show wpAny _ _ (spliced ((false, eval (.Call (.Attribute e "items" apos) [] [] cpos) X.env) :: backTo pos (starEach [] X.env))) _ _ s
  refine Calls.spliced_cons ?_
  refine wpAny_Call_method (T := "dict") (id := "dict.items") hbase rfl hline F.plainAttrs_dict F.slot_dict_items F.type_dict_items (thn (he.run pins s σ H _ I hq) fun u s1 ⟨x, H1, I1, rx, d, xs, ex, ⟨hd, hk⟩, q⟩ => ?_)
  subst ex
  obtain rfl : u = Value.ref d := rx
  obtain ⟨ys, rel, dd, hz, hs0⟩ := dn_of I1 hd hk
  have lk : xs.length = ys.length := Paired.length rel
  obtain ⟨es, ep, raw, hsz, hes⟩ := dd.raw
  have hto := dd
  obtain ⟨o, es0, ep0, ho, hex, hdat, _⟩ := hto
  have hT : s1.TypeIs (.ref d) "dict" := ⟨o, ho, hex.1⟩
  have I2 : Inv X pins σ H1 { s1 with heap := s1.heap.push { cls := .type "dict_items", data := .fields #[.ref d] } } := I1.kept (t' := s1.toks) fun b ob q => Heap.get?_push_of_some _ q
  refine ⟨hT, fun a e => ?_, ?_⟩
  · cases e
    exact ⟨o, ho, hex.2.1⟩
  show wpAny _ _ (callWith cpos (.builtin "dict.items") [.ref d] [] []) _ X.xe s1
  refine method_meetsIn F.slot_dict_items F.entry_dict_items rfl (PySem.evalArgs_none ⟨rfl, hT, F.args_dict_items_1 _, _, meets_dict_items_raw d hs0, ⟨es, ep, raw⟩, ?_⟩)
  refine Calls.spliced_nil ?_
  refine PySem.W.dil_call (I1.ok.hd hc) ⟨_, Heap.get?_push_size _ rfl, rfl, rfl⟩ (raw.push _) (by omega) fun h' tk acc c as hk hS hl hG hacc => ?_
  obtain ⟨H', k1, k2, k3, k4, k5, k6, J⟩ := items_laidN (tk := tk) I2 hz rel hsz (fun i hi => by
    obtain ⟨y, a1, a2, a3, _⟩ := hes i hi
    exact ⟨y, a1, a2, a3⟩) hk hS hl hG hacc
  exact ⟨.ref _, H', J, rfl, q H' _ as k1 k2 k3 k4 k5 k6⟩
/-! ### dict(pairs) -/
def putAllX (xs : List (NestedKey × Addr × V)) : List (NestedKey × Addr × V) := xs.foldl (fun acc x => putX acc x.1 x.2.1 x.2.2) []
def rDictPN (X : Cx) : List V → Hp → VK → Prop := fun vs H Q => ∃ (a : Addr) (ts : List Addr) (xs : List (NestedKey × Addr × V)), vs = [.ref a] ∧ SqL X.K H a (ts.map V.ref) ∧ Paired (fun t (x : NestedKey × Addr × V) => SqT X.K H t [.ref x.2.1, x.2.2]) ts xs ∧ KeysAt X.K H xs ∧
  ∀ p, H p = none → Q (.ref p) (upd H p (DNo X.prog X.w p (putAllX xs)))
theorem pairsN_of {pins : List (Addr × Obj)} {σ : L2.St} {H : Hp} {s : Shared} (I : Inv X pins σ H s) : ∀ {ts : List Addr} {xs : List (NestedKey × Addr × V)}, Paired (fun t (x : NestedKey × Addr × V) => SqT X.K H t [.ref x.2.1, x.2.2]) ts xs →
    ∃ ys : List (NestedKey × Addr × Value), Paired DnR xs ys ∧ Paired (fun (t : Addr) (y : NestedKey × Addr × Value) => IsTup s.heap t #[.ref y.2.1, y.2.2]) ts ys
  | _, _, .nil => ⟨[], .nil, .nil⟩
  | _, _, .cons (a := p) (b := x) h t => by
    obtain ⟨ys, r, hp⟩ := pairsN_of I t
    obtain ⟨its, rv, ht, _⟩ := I.tuple h
    obtain ⟨u, y, ei, ru, ry⟩ := vals2 rv
    subst ei
    cases ru
    exact ⟨(x.1, x.2.1, y) :: ys, .cons ⟨rfl, rfl, ry⟩ r, .cons ht hp⟩
theorem putAll_rel : ∀ {xs : List (NestedKey × Addr × V)} {ys : List (NestedKey × Addr × Value)} {xa : List (NestedKey × Addr × V)} {ya : List (NestedKey × Addr × Value)}, Paired DnR xs ys → Paired DnR xa ya → Paired DnR (xs.foldl (fun acc x => putX acc x.1 x.2.1 x.2.2) xa) (PySem.storedAllH ya ys)
  | _, _, _, _, .nil, h => h
  | _, _, _, _, .cons (a := x) (b := y) r t, h => by
    obtain ⟨r1, r2, r3⟩ := r
    show Paired DnR (List.foldl _ (putX _ x.1 x.2.1 x.2.2) _) (PySem.storedAllH (storedH _ y.1 y.2.1 y.2.2) _)
    rw [← r1, ← r2]
    exact putAll_rel t (put_rel r3 h)
theorem putAll_len : ∀ (xs xa : List (NestedKey × Addr × V)), (xs.foldl (fun acc x => putX acc x.1 x.2.1 x.2.2) xa).length ≤ xa.length + xs.length
  | [], xa => Nat.le_refl _
  | x :: xs, xa => by
    have h := putAll_len xs (putX xa x.1 x.2.1 x.2.2)
    have h2 := putX_len xa x.1 x.2.1 x.2.2
    rw [List.foldl_cons, List.length_cons]
    omega
theorem paired_ref {α : Type} {R : Addr → α → Prop} (d : Addr) : ∀ {ts : List Addr} {l : List α} , Paired R ts l → ∀ j y, l[j]? = some y → ts[j]? = some (ts.getD j d) ∧ R (ts.getD j d) y
  | _, _, .nil, j, y, h => by cases h
  | _, _, .cons r t, 0, y, h => by
    cases h
    exact ⟨rfl, r⟩
  | _, _, .cons r t, j + 1, y, h => by
    have := paired_ref d t j y (by simpa using h)
    simpa using this
theorem call_dictPN {j : Nat} (hc : X.calm = true) (hr : Room j X.A) : CallR X (.type "dict") (rDictPN X) := by
  intro pins s σ H vs us Q I r h
  obtain ⟨a, ts, xs, rfl, hl, hp, hk, q⟩ := h
  obtain ⟨u, rfl, rx⟩ := vals1 r
  cases rx
  obtain ⟨its, rv, pl, hz⟩ := I.list hl
  have ei := refs_at rv
  subst ei
  rw [List.length_map] at hz
  obtain ⟨ys, rel, ht⟩ := pairsN_of I hp
  have l1 : ts.length = ys.length := Paired.length ht
  have l2 : xs.length = ys.length := Paired.length rel
  obtain ⟨o, n, ho, hc', hd, hdat⟩ := pl
  have ok : PySem.PlainSeq "list" s.heap a (ts.map Value.ref).toArray ∧ PySem.PairItems s.heap (ts.map Value.ref).toArray (fun i => ts.getD i 0) (ys.map fun y => (Value.ref y.2.1, y.2.2)) := by
    refine ⟨⟨o, n, ho, hc', hd, hdat⟩, by simp [l1], fun j k v hj => ?_⟩
    rw [List.getElem?_map] at hj
    cases hy : ys[j]? with
    | none =>
      rw [hy] at hj
      cases hj
    | some y =>
      rw [hy] at hj
      cases hj
      obtain ⟨e1, e2⟩ := paired_ref 0 ht j y hy
      refine ⟨?_, .inl e2⟩
      rw [List.getElem?_toArray, List.getElem?_map, e1]
      rfl
  have hu := hr.units
  refine call_dict_pairsH (knd := nestedKind X.prog X.w) (ps := ys) (PySem.PairArg.list a _ (fun i => ts.getD i 0) (ys.map fun y => (Value.ref y.2.1, y.2.2))) (I.ok.hd hc) (by show X.A.units + 1 + 1 + 8 < cLine; omega) ok ⟨by rw [List.length_map], fun i key v hv => ?_⟩ (fun h' hk' x hx => ?_) (by rw [List.length_map, ← l1]; exact hz) fun h' tk hd' k => ?_
  · have hv : (ys.map fun y => (Value.ref y.2.1, y.2.2))[i]? = some (key, v) := hv
    rw [List.getElem?_map] at hv
    cases hy : ys[i]? with
    | none =>
      rw [hy] at hv
      cases hv
    | some y =>
      rw [hy] at hv
      cases hv
      exact ⟨y.1, y.2.1, rfl, rfl⟩
  · obtain ⟨x0, hx0, e1, e2⟩ := DnR.mem rel x hx
    obtain ⟨k1, k2⟩ := hk x0 hx0
    rw [← e1, ← e2]
    have is := key_is I k1 k2
    exact nestedKind_stays.stays (fun b o _ _ e _ => hk' b o (Nat.ne_of_lt (Heap.lt_size e)) (by simp) e) is
  · have hm : (s.heap.objs.size == sysModules) = false := beq_eq_false_iff_ne.mpr (Nat.ne_of_gt I.big)
    obtain ⟨o', es', ep', h1, h2, h3, h4, _, h5⟩ := hd'
    refine ⟨.ref s.heap.objs.size, upd H s.heap.objs.size (DNo X.prog X.w s.heap.objs.size (putAllX xs)), I.laid (t' := tk) (fun b o e => k b o (by simp) e) (Nat.le_refl _) (dn_ok ⟨?_, hm, _, putAll_rel rel .nil, o', es', ep', h1, h2, h3, h4, h5⟩), rfl, q _ (I.hok.fresh (Nat.le_refl _))⟩
    have := putAll_len xs []
    unfold putAllX
    simp only [List.length_nil, Nat.zero_add] at this
    omega
end
/-! ### over facts -/
section
variable {X : Cx} {Γ : Ctx} {e a b : Expr} {pos : Pos} {W : Fct → Ctx → Prop} {WO : Own → Ctx → Prop}
theorem dnf_keysF {K : PySem.W.Frag} {F : Hp} : ∀ {xs : List (NestedKey × Addr × V)} {kvs : List KF}, Paired (DnF K F) xs kvs → AllP (xs.map fun x => V.ref x.2.1) (kvs.map fun kv => fKey K kv.1) F
  | _, _, .nil => .nil
  | _, _, .cons q t => .cons ⟨by rw [← q.1]; exact q.2.1, _, rfl⟩ (dnf_keysF t)
/-- list(d), d a dict of our own: a new list of our own -/
theorem n_listO (i : Nat) {x : Str} {xpos p : Pos} {kvs : List KF} (hm : X.mg "list" = none) (hc : X.calm = true) (hO : Γ[i]? = some (.ow (oDN X.prog X.w X.K kvs))) (h : WO (oLst (kvs.map fun kv => fKey X.K kv.1)) Γ) (hg : Gl X "list" := by rfl) (hst : starEach [.Name x xpos] X.env = (false, eval (.Name x xpos) X.env) :: starEach [] X.env := by rfl)
    (hN : X.N[i]? = some x := by rfl) (hv : Vis X.env.scope x := by first | exact Or.inl rfl | exact Or.inr (Or.inl rfl) | exact Or.inr (Or.inr rfl)) (hd : (x == ("__debug__" : Str)) = false := by decide) (hcd : (x == ("__classdict__" : Str)) = false := by decide) :
    PN X (.Call (.Name "list" p) [.Name x xpos] [] pos) Γ WO := n_of (pe_callTy (call_listN hc) hg hm (by decide +kernel) (pa_cons (pe_var hN hv hd hcd) pa_nil hst) (by decide) (by decide) hst rfl) fun B σ F H S => by
  obtain ⟨d, o, e1, e2, e3, e4, xs, e5, q⟩ := S.getO hO
  subst e5
  exact ⟨.ref d, e1, d, xs, rfl, ndat_of S.ex e4 q, fun l hl => ⟨l, _, F, H, _, Γ, rfl, rfl, hl, h, ⟨_, rfl, dnf_keysF q⟩, Evl.Ex.refl _, S⟩⟩
theorem dnf_items {K : PySem.W.Frag} {F H' : Hp} (e : Ex F H') : ∀ {xs : List (NestedKey × Addr × V)} {kvs : List KF} {ts : List Addr}, Paired (DnF K F) xs kvs → Paired (fun (t : Addr) (q : V × V) => H' t = some (.tup [q.1, q.2])) ts (kvOf xs) → AllP (ts.map V.ref) (kvs.map fun kv => fTup K [fKey K kv.1, kv.2]) H'
  | [], _, _, .nil, .nil => .nil
  | x :: xs, kv :: kvs, t :: ts, .cons q r, .cons q' r' => .cons ⟨t, _, rfl, SqT.of q', .cons ((fKey K kv.1).up e ⟨by rw [← q.1]; exact q.2.1, _, rfl⟩) (.cons (kv.2.up e q.2.2.2) .nil)⟩ (dnf_items e r r')
theorem v_listItemsN {p apos cpos : Pos} (hm : X.mg "list" = none) (hc : X.calm = true) (h : PV X e Γ fun P Γ1 => ∃ kvs, P = fDN X.prog X.w X.K kvs ∧ W (fLst X.K (kvs.map fun kv => fTup X.K [fKey X.K kv.1, kv.2])) Γ1) (hg : Gl X "list" := by rfl) (hbase : attributeBase e "items" X.env (eval e X.env) = eval e X.env := by rfl) (hline : (apos.endLine == cpos.line) = true := by rfl)
    (hs : starEach [.Call (.Attribute e "items" apos) [] [] cpos] X.env = (false, eval (.Call (.Attribute e "items" apos) [] [] cpos) X.env) :: starEach [] X.env := by rfl) :
    PV X (.Call (.Name "list" p) [.Call (.Attribute e "items" apos) [] [] cpos] [] pos) Γ W := v_of (pe_listItemsN hc pe_wp hg hm (by decide +kernel) hbase hline hs) fun B σ F H S => wpE_mono (h B σ F H S) fun v H1 ⟨F1, P, Γ1, ⟨kvs, e1, w⟩, p, ex1, S1⟩ => by
  subst e1
  obtain ⟨d, o, e1, e2, xs, e3, q⟩ := p
  subst e3
  refine ⟨d, xs, e1, ndat_of S1.ex (S1.ex d _ e2) q, fun H' l ts eh hl hts hn hH hP => ?_⟩
  have g := Grow.many S1.ex eh
  refine ⟨_, _, Γ1, w, ?_, ex1.trans g.f, S1.grow g⟩
  have hF : ∀ t, H1 t = none → (if H1 t = none then H' t else F1 t) = H' t := fun t ht => by rw [if_pos ht]
  refine ⟨l, ts.map V.ref, rfl, by show (if H1 l = none then H' l else F1 l) = _; rw [hF l hl]; exact hH, ?_⟩
  refine dnf_items g.f q ?_
  have up : ∀ {ts : List Addr} {l : List (V × V)}, (∀ t ∈ ts, H1 t = none) → Paired (fun (t : Addr) (q : V × V) => H' t = some (.tup [q.1, q.2])) ts l → Paired (fun (t : Addr) (q : V × V) => (if H1 t = none then H' t else F1 t) = some (.tup [q.1, q.2])) ts l := by
    intro ts l ht hp
    induction hp with
    | nil => exact .nil
    | cons h t ih => exact .cons (by rw [hF _ (ht _ List.mem_cons_self)]; exact h) (ih fun t' h' => ht t' (List.mem_cons_of_mem _ h'))
  exact up hts hP
/-- dict(xs), xs a list of pairs -/
abbrev Trip := NestedKey × Fct × Fct
def putF (l : List Trip) : List KF := l.foldl (fun kvs x => ptF kvs x.1 x.2.2) []
theorem trip_of {K : PySem.W.Frag} {F : Hp} : ∀ {vs : List V} {l : List Trip}, (∀ x ∈ l, KeyF K x.2.1 x.1) → AllP vs (l.map fun x => fTup K [x.2.1, x.2.2]) F → ∃ (ts : List Addr) (xs : List (NestedKey × Addr × V)), vs = ts.map V.ref ∧ Paired (fun t (x : NestedKey × Addr × V) => SqT K F t [.ref x.2.1, x.2.2]) ts xs ∧ Paired (DnF K F) xs (l.map fun x => (x.1, x.2.2))
  | _, [], _, .nil => ⟨[], [], rfl, .nil, .nil⟩
  | v :: vs, x :: l, hk, .cons h t => by
    obtain ⟨ts, xs, e1, e2, e3⟩ := trip_of (fun y hy => hk y (List.mem_cons_of_mem _ hy)) t
    obtain ⟨a, us, rfl, h2, h3⟩ := h
    cases h3 with
    | cons p1 h3 =>
      cases h3 with
      | cons p2 h3 =>
        cases h3
        have kk := hk x List.mem_cons_self
        obtain ⟨k1, b, rfl⟩ := kk.2 _ F p1
        exact ⟨a :: ts, (x.1, b, _) :: xs, by rw [e1]; rfl, .cons h2 e2, .cons ⟨rfl, k1, kk.1, p2⟩ e3⟩
theorem dnf_putAll {K : PySem.W.Frag} {F : Hp} : ∀ {xs : List (NestedKey × Addr × V)} {l : List Trip} {xa : List (NestedKey × Addr × V)} {ka : List KF}, Paired (DnF K F) xs (l.map fun x => (x.1, x.2.2)) → Paired (DnF K F) xa ka →
    Paired (DnF K F) (xs.foldl (fun acc x => putX acc x.1 x.2.1 x.2.2) xa) (l.foldl (fun kvs x => ptF kvs x.1 x.2.2) ka)
  | _, [], _, _, .nil, h => h
  | x :: xs, y :: l, xa, ka, .cons r t, h => by
    rw [List.foldl_cons, List.foldl_cons]
    refine dnf_putAll t ?_
    have e : x.1 = y.1 := r.1
    rw [← e]
    exact dnf_put r.2.1 r.2.2.1 r.2.2.2 h
theorem oc_dictPN {l : List Trip} (hk : ∀ x ∈ l, KeyF X.K x.2.1 x.1) : OpC (rDictPN X) [fLst X.K (l.map fun x => fTup X.K [x.2.1, x.2.2])] (fDN X.prog X.w X.K (putF l)) := fun vs F H ex ps Q q => by
  cases ps with
  | cons p ps =>
    cases ps
    obtain ⟨a, us, rfl, h2, h3⟩ := p
    obtain ⟨ts, xs, e1, e2, e3⟩ := trip_of hk h3
    subst e1
    refine ⟨a, ts, xs, rfl, SqL.of (ex a _ h2), Paired.up (fun _ _ z => Evl.ex_t ex z) e2, (dnf_keys e3).up ex, fun l hl => ?_⟩
    have g := Grow.new (o := DNo X.prog X.w l (putAllX xs)) ex hl
    refine q _ _ _ ⟨l, _, rfl, upd_same, _, rfl, ?_⟩ g
    exact Paired.up (fun x kv z => ⟨z.1, NKV.up g.f _ _ z.2.1, z.2.2.1, kv.2.up g.f z.2.2.2⟩) (dnf_putAll e3 .nil)
end
end DL

/-! DL10: dict comprehensions with tuple keys (turned from the block for ints and texts). -/
namespace DL
open PySem L2 PyProof.Rows
open L2 (wipe)
section
variable {X : Cx}
theorem dn_dictSet {j : Nat} {pins : List (Addr × Obj)} {σ : L2.St} {H : Hp} {s : Shared} {E : Value → Shared → Prop} {D a : Addr} {xs : List (NestedKey × Addr × V)} {k : NestedKey} {v : V} {r : Value} {Q : Unit → Shared → Prop} (hr : Room j X.A) (I : Inv X pins σ H s) (hD : H D = some (DNo X.prog X.w D xs)) (hk : KeysAt X.K H xs) (hn : NKV X.K H k (.ref a)) (hp : k.depth ≤ 8) (hz : xs.length < sizeLine)
    (rv : RelV v r) (h : ∀ s', Inv X pins σ (upd H D (DNo X.prog X.w D (putX xs k a v))) s' → Q () s') : wpAny (model X.prog X.w) X.A (dictSet D (.ref a) r) Q E s := by
  obtain ⟨ys, rel, dd, z, yy⟩ := dn_of I hD hk
  have hzv : ys.length ≤ sizeLine := by rw [← Paired.length rel]; exact z
  have hu := hr.units
  refine wpAny_dictSet_heap (hsz := hzv) (by show X.A.units + 8 < cLine; omega) (key_is I hn hp) dd fun h' dd' hs => h _ ?_
  exact dn_write I hD (put_rel rv rel) dd' (Nat.le_trans (putX_len _ _ _ _) hz) yy hs
def tDcN (X : Cx) (wi : TI) (g : TG) (tt : TT) (tk tv : TE) (vs : List Nat) : TE := fun σ H Q => wi σ H fun J H1 => ∀ D, H1 D = none → ∃ W : Nat → Nat → Hp → Prop, (∃ m, W 0 m (upd H1 D (DNo X.prog X.w D []))) ∧ ∀ i m H, W i m H →
  (J.stop i H ∧ Q (.ref D) H) ∨ (J.go i H ∧ ∃ Nx : Hp → Prop, (∀ H', Nx H' → ∃ m', m' < m ∧ W (i + 1) m' H') ∧ ∀ x H', J.yld i H x H' → g x (wipe σ vs) H' fun σ2 H2 => wipe σ2 vs = wipe σ vs ∧ tt σ2 H2 fun b H3 =>
    if b = true then tk σ2 H3 fun y H4 => tv σ2 H4 fun z H5 => ∃ xs k a, y = .ref a ∧ H5 D = some (DNo X.prog X.w D xs) ∧ KeysAt X.K H5 xs ∧ NKV X.K H5 k (.ref a) ∧ k.depth ≤ 8 ∧ xs.length < sizeLine ∧ Nx (upd H5 D (DNo X.prog X.w D (putX xs k a z))) else Nx H3)
theorem dcn_core {pins : List (Addr × Obj)} {s : Shared} {σ : L2.St} {H : Hp} {Q : VK} {kx vx tg iter : Expr} {ifs : List Expr} {scope : Scope} {own : List (Str × Nat)} {pos pos' : Pos} {wi : TI} {g : TG} {tt : TT} {tk tv : TE} {use : Option (Value → Sem Unit)} {Qf : Value → Shared → Prop}
    {jr : Nat} (hr : Room jr X.A) (hc : X.calm = true) (hN : X.N.Nodup) (I : Inv X pins σ H s) (hi : PI X tg iter wi) (ok : BlkOk X.N X.env.scope scope own)
    (hg : ∀ (s : Shared) (H : Hp) (C : Addr) (cl : List (Str × Addr)) (fp : List Addr), PG (X.blk s H scope (compEnvC scope cl C X.env) fp) tg g) (ht : ∀ (s : Shared) (H : Hp) (C : Addr) (cl : List (Str × Addr)) (fp : List Addr), PTs (X.blk s H scope (compEnvC scope cl C X.env) fp) ifs tt)
    (hk : ∀ (s : Shared) (H : Hp) (C : Addr) (cl : List (Str × Addr)) (fp : List Addr), PE (X.blk s H scope (compEnvC scope cl C X.env) fp) kx tk)
    (he : ∀ (s : Shared) (H : Hp) (C : Addr) (cl : List (Str × Addr)) (fp : List Addr), PE (X.blk s H scope (compEnvC scope cl C X.env) fp) vx tv) (hs : ∀ x, foldedSetIterable iter X.env x = pure x)
    (h : tDcN X wi g tt tk tv (own.map (·.2)) σ H Q)
    (hRR : ∀ D C s' m H', Inv X pins σ H' s' → Q (.ref D) H' → s'.heap.Ns C m → FpOk X pins H' C → compPost (model X.prog X.w) X.A X.xe use Qf (.ref D) C (.ok .next) s') :
    wpAny (model X.prog X.w) X.A (comprehension (.DictComp kx vx [⟨tg, iter, ifs, 0⟩] scope pos) scope X.env pos' newDict false (eval iter X.env) use) Qf X.xe s := by
  have hfree : ∀ y ∈ scope.names, y.2 = .free → ∃ c, X.env.cells.lookup y.1 = some c := fun y hy e => by
    rcases ok.free y hy e with k | k
    · exact I.ok.has _ (.inl k)
    · exact I.ok.has _ (.inr k)
  refine wpAny_comprehension_free (use := use) rfl hs (closure_ok hfree) ok.kind (fun y hy e => by rw [ok.uniq y hy, e])
    (thn (hi.run pins s σ H _ I h) fun xv s1 hx => thn hx fun itv s2 h2 => ?_)
  obtain ⟨it, fp, tn, J, H2, e, I2, T, st2, f2, q⟩ := h2
  subst e
  refine wpAny_newObj_type (newEnv_comp ?_)
  generalize hD : s2.heap.objs.size = D
  have hDn : H2 D = none := I2.hok.fresh (Nat.le_of_eq hD)
  obtain ⟨W, ⟨m0, w0⟩, turn⟩ := q D hDn
  -- the new list
  generalize hs3 : ({ s2 with heap := s2.heap.push { cls := .type "dict", data := .dict #[] } } : Shared) = s3
  have I3 : Inv X pins σ (upd H2 D (DNo X.prog X.w D [])) s3 := by
    rw [← hs3]
    refine I2.laid (t' := s2.toks) (fun b o e => Heap.get?_push_of_some _ e) (Nat.le_of_eq hD) ?_
    rw [← hD]
    obtain ⟨o, es, ep, h1, h2, h3, h4, _, h5⟩ := Heap.DictOfH.new (knd := nestedKind X.prog X.w) s2.heap
    exact dn_ok ⟨Nat.zero_le _, beq_eq_false_iff_ne.mpr (Ne.symm (Nat.ne_of_lt I2.big)), [], .nil, o, es, ep, h1, h2, h3, h4, h5⟩
  have h3 : s3.heap = s2.heap.push { cls := .type "dict", data := .dict #[] } := by rw [← hs3]
  have sz : ∀ b ∈ fp, b < s2.heap.objs.size := fun b hb => by
    obtain ⟨o, e, _⟩ := T.obj _ _ st2 b hb
    exact Heap.lt_size e
  have f3 : ∀ b ∈ fp, FpOk X pins (upd H2 D (DNo X.prog X.w D [])) b ∧ b < s3.heap.objs.size := fun b hb => by
    have hlt := sz b hb
    refine ⟨⟨?_, (f2 b hb).2⟩, by rw [h3, Heap.size_push]; exact Nat.lt_succ_of_lt hlt⟩
    rw [upd_ne (by rw [← hD]; exact Nat.ne_of_lt hlt)]
    exact (f2 b hb).1
  have st3 : tn 0 s3.heap := T.keep _ _ _ st2 fun b _ o e => by rw [h3]; exact Heap.get?_push_of_some _ e
  have I4 := block_start I3 ok hN f3
  have pg := hg s3 (upd H2 D (DNo X.prog X.w D [])) s3.heap.objs.size (cellsFrom (s3.heap.objs.size + 1) scope.names (cloFrom X.env.cells scope.names [])) fp
  have pt := ht s3 (upd H2 D (DNo X.prog X.w D [])) s3.heap.objs.size (cellsFrom (s3.heap.objs.size + 1) scope.names (cloFrom X.env.cells scope.names [])) fp
  have pk := hk s3 (upd H2 D (DNo X.prog X.w D [])) s3.heap.objs.size (cellsFrom (s3.heap.objs.size + 1) scope.names (cloFrom X.env.cells scope.names [])) fp
  have pe := he s3 (upd H2 D (DNo X.prog X.w D [])) s3.heap.objs.size (cellsFrom (s3.heap.objs.size + 1) scope.names (cloFrom X.env.cells scope.names [])) fp
  show codeAny _ _ (.compStart (.DictComp kx vx [⟨tg, iter, ifs, 0⟩] scope pos) 0 (.ref it) (.ref D) (compEnvC scope (cellsFrom (s3.heap.objs.size + 1) scope.names (cloFrom X.env.cells scope.names [])) s3.heap.objs.size X.env)) (compPost (model X.prog X.w) X.A X.xe use Qf (.ref D) s3.heap.objs.size) { s3 with heap := pushCells (s3.heap.push { cls := .type "dict", data := .dict #[] }) scope.names }
  have nfp : ∀ b ∈ fp, (upd H2 D (DNo X.prog X.w D [])) b = none := fun b hb => (f3 b hb).1.1
  generalize hce : compEnvC scope (cellsFrom (s3.heap.objs.size + 1) scope.names (cloFrom X.env.cells scope.names [])) s3.heap.objs.size X.env = ce at I4 pg pt pk pe ⊢
  have cL : ce.locals = s3.heap.objs.size := by subst hce; rfl
  generalize hH3 : upd H2 D (DNo X.prog X.w D []) = H3 at I3 I4 pg pt pk pe w0 nfp f3
  generalize hs4 : ({ s3 with heap := pushCells (s3.heap.push { cls := .type "dict", data := .dict #[] }) scope.names } : Shared) = s4 at I4 ⊢
  have st4 : tn 0 s4.heap := T.keep _ _ _ st3 fun b _ o e => by rw [← hs4]; exact pushCells_keeps _ _ _ _ (Heap.get?_push_of_some _ e)
  have stat : ∀ {σ' : L2.St} {H' : Hp} {s' : Shared}, Inv (X.blk s3 H3 scope ce fp) [] σ' H' s' → (∀ b ∈ fp, H' b = none) → ∀ b ∈ fp, FpOk (X.blk s3 H3 scope ce fp) [] H' b := fun {σ' H' s'} I' hn b hb =>
    ⟨hn b hb, (I'.ok.exf b hb).1, I'.ok.exfs b hb, .inl hb, fun x c e => (I'.ok.exf b hb).2 x c e, fun p hp => absurd (show p ∈ ([] : List (Addr × Obj)) ++ [] from hp) (by simp)⟩
  have loop : codeAny (model X.prog X.w) X.A (.compLoop (.DictComp kx vx [⟨tg, iter, ifs, 0⟩] scope pos) 0 (.ref it) (.ref D) ce) (compPost (model X.prog X.w) X.A X.xe use Qf (.ref D) s3.heap.objs.size) s4 := by
    refine compLoop_anyD (fun n s' => ∃ i H', Inv (X.blk s3 H3 scope ce fp) [] (wipe σ (own.map (·.2))) H' s' ∧ tn i s'.heap ∧ (∀ b ∈ fp, H' b = none) ∧ W i n H') ?_ m0 ⟨0, H3, I4, st4, nfp, w0⟩
    rintro n s5 ⟨i, H5, I5, st5, n5, w5⟩
    rcases turn i n H5 w5 with ⟨stop, qq⟩ | ⟨go, Nx, hNx, step⟩
    · have td := T.done (X.blk s3 H3 scope ce fp) rfl rfl rfl hc i [] s5 _ H5 (fun _ _ => False) I5 (stat I5 n5) st5 stop
      refine thnF td fun r s6 ⟨hr, I6⟩ => ?_
      subst hr
      -- back in the def's context
      have I7 : Inv X pins σ H5 s6 := I3.call' (ch := fp) I6.os I6.base I6.hok I6.bare fun b hb => ⟨(f3 b hb).1.2.2.2.1, (f3 b hb).1.2.1, (f3 b hb).1.2.2.2.2.1, (f3 b hb).1.2.2.2.2.2⟩
      have nC : H5 s3.heap.objs.size = none := by
        have z : H5 ce.locals = none := I6.free
        rw [cL] at z
        exact z
      obtain ⟨m, hn, _⟩ := I6.loc
      have hn : s6.heap.Ns ce.locals m := hn
      rw [cL] at hn
      exact hRR D s3.heap.objs.size s6 m H5 I7 qq hn (I3.fpOk (Nat.le_refl _) nC)
    · have ti := T.item (X.blk s3 H3 scope ce fp) rfl rfl rfl hc i [] s5 _ H5 (fun _ _ => False) I5 (stat I5 n5) st5 go
      refine thnF ti fun r s6 ⟨u, hr, h6⟩ => ?_
      subst hr
      refine thnF h6 fun _ s7 ⟨x, H7, I7, r7, y7, st7, n7⟩ => ?_
      have I7' := I7.pinned (stat I7 n7) (T.obj _ _ st7)
      refine thnF (pg.run _ s7 _ H7 x u _ I7' r7 (step x H7 y7)) fun _ s8 ⟨σ8, H8, I8, hw8, q8⟩ => ?_
      refine thnF (pt.run _ s8 σ8 H8 _ I8 q8) fun b s9 ⟨H9, I9, q9⟩ => ?_
      -- the turn's end
      have fin : ∀ {s' : Shared} {H' : Hp}, Inv (X.blk s3 H3 scope ce fp) ([] ++ pinsAt fp s7.heap) σ8 H' s' → Nx H' → ∃ m, m < n ∧ ∃ i H', Inv (X.blk s3 H3 scope ce fp) [] (wipe σ (own.map (·.2))) H' s' ∧ tn i s'.heap ∧ (∀ b ∈ fp, H' b = none) ∧ W i m H' := fun {s' H'} I' nx => by
        obtain ⟨m', hm, w'⟩ := hNx H' nx
        have pin' : ∀ b ∈ fp, ∀ o, s7.heap.get? b = some o → s'.heap.get? b = some o ∧ H' b = none := fun b hb o e =>
          let z := I'.pin (b, o) (List.mem_append_right _ (List.mem_append_right _ (mem_pinsAt hb e)))
          ⟨z.1, z.2.1⟩
        have hl : (wipe σ (own.map (·.2))).length = σ8.length := by rw [← hw8, wipe_length]
        refine ⟨m', hm, i + 1, H', (I'.unpinned (pins := [])).weak hl (fun j v e => ?_), T.keep _ _ _ st7 fun b hb o e => (pin' b hb o e).1, fun b hb => ?_, w'⟩
        · rw [← hw8] at e
          exact (wipe_some e).1
        · obtain ⟨o, e, _⟩ := T.obj _ _ st7 b hb
          exact (pin' b hb o e).2
      cases b with
      | false =>
        simp only [Bool.false_eq_true, if_false] at q9 ⊢
        exact fin I9 q9
      | true =>
        simp only [if_true] at q9 ⊢
        refine thnF (pk.run _ s9 σ8 H9 _ I9 q9) fun z s10 ⟨yk, H10, I10, r10, q10⟩ => ?_
        refine thnF (pe.run _ s10 σ8 H10 _ I10 q10) fun z2 s11 ⟨yv, H11, I11, r11, xs, k, a, ek, hD11, hk11, hn11, hp11, hz11, nx⟩ => ?_
        subst ek
        cases r10
        exact dn_dictSet (X := X.blk s3 H3 scope ce fp) (j := jr) hr I11 hD11 hk11 hn11 hp11 hz11 r11 fun s12 I12 => fin I12 nx
  exact codeAny_compStart_dict loop (T.self X.A 0 _ _ _ st4 loop)
theorem pe_dcn {jr : Nat} {kx vx tg iter : Expr} {ifs : List Expr} {scope : Scope} {own : List (Str × Nat)} {pos : Pos} {wi : TI} {g : TG} {tt : TT} {tk tv : TE} (hr : Room jr X.A) (hc : X.calm = true) (hN : X.N.Nodup) (hi : PI X tg iter wi) (ok : BlkOk X.N X.env.scope scope own)
    (hg : ∀ (s : Shared) (H : Hp) (C : Addr) (cl : List (Str × Addr)) (fp : List Addr), PG (X.blk s H scope (compEnvC scope cl C X.env) fp) tg g) (ht : ∀ (s : Shared) (H : Hp) (C : Addr) (cl : List (Str × Addr)) (fp : List Addr), PTs (X.blk s H scope (compEnvC scope cl C X.env) fp) ifs tt)
    (hk : ∀ (s : Shared) (H : Hp) (C : Addr) (cl : List (Str × Addr)) (fp : List Addr), PE (X.blk s H scope (compEnvC scope cl C X.env) fp) kx tk)
    (he : ∀ (s : Shared) (H : Hp) (C : Addr) (cl : List (Str × Addr)) (fp : List Addr), PE (X.blk s H scope (compEnvC scope cl C X.env) fp) vx tv) (hs : ∀ x, foldedSetIterable iter X.env x = pure x := by intro _; rfl) :
    PE X (.DictComp kx vx [⟨tg, iter, ifs, 0⟩] scope pos) (tDcN X wi g tt tk tv (own.map (·.2))) := by
  refine ⟨fun pins s σ H Q I h => ?_⟩
  rw [arm_eval_DictComp]
  refine dcn_core hr hc hN I hi ok hg ht hk he hs h fun D C s' m H' I' q hn f => ⟨m, hn, fun h'' sb => ?_⟩
  obtain ⟨f0, f1, f2, f3, f4, f5⟩ := f
  exact ⟨.ref D, H', I'.turned (t' := s'.toks) (fun b o hb e => (sb.2 b hb).trans e) f0 f1 f3 f4 f5, rfl, q⟩
end
/-! ### over facts -/
def remA (H : Hp) (D : Addr) : Hp := fun b => if b = D then none else H b
theorem remA_ne {H : Hp} {D b : Addr} (h : b ≠ D) : remA H D b = H b := if_neg h
theorem remA_self {H : Hp} {D : Addr} : remA H D D = none := if_pos rfl
theorem upd_remA {H : Hp} {D : Addr} {o : HO} (h : H D = some o) : upd (remA H D) D o = H := by
  funext b
  by_cases e : b = D
  · subst e
    rw [upd_same, h]
  · rw [upd_ne e, remA_ne e]
theorem Sat.remD {B : Base} {Γ Γ1 : Ctx} {σ σ1 : L2.St} {F F1 H H1 : Hp} {D : Addr} {o : HO} (S1 : Sat B Γ1 σ1 F1 H1) (hD : H1 D = none) (S : Sat ⟨F1, upd B.H0 D o⟩ Γ σ F H) : H D = some o ∧ Sat B Γ σ F (remA H D) := by
  have fD1 : F1 D = none := Evl.fresh_back S1.ex hD
  have bD : B.H0 D = none := Evl.fresh_back S1.bH hD
  obtain ⟨hd, fD⟩ := S.atD fD1
  refine ⟨hd, fun c w e => ?_, S1.bF.trans S.bF, fun c w e => ?_, fun c h1 h2 => ?_, S.len, fun i s ov e1 e2 => ?_, S.ap⟩
  · rw [remA_ne (ne_of_none e fD)]
    exact S.ex c w e
  · rw [remA_ne (ne_of_none e bD)]
    exact S.bH c w (by show upd B.H0 D o c = some w; rw [upd_ne (ne_of_none e bD)]; exact e)
  · have hc : c ≠ D := fun z => h1 (z ▸ bD)
    exact S.off c (by show upd B.H0 D o c ≠ none; rw [upd_ne hc]; exact h1) (S1.off c h1 h2)
  · have z := S.sl i s ov e1 e2
    cases s with
    | no => trivial
    | fz P => exact z
    | ow O =>
      obtain ⟨a, u, z1, z2, z3, z4, z5⟩ := z
      have z3 : upd B.H0 D o a = none := z3
      have na : a ≠ D := fun q => by
        subst q
        rw [upd_same] at z3
        cases z3
      rw [upd_ne na] at z3
      exact ⟨a, u, z1, z2, z3, by rw [remA_ne na]; exact z4, z5⟩
theorem wipeC_twice {Γ : Ctx} {vs : List Nat} : wipeC (wipeC Γ vs) vs = wipeC Γ vs := by
  apply List.ext_getElem?
  intro i
  rw [wipeC_get, wipeC_length, wipeC_get]
  split <;> rfl
section
variable {X : Cx} {Γ : Ctx} {kx vx tg iter : Expr} {scope : Scope} {own : List (Str × Nat)} {pos : Pos} {WO : Own → Ctx → Prop} {j jr : Nat}
theorem n_dc {α : Type} (hr : Room jr X.A) (ok : BlkOk X.N X.env.scope scope own) (hN : X.N.Nodup) (hj : j ∈ own.map (·.2)) (hg : ∀ s H C cl fp, PG (X.blk s H scope (compEnvC scope cl C X.env) fp) tg (gName j))
    (hi : DI X tg iter Γ fun Ps Γ1 => ∃ (xs : List α) (f : α → Fct) (kk : α → NestedKey) (vf : α → Fct), Ps = xs.map f ∧ xs.length ≤ 50000 ∧
      (∀ x ∈ xs, PVb X scope kx ((wipeC Γ1 (own.map (·.2))).set j (.fz (f x))) fun R Γ2 => KeyF X.K R (kk x) ∧ Γ2 = (wipeC Γ1 (own.map (·.2))).set j (.fz (f x)) ∧ PVb X scope vx ((wipeC Γ1 (own.map (·.2))).set j (.fz (f x))) fun R' Γ3 => R' = vf x ∧ Γ3 = (wipeC Γ1 (own.map (·.2))).set j (.fz (f x))) ∧
      WO (oDN X.prog X.w X.K (xs.foldl (fun kvs x => ptF kvs (kk x) (vf x)) [])) (wipeC Γ1 (own.map (·.2))))
    (hc : X.calm = true := by rfl) (hs : ∀ x, foldedSetIterable iter X.env x = pure x := by intro _; rfl) : PN X (.DictComp kx vx [⟨tg, iter, [], 0⟩] scope pos) Γ WO :=
  n_of (pe_dcn hr hc hN pi_wp ok hg (fun s H C cl fp => pts_all (X := X) (ifs := []) s H C cl fp) (fun s H C cl fp => pe_all s H C cl fp) (fun s H C cl fp => pe_all s H C cl fp) hs) fun B σ F H S =>
    wpI_mono (hi B σ F H S) fun J H1 ⟨F1, Ps, Γ1, ⟨xs, f, kk, vf, e, hsz, hst, w⟩, ⟨G, Y, wk, hG, hY⟩, ex1, S1⟩ => by
  subst e
  generalize hvs : own.map (·.2) = vs at *
  intro D hD
  have fD : F1 D = none := Evl.fresh_back S1.ex hD
  refine walk_turns wk (T := fun i x H' Nx => gName j x (L2.wipe σ vs) H' fun σ2 H2 => L2.wipe σ2 vs = L2.wipe σ vs ∧ allTs X scope [] σ2 H2 fun b H3 =>
      if b = true then allE X scope kx σ2 H3 fun y H4 => allE X scope vx σ2 H4 fun z H5 => ∃ xs k a, y = .ref a ∧ H5 D = some (DNo X.prog X.w D xs) ∧ KeysAt X.K H5 xs ∧ NKV X.K H5 k (.ref a) ∧ k.depth ≤ 8 ∧ xs.length < sizeLine ∧ Nx (upd H5 D (DNo X.prog X.w D (putX xs k a z))) else Nx H3)
    (fun i H => ∃ F ds, Paired (DnF X.K F) ds ((xs.take i).foldl (fun kvs x => ptF kvs (kk x) (vf x)) []) ∧ ds.length ≤ i ∧ Sat ⟨F1, upd B.H0 D (DNo X.prog X.w D ds)⟩ (wipeC Γ1 vs) (L2.wipe σ vs) F H) ⟨F1, [], by simp; exact .nil, Nat.le_refl _, (S1.wipe vs).startD hD⟩ (fun i H _ ⟨F, ds, _, _, S⟩ => hG H (S.bF.trans S.ex)) ?_ ?_
  · rintro i xv H H' hlt ⟨F, ds, al, hle, S⟩ y
    rw [List.length_map] at hlt
    have hx : xs[i]? = some xs[i] := List.getElem?_eq_getElem hlt
    generalize xs[i] = x at hx
    have hP : (xs.map f)[i]? = some (f x) := by rw [List.getElem?_map, hx]; rfl
    obtain ⟨F2, px, gr⟩ := hY i (f x) H xv H' F S.bF S.ex hP y
    have S2 := (S.grow gr).set (i := j) px
    have hm : x ∈ xs := List.mem_of_getElem? hx
    have et : (xs.take (i + 1)).foldl (fun kvs x => ptF kvs (kk x) (vf x)) [] = ptF ((xs.take i).foldl (fun kvs x => ptF kvs (kk x) (vf x)) []) (kk x) (vf x) := by
      rw [List.take_add_one, hx, List.foldl_append]
      rfl
    refine ⟨wipe_set hj, allTs_nil_run ?_⟩
    dsimp -failIfUnchanged only
    rw [if_pos rfl]
    refine allE_run (hst x hm) S2 ?_
    rintro v H3 F3 R Γ3 ⟨hk, rfl, h2⟩ pv ex3 S3
    refine allE_run h2 S3 ?_
    rintro z H4 F4 R' Γ4 ⟨rfl, rfl⟩ pz ex4 S4
    obtain ⟨k1, a, rfl⟩ := hk.2 _ F3 pv
    have al4 : Paired (DnF X.K F4) ds ((xs.take i).foldl (fun kvs x => ptF kvs (kk x) (vf x)) []) := Paired.up (fun x kv q => ⟨q.1, NKV.up ((gr.f.trans ex3).trans ex4) _ _ q.2.1, q.2.2.1, kv.2.up ((gr.f.trans ex3).trans ex4) q.2.2.2⟩) al
    refine ⟨ds, kk x, a, rfl, (S4.atD fD).1, (dnf_keys al4).up S4.ex, NKV.up (ex4.trans S4.ex) _ _ k1, hk.1, Nat.lt_of_le_of_lt hle (Nat.lt_of_lt_of_le hlt (Evl.sz_of (by omega))), F4, putX ds (kk x) a z, ?_, ?_, ?_⟩
    · rw [et]
      exact dnf_put (NKV.up ex4 _ _ k1) hk.1 pz al4
    · have := putX_len ds (kk x) a z
      omega
    · have S5 := (S4.stepD (o' := DNo X.prog X.w D (putX ds (kk x) a z)) fD).wipe vs
      rw [wipe_set hj, wipeC_set hj] at S5
      exact S5
  · rintro H ⟨F, ds, al, hle, S⟩
    rw [List.length_map, List.take_length] at al
    obtain ⟨hd, S'⟩ := Sat.remD S1 hD S
    have S2 := S'.unwipe
    rw [wipeC_twice] at S2
    exact ⟨D, _, F, remA H D, _, _, rfl, (upd_remA hd).symm, remA_self, w, ⟨ds, rfl, al⟩, ex1.trans S.bF, S2⟩
end
end DL

/-! DL11: enumerate of a tuple, of a list. -/
namespace PySem
open Sem (wp)
theorem dl_enumerate_new {v : Value} {o : Obj} {H : Heap → Prop} (B : Begins v o H) :
    Meets (Builtin.«enumerate.__new__» ⟨[.type "enumerate", v], []⟩) (fun _ R s => H s.heap ∧
      R (.ok (.ret (.ref (s.heap.push o).objs.size))) { s with heap := (s.heap.push o).push { cls := .type "enumerate", data := .fields #[.none, .bool false, .ref s.heap.objs.size, rawInt 0, .none, .none] } }) :=
  .of_wp fun prog w A R s h => by
    obtain ⟨hp, g, d, tk, os⟩ := s; obtain ⟨h1, h⟩ := h
    have hsub := sub_enumerate
    have q1 : ∀ {A' : Around} {E : Value → Shared → Prop} {Q : Value → Shared → Prop}, Q (.ref hp.objs.size) ⟨hp.push o, g, d, tk, os⟩ → wpAny (model prog w) A' (pyIter v) Q E ⟨hp, g, d, tk, os⟩ :=
      fun q => B.iter prog w _ _ ⟨hp, g, d, tk, os⟩ _ h1 q
    wp_walk using q1
    refine wpAny_stack_any fun st => wpAny_pure ?_
    split
    · rename_i c _ _ _ _ _
      cases (c == Value.type "enumerate")
      · wp_walk using q1
        exact ⟨_, rfl, h⟩
      · wp_walk using q1
        exact ⟨_, rfl, h⟩
    · wp_walk using q1
      exact ⟨_, rfl, h⟩
theorem dl_enum_begins {prog : Program} {w : World} {A : Around} {E : Value → Shared → Prop} {s : Shared} {v : Value} {o : Obj} {H : Heap → Prop} {Q : Value → Shared → Prop} (B : Begins v o H) (h1 : H s.heap)
    (h : ∀ h', IsEnum h' (s.heap.objs.size + 1) s.heap.objs.size 0 .none → h'.get? s.heap.objs.size = some o → h'.objs.size = s.heap.objs.size + 2 →
      (∀ b o, s.heap.get? b = some o → h'.get? b = some o) → Q (.ref (s.heap.objs.size + 1)) { s with heap := h' }) :
    wpAny (model prog w) A (call (.type "enumerate") [v]) Q E s := by
  refine callType_new F.called_enumerate (by decide) (F.typeCall_enumerate_1 _) (F.newCall_enumerate_1 _) (fun obj => F.args_object_init_2 obj _) F.entry_enumerate_new
    (dl_enumerate_new B) ⟨h1, ?_⟩
  have hz : (s.heap.push o).objs.size = s.heap.objs.size + 1 := Heap.size_push ..
  show _ ∧ _
  rw [hz]
  have he : IsEnum ((s.heap.push o).push { cls := .type "enumerate", data := .fields #[.none, .bool false, .ref s.heap.objs.size, rawInt 0, .none, .none] }) (s.heap.objs.size + 1) s.heap.objs.size 0 .none := by
    have := Heap.get?_push_size (s.heap.push o) (o := { cls := .type "enumerate", data := .fields #[.none, .bool false, .ref s.heap.objs.size, rawInt 0, .none, .none] }) rfl
    rw [hz] at this; exact this
  refine ⟨⟨_, he, rfl⟩, h _ he (Heap.get?_push_of_some _ (Heap.get?_push_size _ B.free)) (by rw [Heap.size_push, hz]) fun b o x => Heap.get?_push_of_some _ (Heap.get?_push_of_some _ x)⟩
theorem dl_enum_end {prog : Program} {w : World} {A : Around} {E : Value → Shared → Prop} {s : Shared} {e it t : Addr} {i : Nat} {c : Int} {items : Array Value} {old : Value} {Q : Option Value → Shared → Prop} (hh : A.handled = none)
    (he : IsEnum s.heap e it c old) (hit : s.heap.IsTupleIter it t i) (ht : s.heap.IsTuple t items) (hx : items[i]? = none)
    (hQ : ∀ h', Heap.ExtBut it s.heap h' → Q none { s with heap := h' }) : wpAny (model prog w) A (pyNext (.ref e)) Q E s := by
  have hT : s.TypeIs (.ref e) "enumerate" := ⟨_, he, rfl⟩
  unfold pyNext
  refine wpAny_bind (wpAny_attempt (wpAny_callSpecial?_slot (name := Str.ofString "__next__") hT F.slot_enumerate_next
    (wpAny_call_entry F.slot_enumerate_next hT F.entry_enumerate_next ?_ (F.args_enumerate_next_1 _))))
  show wpAny _ _ (field (.ref e) 2 >>= _) _ _ _
  refine wpAny_bind (wpAny_field he rfl (x := .ref it) rfl ?_)
  refine wpAny_bind (wpAny_nextOf_tuple_end (show A.in1.handled = none from hh) hit ht hx fun h' x he' hx' => ?_)
  obtain ⟨o, ho, hc⟩ := hx'
  refine wpAny_bind (wpAny_isInstance (T := "StopIteration") (b := true) ⟨o, ho, hc⟩ isSubtype_stop ?_)
  exact wpAny_pure (hQ _ he')
end PySem
namespace DL
open PySem L2 PyProof.Rows
/-- the tuple at a, each item in a new pair -/
def IteT (K : PySem.W.Frag) (a : Addr) : It :=
  ⟨fun i H => ∃ (xs : List V) (x : V), SqT K H a xs ∧ xs[i]? = some x, fun i H v H' => ∃ T x, v = .ref T ∧ H T = none ∧ H' = upd H T (.tup [.int (i : Nat), x]) ∧ ∀ xs, SqT K H a xs → xs[i]? = some x, fun i H => ∃ xs : List V, SqT K H a xs ∧ xs.length ≤ i⟩
theorem turn_enumT {P : Program} {w : World} {K : PySem.W.Frag} {elts : List Expr} {kk : Nat} {tpos : Pos} (a e it : Addr) :
    Turn P w K (.Tuple elts kk tpos) (IteT K a) [e, it] e (fun i h => (∃ old, IsEnum h e it ((i : Nat) : Int) old) ∧ h.IsTupleIter it a i ∧ e ≠ it) where
  mem := by simp
  obj := fun i h st b hb => by
    obtain ⟨⟨old, he⟩, ⟨o, ho, hc, hd⟩, _⟩ := st
    have e' : b = e ∨ b = it := by simpa using hb
    rcases e' with z | z
    · rw [z]; exact ⟨_, he, fun v q => nomatch q⟩
    · rw [z]; exact ⟨o, ho, fun v q => by rw [hd] at q; cases q⟩
  keep := fun i h h' st k => let ⟨⟨old, he⟩, hi, hne⟩ := st; ⟨⟨old, k e (by simp) _ he⟩, hi.at fun o q => k it (by simp) o q, hne⟩
  item := by
    intro X hP hw hK hc i pins s σ H E I hf st hg
    subst hP hw hK
    obtain ⟨⟨old, he⟩, hit, hne⟩ := st
    obtain ⟨xs, x, hq, hx⟩ := hg
    obtain ⟨its, rv, p, hz⟩ := I.tuple hq
    obtain ⟨u, hu, ru⟩ := rv.get hx
    have hel : e < s.heap.objs.size := Heap.lt_size he
    have hil : it < s.heap.objs.size := by obtain ⟨_, q, _⟩ := hit; exact Heap.lt_size q
    have hai : a ≠ it := fun z => by
      obtain ⟨o1, q1, q2, _⟩ := p
      obtain ⟨o2, q3, q4, _⟩ := hit
      rw [z, q3] at q1
      cases q1
      rw [q4] at q2
      injection q2 with q2
      exact absurd q2 (by decide)
    have hae : a ≠ e := fun z => by
      obtain ⟨o1, q1, q2, _⟩ := p
      rw [z, he] at q1
      cases q1
      have q2 : Value.type "enumerate" = Value.type "tuple" := q2
      injection q2 with q2
      exact absurd q2 (by decide)
    have D := Draws.tuple (prog := X.prog) (w := X.w) (A := X.A.in1) (show X.A.in1.handled = none from I.ok.hd hc) it a hai its.toArray
    have hil2 : i < its.toArray.size := by
      rw [List.size_toArray]
      exact (List.getElem?_eq_some_iff.mp hu).1
    refine wpAny_pyNext_enum_itemC D he ⟨hit, p⟩ hil2 hne (by simp [hne, Ne.symm hae]) fun x2 h' tk hx2 ho hst' hT hsz hk => ?_
    have hx2 : x2 = u := by
      have hx2 : its.toArray[i]? = some x2 := hx2
      rw [List.getElem?_toArray, hu] at hx2
      cases hx2
      rfl
    subst hx2
    refine ⟨_, rfl, wpAny_letOwnedTupleGo_enum (s := { s with heap := h', toks := tk + 1 }) ho fun h'' he' sb => ?_⟩
    have hT2 : h''.get? s.heap.objs.size = some { cls := .type "tuple", data := .seq #[.int i tk, x2] } := (sb.2 _ (Nat.ne_of_gt hel)).trans hT
    have new : ObjOk X.prog X.w (upd H s.heap.objs.size (.tup [.int (i : Nat), x])) h'' s.heap.objs.size (.tup [.int (i : Nat), x]) :=
      ⟨by show 2 ≤ sizeLine; decide, [.int i tk, x2], .cons ⟨_, rfl⟩ (.cons ru .nil), ⟨_, hT2, rfl, _, rfl⟩⟩
    have I1 : Inv X pins σ (upd H s.heap.objs.size (.tup [.int (i : Nat), x])) { s with heap := h'', toks := tk + 1 } :=
      I.turnedNew (ch := [e, it]) (fun b ob hb q => (sb.2 b (fun z => hb (by simp [z]))).trans (hk b ob (fun z => hb (by simp [z])) (fun z => hb (by simp [z])) q)) hf (Nat.le_refl _) new
    refine ⟨.ref s.heap.objs.size, _, I1, rfl, ⟨_, x, rfl, I.hok.fresh (Nat.le_refl _), rfl, fun ys hy => by rw [I.tuple_inj hy hq]; exact hx⟩, ⟨⟨x2, ?_⟩, hst'.1.at fun o q => (sb.2 it (Ne.symm hne)).trans q, hne⟩, fun b hb => ?_⟩
    · have e1 : ((i + 1 : Nat) : Int) = (i : Int) + 1 := by omega
      rw [e1]; exact he'
    · have hb' : b < s.heap.objs.size := by
        have e' : b = e ∨ b = it := by simpa using hb
        rcases e' with z | z
        · rw [z]; exact hel
        · rw [z]; exact hil
      rw [upd_ne (Nat.ne_of_lt hb')]
      exact (hf b hb).1
  done := by
    intro X hP hw hK hc i pins s σ H E I hf st hg
    subst hP hw hK
    obtain ⟨⟨old, he⟩, hit, hne⟩ := st
    obtain ⟨xs, hq, hx⟩ := hg
    obtain ⟨its, rv, p, hz⟩ := I.tuple hq
    obtain ⟨f0, f1, f2, f3, f4, f5⟩ := hf it (by simp)
    have hl := rv.length
    have hai : a ≠ it := fun z => by
      obtain ⟨o1, q1, q2, _⟩ := p
      obtain ⟨o2, q3, q4, _⟩ := hit
      rw [z, q3] at q1
      cases q1
      rw [q4] at q2
      injection q2 with q2
      exact absurd q2 (by decide)
    refine dl_enum_end (A := X.A) (I.ok.hd hc) he hit p (by simp; omega) fun h' eb => ⟨rfl, I.turned (t' := s.toks) (fun b o hb q => eb b o hb q) f0 f1 f3 f4 f5⟩
  self := fun A i s Q E st h => let ⟨⟨_, he⟩, _⟩ := st; wpAny_pyIter_enum he h
def iEnumT (K : PySem.W.Frag) (ta : TA) : TI := fun σ H R => ta σ H fun vs H1 => ∃ a xs, vs = [.ref a] ∧ SqT K H1 a xs ∧ R (IteT K a) H1
theorem pi_enumT {X : Cx} {e : Expr} {ta : TA} {p pos tpos : Pos} {elts : List Expr} {kk : Nat} (hg : Gl X "enumerate") (hm : X.mg "enumerate" = none) (ha : PA X [e] ta) (hs : starEach [e] X.env = [(false, eval e X.env)] := by rfl) :
    PI X (.Tuple elts kk tpos) (.Call (.Name "enumerate" p) [e] [] pos) (iEnumT X.K ta) := by
  refine ⟨fun pins s σ H R I h => ?_⟩
  refine Call_ (ld_blt I hg hm boot_enumerate (PyProof.Rows.callWith_type1 (thn (ha.run pos pins s σ H _ I h) fun us s1 ⟨vs, H1, I1, r1, q1⟩ => ?_) hs rfl))
  obtain ⟨a, xs, ex, hq, q⟩ := q1
  subst ex
  cases r1 with
  | cons r rr =>
    cases rr
    cases r
    obtain ⟨its, rv, p', hz⟩ := I1.tuple hq
    refine dl_enum_begins (begins_tuple a its.toArray) p' fun h' he hit hsz hk => wpAny_pyIter_enum he ?_
    have I2 : Inv X pins σ H1 { s1 with heap := h' } := I1.kept (t' := s1.toks) hk
    refine ⟨s1.heap.objs.size + 1, [s1.heap.objs.size + 1, s1.heap.objs.size], _, _, H1, rfl, I2, turn_enumT a (s1.heap.objs.size + 1) s1.heap.objs.size, ⟨⟨.none, he⟩, ⟨_, hit, rfl, rfl⟩, Nat.succ_ne_self _⟩, fun b hb => ?_, q⟩
    have e' : b = s1.heap.objs.size + 1 ∨ b = s1.heap.objs.size := by simpa using hb
    have hle : s1.heap.objs.size ≤ b := by
      rcases e' with z | z
      · rw [z]; exact Nat.le_add_right _ _
      · rw [z]; exact Nat.le_refl _
    exact I1.fpOk hle (I1.hok.fresh hle)
/-! ### over facts -/
def enumF (K : PySem.W.Frag) (Ps : List Fct) : List Fct := (List.range Ps.length).map fun i => fTup K [fInt (i : Nat), Ps.getD i fNon]
theorem enumF_len {K : PySem.W.Frag} {Ps : List Fct} : (enumF K Ps).length = Ps.length := by unfold enumF; rw [List.length_map, List.length_range]
theorem enumF_at {K : PySem.W.Frag} {Ps : List Fct} {i : Nat} {P : Fct} (h : (enumF K Ps)[i]? = some P) : ∃ R, Ps[i]? = some R ∧ P = fTup K [fInt (i : Nat), R] := by
  unfold enumF at h
  rw [List.getElem?_map] at h
  cases q : (List.range Ps.length)[i]? with
  | none =>
    rw [q] at h
    cases h
  | some j =>
    rw [q] at h
    obtain ⟨z1, z2⟩ := List.getElem?_eq_some_iff.mp q
    rw [List.getElem_range] at z2
    subst z2
    rw [List.length_range] at z1
    cases h
    refine ⟨Ps[i], List.getElem?_eq_getElem z1, ?_⟩
    show fTup K [fInt (i : Nat), Ps.getD i fNon] = _
    rw [List.getD_eq_getElem?_getD, List.getElem?_eq_getElem z1]
    rfl
section
variable {X : Cx} {Γ : Ctx} {e : Expr} {pos : Pos}
theorem i_enumT {p tpos : Pos} {elts : List Expr} {kk : Nat} {WI : List Fct → Ctx → Prop} (hm : X.mg "enumerate" = none) (h : PV X e Γ fun P Γ1 => ∃ Ps, P = fTup X.K Ps ∧ WI (enumF X.K Ps) Γ1) (hg : Gl X "enumerate" := by rfl)
    (hs : starEach [e] X.env = [(false, eval e X.env)] := by rfl) : DI X (.Tuple elts kk tpos) (.Call (.Name "enumerate" p) [e] [] pos) Γ WI := fun B σ F H S => wpI_of (pi_enumT hg hm (pa_cons pe_wp pa_nil hs) hs) (wpE_mono (h B σ F H S) fun v H1 ⟨F1, P, Γ1, ⟨Ps, e1, w⟩, p, ex1, S1⟩ => by
  subst e1
  obtain ⟨a, xs, h1, h2, h3⟩ := p
  subst h1
  refine ⟨a, xs, rfl, Evl.ex_t S1.ex h2, F1, _, Γ1, w, ⟨fun H => SqT X.K H a xs, YPair (fun i => some (.int (i : Nat))) (fun i => xs[i]?), ?_, fun H ex => Evl.ex_t ex h2, ?_⟩, ex1, S1⟩
  · rw [enumF_len, ← h3.length]
    refine ⟨fun i _ hi q => ⟨xs, xs[i], q, by simp [hi]⟩, fun _ q => ⟨xs, q, Nat.le_refl _⟩, fun i H v H' _ q y => ?_⟩
    obtain ⟨T, x, h1, h2, h3, h4⟩ := y
    exact ⟨T, .int (i : Nat), x, h1, h2, h3, rfl, h4 xs q⟩
  · rintro i P H x H' F2 ef eh hP ⟨T, u, z, rfl, hT, rfl, hu, hz⟩
    obtain ⟨R, q1, rfl⟩ := enumF_at hP
    cases hu
    obtain ⟨R', q3, q4⟩ := h3.get hz
    rw [q1] at q3
    cases q3
    have g := Grow.new (o := .tup [.int (i : Nat), z]) eh hT
    exact ⟨_, ⟨T, _, rfl, SqT.of upd_same, .cons rfl (.cons (R.up (ef.trans g.f) q4) .nil)⟩, g⟩)
theorem i_enumL {p tpos : Pos} {elts : List Expr} {kk : Nat} {WI : List Fct → Ctx → Prop} (hm : X.mg "enumerate" = none) (h : PV X e Γ fun P Γ1 => ∃ Ps, P = fLst X.K Ps ∧ WI (enumF X.K Ps) Γ1) (hg : Gl X "enumerate" := by rfl)
    (hs : starEach [e] X.env = [(false, eval e X.env)] := by rfl) : DI X (.Tuple elts kk tpos) (.Call (.Name "enumerate" p) [e] [] pos) Γ WI := fun B σ F H S => wpI_of (pi_enum hg hm (pa_cons pe_wp pa_nil hs) hs) (wpE_mono (h B σ F H S) fun v H1 ⟨F1, P, Γ1, ⟨Ps, e1, w⟩, p, ex1, S1⟩ => by
  subst e1
  obtain ⟨a, xs, h1, h2, h3⟩ := p
  subst h1
  refine ⟨a, xs, rfl, SqL.of (S1.ex a _ h2), F1, _, Γ1, w, ⟨fun H => SqL X.K H a xs, YPair (fun i => some (.int (i : Nat))) (fun i => xs[i]?), ?_, fun H ex => SqL.of (ex a _ h2), ?_⟩, ex1, S1⟩
  · rw [enumF_len, ← h3.length]
    exact walk_enum
  · rintro i P H x H' F2 ef eh hP ⟨T, u, z, rfl, hT, rfl, hu, hz⟩
    obtain ⟨R, q1, rfl⟩ := enumF_at hP
    cases hu
    obtain ⟨R', q3, q4⟩ := h3.get hz
    rw [q1] at q3
    cases q3
    have g := Grow.new (o := .tup [.int (i : Nat), z]) eh hT
    exact ⟨_, ⟨T, _, rfl, SqT.of upd_same, .cons rfl (.cons (R.up (ef.trans g.f) q4) .nil)⟩, g⟩)
end
end DL

/-! DL12: the source of draws, order of tuples, sorted pairs, parallel assignments. -/
namespace DL
open PySem L2 PyProof.Rows
section
variable {X : Cx}
/-! ### order of data -/
def small8 (a b : PyData) : Prop := min a.depth b.depth ≤ 8
def rLtD (K : PySem.W.Frag) : R2 := fun x y H Q => ∃ da db, Dp K H x da ∧ Dp K H y db ∧ PySem.W.alike da db = true ∧ da ≠ .none ∧ small8 da db ∧ Q (.bl (PySem.W.dataLt da db)) H
def rGtD (K : PySem.W.Frag) : R2 := fun x y H Q => ∃ da db, Dp K H x da ∧ Dp K H y db ∧ PySem.W.alike da db = true ∧ da ≠ .none ∧ small8 da db ∧ Q (.bl (PySem.W.dataLt db da)) H
def rGeD (K : PySem.W.Frag) : R2 := fun x y H Q => ∃ da db, Dp K H x da ∧ Dp K H y db ∧ PySem.W.alike da db = true ∧ da ≠ .none ∧ small8 da db ∧ Q (.bl (!PySem.W.dataLt da db)) H
theorem op_ltD {j : Nat} (hr : Room j X.A) : OpR X (compareOp .Lt) (rLtD X.K) := by
  intro pins s σ H x y v u Q I rx ry h
  obtain ⟨da, db, h1, h2, h3, h4, h5, q⟩ := h
  obtain ⟨as, r1⟩ := Dp.reads I da x v h1 rx
  obtain ⟨bs, r2⟩ := Dp.reads I db y u h2 ry
  have hu := hr.units
  exact PySem.W.lt_data r1 r2 h3 h4 (by unfold small8 at h5; omega) ⟨.bl _, H, I, rfl, q⟩
theorem op_gtD {j : Nat} (hr : Room j X.A) : OpR X (compareOp .Gt) (rGtD X.K) := by
  intro pins s σ H x y v u Q I rx ry h
  obtain ⟨da, db, h1, h2, h3, h4, h5, q⟩ := h
  obtain ⟨as, r1⟩ := Dp.reads I da x v h1 rx
  obtain ⟨bs, r2⟩ := Dp.reads I db y u h2 ry
  have hu := hr.units
  exact PySem.W.gt_data r1 r2 h3 h4 (by unfold small8 at h5; omega) ⟨.bl _, H, I, rfl, q⟩
theorem op_geD {j : Nat} (hr : Room j X.A) : OpR X (compareOp .GtE) (rGeD X.K) := by
  intro pins s σ H x y v u Q I rx ry h
  obtain ⟨da, db, h1, h2, h3, h4, h5, q⟩ := h
  obtain ⟨as, r1⟩ := Dp.reads I da x v h1 rx
  obtain ⟨bs, r2⟩ := Dp.reads I db y u h2 ry
  have hu := hr.units
  exact PySem.W.ge_data r1 r2 h3 h4 (by unfold small8 at h5; omega) ⟨.bl _, H, I, rfl, q⟩
theorem o2_ltD {K : PySem.W.Frag} {P P' : Fct} {d d' : PyData} (h : DatF K P d) (h' : DatF K P' d') (a : PySem.W.alike d d' = true) (n : d ≠ .none) (z : small8 d d') : Op2 (rLtD K) P P' (fBl (PySem.W.dataLt d d')) := fun v v' F H ex p p' Q q =>
  ⟨d, d', dp_up ex d v (h v F p), dp_up ex d' v' (h' v' F p'), a, n, z, q _ F H rfl (Grow.refl ex)⟩
theorem o2_gtD {K : PySem.W.Frag} {P P' : Fct} {d d' : PyData} (h : DatF K P d) (h' : DatF K P' d') (a : PySem.W.alike d d' = true) (n : d ≠ .none) (z : small8 d d') : Op2 (rGtD K) P P' (fBl (PySem.W.dataLt d' d)) := fun v v' F H ex p p' Q q =>
  ⟨d, d', dp_up ex d v (h v F p), dp_up ex d' v' (h' v' F p'), a, n, z, q _ F H rfl (Grow.refl ex)⟩
theorem o2_geD {K : PySem.W.Frag} {P P' : Fct} {d d' : PyData} (h : DatF K P d) (h' : DatF K P' d') (a : PySem.W.alike d d' = true) (n : d ≠ .none) (z : small8 d d') : Op2 (rGeD K) P P' (fBl (!PySem.W.dataLt d d')) := fun v v' F H ex p p' Q q =>
  ⟨d, d', dp_up ex d v (h v F p), dp_up ex d' v' (h' v' F p'), a, n, z, q _ F H rfl (Grow.refl ex)⟩
end
/-! ### sorted lists of pairs (int, text) -/
section
variable {prog : Program} {w : World} {A : Around} {E : Value → Shared → Prop} {s : Shared}
def IsPairS (h : Heap) (v : Value) (x : Int) (y : Str) : Prop := ∃ a o t u n, v = .ref a ∧ h.get? a = some o ∧ o.cls = .type "tuple" ∧ o.data = .seq #[.int x t, .str y u] n
theorem IsPairS.keeps {h h' : Heap} {v : Value} {x : Int} {y : Str} (p : IsPairS h v x y) (k : ∀ b o, h.get? b = some o → o.cls = .type "tuple" → h'.get? b = some o) : IsPairS h' v x y := by
  obtain ⟨a, o, t, u, n, e, ho, hc, hd⟩ := p
  exact ⟨a, o, t, u, n, e, k _ _ ho hc, hc, hd⟩
theorem pairS_tot {vs : List Value} (hp : ∀ v ∈ vs, ∃ x y, IsPairS s.heap v x y) : Srt.Tot prog w A s (tuples' true) (fun p => p.1 ∈ vs) := by
  intro p q hm hm'
  obtain ⟨x, y, a, o, t, u, n, e, ho, hc, hd⟩ := hp _ hm
  obtain ⟨x', y', a', o', t', u', n', e', ho', hc', hd'⟩ := hp _ hm'
  rw [e, e']
  refine ⟨if x = x' then (if (y == y') = true then false else decide (y.cps.toList < y'.cps.toList)) else decide (x < x'), ?_⟩
  refine PySem.W.kat_lt ho hd ho' hd' ?_
  show PySem.W.KatLex prog w A true (decide (2 < 2)) _ [(.int x t, .int x' t'), (.str y u, .str y' u')] 0 s
  refine PySem.W.kat_cons (SeqAt.EqAt.int_int x t x' t' prog w _ _ ?_)
  refine PySem.W.kat_go (fun e1 => ?_) (fun e1 => ?_)
  · have ex : x = x' := by simpa using e1
    refine PySem.W.kat_yes (PySem.W.kat_cons (SeqAt.EqAt.str_str y u y' u' prog w _ _ ?_))
    refine PySem.W.kat_go (fun e2 => ?_) (fun e2 => ?_)
    · have e3 : (if x = x' then (if (y == y') = true then false else decide (y.cps.toList < y'.cps.toList)) else decide (x < x')) = false := by rw [if_pos ex, if_pos e2]
      exact PySem.W.kat_yes (PySem.W.kat_nil ⟨rfl, e3.symm⟩)
    · have e3 : (if x = x' then (if (y == y') = true then false else decide (y.cps.toList < y'.cps.toList)) else decide (x < x')) = decide (y.cps.toList < y'.cps.toList) := by rw [if_pos ex, if_neg (by rw [e2]; decide)]
      refine PySem.W.kat_no (PySem.W.kat_one _ _ (PyProof.Rows.lt_str ?_))
      exact (show s = s ∧ decide (y.cps.toList < y'.cps.toList) = (if x = x' then (if (y == y') = true then false else decide (y.cps.toList < y'.cps.toList)) else decide (x < x')) from ⟨rfl, e3.symm⟩)
  · have ex : ¬ x = x' := by simpa using e1
    have e3 : (if x = x' then (if (y == y') = true then false else decide (y.cps.toList < y'.cps.toList)) else decide (x < x')) = decide (x < x') := by rw [if_neg ex]
    exact PySem.W.kat_no (oneLt_int ⟨rfl, e3.symm⟩)
theorem firstsS_of {h : Heap} : ∀ {vs : List Value}, (∀ v ∈ vs, ∃ x y, IsPairS h v x y) → ∃ fs : List Value, PySem.W.KatTups h vs fs ∧ fs.length = vs.length ∧ ∀ f ∈ fs, ∃ x t, f = Value.int x t
  | [], _ => ⟨[], PySem.W.KatTups.nil, rfl, fun _ hm => by simp at hm⟩
  | v :: vs, hp => by
    obtain ⟨fs, h1, h2, h3⟩ := firstsS_of (vs := vs) fun v' hm => hp v' (List.mem_cons_of_mem _ hm)
    obtain ⟨x, y, a, o, t, u, n, e, ho, hc, hd⟩ := hp v (List.mem_cons_self ..)
    subst e
    refine ⟨.int x t :: fs, PySem.W.KatTups.cons ho hc hd rfl h1, by rw [List.length_cons, List.length_cons, h2], fun f hm => ?_⟩
    rcases List.mem_cons.mp hm with rfl | hm
    · exact ⟨x, t, rfl⟩
    · exact h3 f hm
theorem pairsS_sortable {a : Addr} {vs : List Value} (h0 : 0 < vs.length) (hp : ∀ v ∈ vs, ∃ x y, IsPairS s.heap v x y) (ha : ∀ o, s.heap.get? a = some o → o.cls ≠ .type "tuple") : Srt.Sortable prog w A s a vs := by
  intro h' keep
  have hp' : ∀ v ∈ vs, ∃ x y, IsPairS h' v x y := fun v hm => by
    obtain ⟨x, y, p⟩ := hp v hm
    exact ⟨x, y, p.keeps fun b o e c => keep b o (fun z => by subst z; exact ha o e c) e⟩
  obtain ⟨fs, h1, h2, h3⟩ := firstsS_of hp'
  refine ⟨tuples' true, fun Q E hq => ?_, pairS_tot hp'⟩
  refine PySem.W.kat_kind (T := .type "int") h1 (by omega) (fun f hm => ?_) (by rfl) ?_
  · obtain ⟨x, t, rfl⟩ := h3 f hm
    exact PySem.W.Looks.now
  · have e : (Value.type "int" != Value.type "tuple") = true := by first | decide +kernel | rfl | decide
    rw [e]
    exact hq
theorem sorted_pairS {l : Addr} {vs : List Value} {Q : Value → Shared → Prop} (hl : s.heap.IsList l vs.toArray) (hz : vs.length ≤ sizeLine) (hp : ∀ v ∈ vs, ∃ x y, IsPairS s.heap v x y)
    (h : ∀ (h' : Heap) (d : Addr) (out : List Value), out.Perm vs → (∀ b o, s.heap.get? b = some o → h'.get? b = some o) → s.heap.objs.size ≤ d → (∃ n, h'.get? d = some (seqObj "list" out.toArray n)) → Q (.ref d) { s with heap := h' }) :
    wpAny (model prog w) A (call (.builtin "sorted") [.ref l]) Q E s := by
  refine Srt.sorted_any hl hz (fun h2 h₁ a ha k => ?_) fun out ho => ?_
  · refine pairsS_sortable (s := { s with heap := h₁ }) (by omega) (fun v hm => ?_) fun o e => ?_
    · obtain ⟨x, y, p⟩ := hp v hm
      exact ⟨x, y, p.keeps fun b o e _ => (k b o e).2⟩
    · have e' : some o = some (seqObj "list" vs.toArray 0) := e.symm.trans ha
      cases e'
      intro c
      exact absurd (Value.type.inj c) (by decide)
  · exact h _ _ out ho (fun b o e => sortedAll_old e) (Nat.le_succ _) (sortedAll_at s.heap vs out.toArray)
end
section
variable {X : Cx}
def rSortedPS (K : PySem.W.Frag) : List V → Hp → VK → Prop := fun vs H Q => ∃ a xs, vs = [V.ref a] ∧ SqL K H a xs ∧ (∀ x ∈ xs, ∃ t i z, x = V.ref t ∧ SqT K H t [.int i, .str z]) ∧
  ∀ ys p, ys.Perm xs → H p = none → Q (.ref p) (upd H p (.lst ys))
theorem cr_sortedPS : CallR X (.builtin "sorted") (rSortedPS X.K) := by
  intro pins s σ H vs us Q I r h
  obtain ⟨a, xs, rfl, hs, hx, q⟩ := h
  obtain ⟨its, rv, hl, hz⟩ := I.list hs
  obtain ⟨u, rfl, ru⟩ := vals1 r
  obtain rfl : u = Value.ref a := ru
  obtain ⟨e1, e2⟩ := refs_back rv fun x m => by
    obtain ⟨t, _, _, e, _⟩ := hx x m
    exact ⟨t, e⟩
  refine sorted_pairS hl.isList (by rw [← rv.length]; exact hz) (fun v hv => ?_) fun h' d out hp k hd hn => ?_
  · obtain ⟨t, rfl⟩ := e2 v hv
    have hm : V.ref t ∈ xs := by rw [e1]; exact List.mem_map.mpr ⟨_, hv, rfl⟩
    obtain ⟨t', i, j, e, ht⟩ := hx _ hm
    cases e
    obtain ⟨its2, r2, ⟨o, ho, hc, n, hd⟩, _⟩ := I.tuple ht
    obtain ⟨u1, u2, rfl, ri, rj⟩ := vals2 r2
    obtain ⟨t1, rfl⟩ := ri
    obtain ⟨t2, rfl⟩ := rj
    exact ⟨i, j, t, o, t1, t2, n, rfl, ho, hc, hd⟩
  · have h3 : ∀ u ∈ out, ∃ a, u = Value.ref a := fun u hu => e2 u (hp.mem_iff.mp hu)
    obtain ⟨n, hn⟩ := hn
    refine ⟨.ref d, upd H d (.lst (out.map backV)), I.laid (t' := s.toks) k hd ⟨?_, out, n, vals_back h3, hn⟩, rfl, q _ d ?_ (I.hok.fresh hd)⟩
    · rw [List.length_map, hp.length_eq, ← rv.length]; exact hz
    · rw [e1]; exact hp.map backV
theorem perm_facts {F : Hp} {α : Type} {f : α → Fct} : ∀ {xs ys : List V}, ys.Perm xs → ∀ l : List α, AllP xs (l.map f) F → ∃ l' : List α, l'.Perm l ∧ AllP ys (l'.map f) F := by
  intro xs ys hp
  induction hp with
  | nil => exact fun l h => ⟨l, List.Perm.refl _, h⟩
  | cons x _ ih =>
    intro l h
    cases l with
    | nil => cases h
    | cons a l =>
      cases h with
      | cons h1 h2 =>
        obtain ⟨l', p, q⟩ := ih l h2
        exact ⟨a :: l', p.cons a, .cons h1 q⟩
  | swap x y _ =>
    intro l h
    cases l with
    | nil => cases h
    | cons a l =>
      cases h with
      | cons h1 h =>
        cases l with
        | nil => cases h
        | cons b l =>
          cases h with
          | cons h2 h3 => exact ⟨b :: a :: l, List.Perm.swap a b l, .cons h2 (.cons h1 h3)⟩
  | trans _ _ ih1 ih2 =>
    intro l h
    obtain ⟨l1, p1, q1⟩ := ih2 l h
    obtain ⟨l2, p2, q2⟩ := ih1 l1 q1
    exact ⟨l2, p2.trans p1, q2⟩
/-- things: a number and a name -/
abbrev Thing := Int × Str
def fThing (K : PySem.W.Frag) (t : Thing) : Fct := fTup K [fInt t.1, fStr t.2]
theorem oc_sortedPS {l : List Thing} : OpC (rSortedPS X.K) [fLst X.K (l.map (fThing X.K))] (fEx fun l' : {l' : List Thing // l'.Perm l} => fLst X.K (l'.1.map (fThing X.K))) := fun vs F H ex ps Q q => by
  cases ps with
  | cons p ps =>
    cases ps
    obtain ⟨a, us, rfl, h2, h3⟩ := p
    refine ⟨a, us, rfl, SqL.of (ex a _ h2), fun x hx => ?_, fun ys p hp hn => ?_⟩
    · obtain ⟨i, hi⟩ := List.mem_iff_getElem?.mp hx
      obtain ⟨P, e1, e2⟩ := h3.get hi
      rw [List.getElem?_map] at e1
      cases hl : l[i]? with
      | none =>
        rw [hl] at e1
        cases e1
      | some t =>
        rw [hl] at e1
        cases e1
        obtain ⟨b, vs, rfl, q2, q3⟩ := e2
        cases q3 with
        | cons z1 q3 =>
          cases q3 with
          | cons z2 q3 =>
            cases q3
            have z1 : _ = V.int t.1 := z1
            have z2 : _ = V.str t.2 := z2
            subst z1 z2
            exact ⟨b, t.1, t.2, rfl, Evl.ex_t ex q2⟩
    · obtain ⟨l', p1, p2⟩ := perm_facts hp l h3
      have g := Grow.new (o := .lst ys) ex hn
      exact q _ _ _ ⟨⟨l', p1⟩, p, ys, rfl, upd_same, p2.up g.f⟩ g
end
end DL

/-! DL13: the source of draws (a list of three ints), the set comprehension over facts, parallel assignments. -/
namespace DL
open PySem L2 PyProof.Rows
/-! ### a list of three ints, whose items nobody asks -/
def srcPhi (a : Addr) (h : Heap) : Prop := ∃ (i j k : Int) (its : List Value) (n : Nat), Vals [.int i, .int j, .int k] its ∧ h.get? a = some { cls := .type "list", data := .seq its.toArray n }
def SrcO (a : Addr) : HO := .ext (srcPhi a)
theorem src_ok {P : Program} {w : World} {H : Hp} {h : Heap} {a : Addr} (x : srcPhi a h) : ObjOk P w H h a (SrcO a) := by
  refine ⟨x, ?_, fun h1 h2 q k => ?_⟩
  · obtain ⟨_, _, _, _, _, _, e⟩ := x
    exact ⟨_, e⟩
  · obtain ⟨i, j, l, its, n, r, e⟩ := q
    exact ⟨i, j, l, its, n, r, k _ e⟩
def fSrc : Fct := ⟨fun v H => ∃ a, v = .ref a ∧ H a = some (SrcO a), fun e h => by
  obtain ⟨a, h1, h2⟩ := h
  exact ⟨a, h1, e a _ h2⟩⟩
section
variable {X : Cx} {pins : List (Addr × Obj)} {σ : L2.St} {H : Hp} {s : Shared}
theorem src_open {a : Addr} (I : Inv X pins σ H s) (h : H a = some (SrcO a)) : ∃ i j k : Int, Inv X pins σ (upd H a (.lst [.int i, .int j, .int k])) s := by
  obtain ⟨i, j, k, its, n, r, e⟩ := (show ObjOk X.prog X.w H s.heap a (SrcO a) from I.hok a _ h).1
  exact ⟨i, j, k, I.write (e := a) (t' := s.toks) (h' := s.heap) (by rw [h]; trivial) (.inl rfl) (fun b u _ q => q) ⟨_, e⟩ ⟨by show 3 ≤ sizeLine; decide, its, n, r, e⟩⟩
theorem src_close {a : Addr} {i j k : Int} (I : Inv X pins σ H s) (h : H a = some (.lst [.int i, .int j, .int k])) : Inv X pins σ (upd H a (SrcO a)) s := by
  obtain ⟨its, n, r, e, _⟩ := I.lst h
  exact I.write (e := a) (t' := s.toks) (h' := s.heap) (by rw [h]; trivial) (.inl rfl) (fun b u _ q => q) ⟨_, e⟩ (src_ok ⟨i, j, k, its, n, r, e⟩)
end
section
variable {X : Cx}
def rGetS : R2 := fun x y H Q => ∃ a n, x = .ref a ∧ y = .int n ∧ 0 ≤ n ∧ n < 3 ∧ H a = some (SrcO a) ∧ ∀ i : Int, Q (.int i) H
theorem ix_src : IxR X rGetS := by
  intro value slice pins s σ H x y v u Q I rx ry h hs
  obtain ⟨a, n, rfl, rfl, h0, h3, ha, q⟩ := h
  obtain ⟨i, j, k, I2⟩ := src_open I ha
  have hat : ∃ m : Int, atI [V.int i, V.int j, V.int k] n = some (.int m) := by
    have : n = 0 ∨ n = 1 ∨ n = 2 := by omega
    rcases this with rfl | rfl | rfl
    · exact ⟨i, rfl⟩
    · exact ⟨j, rfl⟩
    · exact ⟨k, rfl⟩
  obtain ⟨m, hm⟩ := hat
  refine thn (ix_list value slice pins s σ _ (.ref a) (.int n) v u (fun z H' => z = .int m ∧ H' = upd H a (.lst [.int i, .int j, .int k])) I2 rx ry ⟨a, _, n, .int m, rfl, rfl, SqL.of upd_same, hm, rfl, rfl⟩ hs) fun v' s' ⟨z, H', I', r', e1, e2⟩ => ?_
  subst e1 e2
  have I3 := src_close I' upd_same
  rw [upd_upd, upd_self ha] at I3
  exact ⟨.int m, H, I3, r', q m⟩
def rSetS : TSet := fun o i v H Q => ∃ a n m, o = .ref a ∧ i = .int n ∧ v = .int m ∧ 0 ≤ n ∧ n < 3 ∧ H a = some (SrcO a) ∧ Q H
theorem set_src : PSet X rSetS := by
  intro pins s σ H o y v ov iv u Q I ro ri rv h
  obtain ⟨a, n, m, rfl, rfl, rfl, h0, h3, ha, q⟩ := h
  obtain ⟨i, j, k, I2⟩ := src_open I ha
  have hat : ∃ d, ixN [V.int i, V.int j, V.int k].length n = some d ∧ ∃ i' j' k' : Int, [V.int i, V.int j, V.int k].set d (.int m) = [.int i', .int j', .int k'] := by
    have : n = 0 ∨ n = 1 ∨ n = 2 := by omega
    rcases this with rfl | rfl | rfl
    · exact ⟨0, rfl, m, j, k, rfl⟩
    · exact ⟨1, rfl, i, m, k, rfl⟩
    · exact ⟨2, rfl, i, j, m, rfl⟩
  obtain ⟨d, hd, i', j', k', e⟩ := hat
  refine thn (set_list pins s σ _ (.ref a) (.int n) (.int m) ov iv u (fun H' => H' = upd (upd H a (.lst [.int i, .int j, .int k])) a (.lst [.int i', .int j', .int k'])) I2 ro ri rv ⟨a, _, n, d, rfl, rfl, upd_same, hd, by rw [e]⟩) fun _ s' ⟨H', I', e'⟩ => ?_
  subst e'
  have I3 := src_close I' upd_same
  rw [upd_upd, upd_upd, upd_self ha] at I3
  exact ⟨H, I3, q⟩
/-- [a, b, c] of ints, as such a list -/
def tSrcNew (ta : TA) : TE := fun σ H Q => ta σ H fun vs H1 => ∃ i j k : Int, vs = [.int i, .int j, .int k] ∧ ∀ p, H1 p = none → Q (.ref p) (upd H1 p (SrcO p))
theorem pe_srcNew {es : List Expr} {pos : Pos} : PE X (.List es pos) (tSrcNew (wpA X es)) := by
  refine ⟨fun pins s σ H Q I hq => ?_⟩
  have key := (pe_lst (pos := pos) (pa_wp (X := X) (es := es))).run pins s σ H (fun v H' => ∃ (p : Addr) (H1 : Hp) (i j k : Int), v = .ref p ∧ H' = upd H1 p (.lst [.int i, .int j, .int k]) ∧ H1 p = none ∧ Q (.ref p) (upd H1 p (SrcO p))) I ?_
  · refine thn key fun v s' ⟨x, H', I', r, p, H1, i, j, k, e1, e2, e3, q⟩ => ?_
    subst e1 e2
    have I3 := src_close I' upd_same
    rw [upd_upd] at I3
    exact ⟨.ref p, _, I3, r, q⟩
  · refine wpA_mono hq fun vs H1 ⟨i, j, k, e, q⟩ => ?_
    subst e
    exact ⟨by show 3 ≤ sizeLine; decide, fun p hp => ⟨p, H1, i, j, k, rfl, rfl, hp, q p hp⟩⟩
end
section
variable {X : Cx} {Γ : Ctx} {e a b : Expr} {pos : Pos} {W : Fct → Ctx → Prop} {D : DE}
theorem v_srcNew {es : List Expr} (h : PAs X es Γ fun Ps Γ1 => ∃ i j k : Int, Ps = [fInt i, fInt j, fInt k] ∧ W fSrc Γ1) : PV X (.List es pos) Γ W := v_of pe_srcNew fun B σ F H S =>
  wpA_mono (h B σ F H S) fun vs H1 ⟨F1, Ps, Γ1, ⟨i, j, k, e, w⟩, ps, ex1, S1⟩ => by
    subst e
    have e : vs = [.int i, .int j, .int k] := allP_fV (ys := [.int i, .int j, .int k]) ps
    refine ⟨i, j, k, e, fun p hp => ?_⟩
    have g := Grow.new (o := SrcO p) S1.ex hp
    exact ⟨upd F1 p (SrcO p), _, Γ1, w, ⟨p, rfl, upd_same⟩, ex1.trans g.f, S1.grow g⟩
def fAnyI : Fct := fEx fun i : Int => fInt i
theorem o2_src {n : Int} (h0 : 0 ≤ n) (h3 : n < 3) : Op2 rGetS fSrc (fInt n) fAnyI := fun v v' F H ex p p' Q q => by
  obtain ⟨a, e1, e2⟩ := p
  exact ⟨a, n, e1, p', h0, h3, ex a _ e2, fun i => q (.int i) F H ⟨i, rfl⟩ (Grow.refl ex)⟩
/-- src[n] = .., a target -/
def gSrc (i : Nat) (n : Int) : TG := gSub (tVar i) (tC (.int n)) rSetS
theorem pg_src (i : Nat) {x : Str} {xpos kp : Pos} {n : Int} {kj} (hN : X.N[i]? = some x := by rfl) (hv : Vis X.env.scope x := by first | exact Or.inl rfl | exact Or.inr (Or.inl rfl) | exact Or.inr (Or.inr rfl)) (hd : (x == ("__debug__" : Str)) = false := by decide) (hcd : (x == ("__classdict__" : Str)) = false := by decide)
    (ha : ∀ u, assign (.Subscript (.Name x xpos) (.Constant (.int n) kj kp) pos) X.env u = (do
      let ov ← holding [u] (eval (.Name x xpos) X.env)
      let iv ← holding [u, ov] (eval (.Constant (.int n) kj kp) X.env)
      standAt pos
      holding [u, ov, iv] (setItem ov iv u)
      release [u, ov, iv] []) := by intro _; rfl) : PG X (.Subscript (.Name x xpos) (.Constant (.int n) kj kp) pos) (gSrc i n) := pg_sub (pe_var hN hv hd hcd) pe_int set_src ha
theorem dt_src {i : Nat} {n m : Int} {WT : Ctx → Prop} (h0 : 0 ≤ n) (h3 : n < 3) (hs : Γ[i]? = some (.fz fSrc)) (h : WT Γ) : DT (gSrc i n) Γ (fInt m) WT := fun B σ F H v S p Q q => by
  obtain ⟨u, e1, a, e2, e3⟩ := S.get hs
  subst e2
  have p : v = .int m := p
  subst p
  exact ⟨.ref a, e1, a, n, m, rfl, rfl, rfl, h0, h3, S.ex a _ e3, q σ Γ h S⟩
/-! ### parallel assignments of local names -/
theorem p_par {i j : Nat} {x y : Str} {px py pt : Pos} {kt k2 pt2} (h : PAs X [a, b] Γ fun Ps Γ1 => ∃ P1 P2, Ps = [P1, P2] ∧ D.nx ((Γ1.set i (.fz P1)).set j (.fz P2))) (hN : X.N.Nodup) (hw : swappedStores [.Tuple [.Name x px, .Name y py] kt pt] (.Tuple [a, b] k2 pt2) X.env = pure (some [x, y]))
    (hi : X.N[i]? = some x := by rfl) (hj : X.N[j]? = some y := by rfl) (hij : i ≠ j := by decide) (hx : X.env.scope.names.lookup x = some .local := by rfl) (hy : X.env.scope.names.lookup y = some .local := by rfl) (hc : X.calm = true := by rfl)
    (hs : swapsWithSole [.Tuple [.Name x px, .Name y py] kt pt] (.Tuple [a, b] k2 pt2) pos.line X.env = pure false := by rfl) : P1 X (.Assign [.Tuple [.Name x px, .Name y py] kt pt] (.Tuple [a, b] k2 pt2) pos) Γ D :=
  p_of (ps_par hc hN hi hj hij hx hy pa_wp hw hs) fun B σ F H S => wpA_mono (h B σ F H S) fun vs H1 ⟨F1, Ps, Γ1, ⟨P1, P2, e, w⟩, ps, ex1, S1⟩ => by
    subst e
    cases ps with
    | cons p1 ps =>
      cases ps with
      | cons p2 ps =>
        cases ps
        exact ⟨_, _, rfl, _, F1, w, (S1.set p1).set p2⟩
theorem p_par3 {c : Expr} {i j l : Nat} {x y z : Str} {px py pz pt : Pos} {kt k2 pt2} (h : PAs X [a, b, c] Γ fun Ps Γ1 => ∃ P1 P2 P3, Ps = [P1, P2, P3] ∧ D.nx (((Γ1.set i (.fz P1)).set j (.fz P2)).set l (.fz P3))) (hN : X.N.Nodup) (hw : swappedStores [.Tuple [.Name x px, .Name y py, .Name z pz] kt pt] (.Tuple [a, b, c] k2 pt2) X.env = pure (some [x, y, z]))
    (hi : X.N[i]? = some x := by rfl) (hj : X.N[j]? = some y := by rfl) (hl : X.N[l]? = some z := by rfl) (hij : i ≠ j := by decide) (hil : i ≠ l := by decide) (hjl : j ≠ l := by decide) (hx : X.env.scope.names.lookup x = some .local := by rfl) (hy : X.env.scope.names.lookup y = some .local := by rfl) (hz : X.env.scope.names.lookup z = some .local := by rfl) (hc : X.calm = true := by rfl)
    (hs : swapsWithSole [.Tuple [.Name x px, .Name y py, .Name z pz] kt pt] (.Tuple [a, b, c] k2 pt2) pos.line X.env = pure false := by rfl) : P1 X (.Assign [.Tuple [.Name x px, .Name y py, .Name z pz] kt pt] (.Tuple [a, b, c] k2 pt2) pos) Γ D :=
  p_of (ps_par3 hc hN hi hj hl hij hil hjl hx hy hz pa_wp hw hs) fun B σ F H S => wpA_mono (h B σ F H S) fun vs H1 ⟨F1, Ps, Γ1, ⟨P1, P2, P3, e, w⟩, ps, ex1, S1⟩ => by
    subst e
    cases ps with
    | cons p1 ps =>
      cases ps with
      | cons p2 ps =>
        cases ps with
        | cons p3 ps =>
          cases ps
          exact ⟨_, _, _, rfl, _, F1, w, ((S1.set p1).set p2).set p3⟩
/-- xs, d, e = [], {}, {}: three new objects of our own -/
theorem p_par3n {i j l : Nat} {x y z : Str} {p1 p2 p3 px py pz pt : Pos} {kt k2 pt2} (h : D.nx (((Γ.set i (.ow (oLst []))).set j (.ow (oDN X.prog X.w X.K []))).set l (.ow (oDN X.prog X.w X.K [])))) (hN : X.N.Nodup) (hw : swappedStores [.Tuple [.Name x px, .Name y py, .Name z pz] kt pt] (.Tuple [.List [] p1, .Dict [] [] p2, .Dict [] [] p3] k2 pt2) X.env = pure (some [x, y, z]))
    (hi : X.N[i]? = some x := by rfl) (hj : X.N[j]? = some y := by rfl) (hl : X.N[l]? = some z := by rfl) (hij : i ≠ j := by decide) (hil : i ≠ l := by decide) (hjl : j ≠ l := by decide) (hx : X.env.scope.names.lookup x = some .local := by rfl) (hy : X.env.scope.names.lookup y = some .local := by rfl) (hz : X.env.scope.names.lookup z = some .local := by rfl) (hc : X.calm = true := by rfl)
    (hs : swapsWithSole [.Tuple [.Name x px, .Name y py, .Name z pz] kt pt] (.Tuple [.List [] p1, .Dict [] [] p2, .Dict [] [] p3] k2 pt2) pos.line X.env = pure false := by rfl) (h1 : starEach [.List [] p1, .Dict [] [] p2, .Dict [] [] p3] X.env = (false, eval (.List [] p1) X.env) :: starEach [.Dict [] [] p2, .Dict [] [] p3] X.env := by rfl) (h2 : starEach [.Dict [] [] p2, .Dict [] [] p3] X.env = (false, eval (.Dict [] [] p2) X.env) :: starEach [.Dict [] [] p3] X.env := by rfl) (h3 : starEach [.Dict [] [] p3] X.env = (false, eval (.Dict [] [] p3) X.env) :: starEach [] X.env := by rfl) :
    P1 X (.Assign [.Tuple [.Name x px, .Name y py, .Name z pz] kt pt] (.Tuple [.List [] p1, .Dict [] [] p2, .Dict [] [] p3] k2 pt2) pos) Γ D :=
  p_of (ps_par3 hc hN hi hj hl hij hil hjl hx hy hz (pa_cons (pe_lst pa_nil) (pa_cons pe_dnewN (pa_cons pe_dnewN pa_nil h3) h2) h1) hw hs) fun B σ F H S => by
    refine ⟨by show 0 ≤ sizeLine; decide, fun p hp q hq r hr => ?_⟩
    exact ⟨_, _, _, rfl, _, F, h, ((S.setO (O := oLst []) hp ⟨[], rfl, .nil⟩).setO (O := oDN X.prog X.w X.K []) hq ⟨[], rfl, .nil⟩).setO (O := oDN X.prog X.w X.K []) hr ⟨[], rfl, .nil⟩⟩
/-! ### the set comprehension -/
end
def fInts (K : PySem.W.Frag) (ks : List Int) : Fct := fTup K (ks.map fInt)
def fSetT (P : Program) (w : World) (K : PySem.W.Frag) (ks : List (List Int)) : Fct := ⟨fun v F => ∃ (a : Addr) (L : List (Addr × List Int)), v = .ref a ∧ F a = some (SetTO P w a L) ∧ (∀ p ∈ L, SqT K F p.1 (p.2.map V.int)) ∧ ∀ z, z ∈ L.map (·.2) ↔ z ∈ ks, fun e h => by
  obtain ⟨a, L, h1, h2, h3, h4⟩ := h
  exact ⟨a, L, h1, e a _ h2, fun p hp => Evl.ex_t e (h3 p hp), h4⟩⟩
theorem wipe_set2 {σ : L2.St} {vs : List Nat} {j : Nat} {v : Option V} (h : j ∈ vs) : L2.wipe (σ.set j v) vs = L2.wipe σ vs := by
  apply List.ext_getElem?
  intro i
  rw [wipe_getAll, wipe_getAll, List.length_set]
  by_cases hi : i ∈ vs ∧ i < σ.length
  · rw [if_pos hi, if_pos hi]
  · rw [if_neg hi, if_neg hi]
    by_cases hj : j = i
    · subst hj
      have hl : ¬ j < σ.length := fun z => hi ⟨h, z⟩
      rw [List.getElem?_eq_none (by rw [List.length_set]; omega), List.getElem?_eq_none (by omega)]
    · rw [List.getElem?_set_ne hj]
theorem wipeC_set2 {Γ : Ctx} {vs : List Nat} {j : Nat} {s : Slot} (h : j ∈ vs) : wipeC (Γ.set j s) vs = wipeC Γ vs := by
  apply List.ext_getElem?
  intro i
  rw [wipeC_get, wipeC_get, List.length_set]
  by_cases hi : i ∈ vs ∧ i < Γ.length
  · rw [if_pos hi, if_pos hi]
  · rw [if_neg hi, if_neg hi]
    by_cases hj : j = i
    · subst hj
      have hl : ¬ j < Γ.length := fun z => hi ⟨h, z⟩
      rw [List.getElem?_eq_none (by rw [List.length_set]; omega), List.getElem?_eq_none (by omega)]
    · rw [List.getElem?_set_ne hj]
theorem wipe_idem {σ : L2.St} {vs : List Nat} : L2.wipe (L2.wipe σ vs) vs = L2.wipe σ vs := wipe_wipe
section
variable {X : Cx} {Γ : Ctx} {elt tg iter : Expr} {scope : Scope} {own : List (Str × Nat)} {pos : Pos} {W : Fct → Ctx → Prop} {j1 j2 j3 : Nat}
/-- {elt for i, j, k in iter}: the items are triples by g1 g2 g3, elt is a tuple of ints -/
theorem v_sct {α : Type} (hu : X.A.units + 64 < cLine) (ok : BlkOk X.N X.env.scope scope own) (hN : X.N.Nodup) (m1 : j1 ∈ own.map (·.2)) (m2 : j2 ∈ own.map (·.2)) (m3 : j3 ∈ own.map (·.2)) (hg : ∀ s H C cl fp, PG (X.blk s H scope (compEnvC scope cl C X.env) fp) tg (gTup X.K 3 (gCons (gName j1) (gCons (gName j2) (gCons (gName j3) gNil)))))
    (hi : DI X tg iter Γ fun Ps Γ1 => ∃ (xs : List α) (g1 g2 g3 : α → Fct) (kk : α → List Int), Ps = xs.map (fun x => fTup X.K [g1 x, g2 x, g3 x]) ∧ xs.length < 60 ∧
      (∀ x ∈ xs, PVb X scope elt ((((wipeC Γ1 (own.map (·.2))).set j1 (.fz (g1 x))).set j2 (.fz (g2 x))).set j3 (.fz (g3 x))) fun R Γ2 => R = fInts X.K (kk x) ∧ Γ2 = (((wipeC Γ1 (own.map (·.2))).set j1 (.fz (g1 x))).set j2 (.fz (g2 x))).set j3 (.fz (g3 x))) ∧
      W (fSetT X.prog X.w X.K (xs.map kk)) (wipeC Γ1 (own.map (·.2))))
    (hc : X.calm = true := by rfl) (hs : ∀ x, foldedSetIterable iter X.env x = pure x := by intro _; rfl) : PV X (.SetComp elt [⟨tg, iter, [], 0⟩] scope pos) Γ W :=
  v_of (pe_sct hu hc hN pi_wp ok hg (fun s H C cl fp => pts_all (X := X) (ifs := []) s H C cl fp) (fun s H C cl fp => pe_all s H C cl fp) hs) fun B σ F H S =>
    wpI_mono (hi B σ F H S) fun J H1 ⟨F1, Ps, Γ1, ⟨xs, g1, g2, g3, kk, e, hsz, hst, w⟩, ⟨G, Y, wk, hG, hY⟩, ex1, S1⟩ => by
  subst e
  generalize hvs : own.map (·.2) = vs at *
  intro D hD
  have fD : F1 D = none := Evl.fresh_back S1.ex hD
  refine walk_turns wk (T := fun i x H' Nx => gTup X.K 3 (gCons (gName j1) (gCons (gName j2) (gCons (gName j3) gNil))) x (L2.wipe σ vs) H' fun σ2 H2 => L2.wipe σ2 vs = L2.wipe σ vs ∧ allTs X scope [] σ2 H2 fun b H3 =>
    if b = true then allE X scope elt σ2 H3 fun y H4 => ∃ (c : Addr) (k : List Int) (L : List (Addr × List Int)), y = .ref c ∧ SqT X.K H4 c (k.map V.int) ∧ H4 D = some (SetTO X.prog X.w D L) ∧ (∀ p ∈ L, SqT X.K H4 p.1 (p.2.map V.int)) ∧ L.length + 1 < 64 ∧ ∀ L' : List (Addr × List Int), (k ∈ L.map (·.2) → L' = L) → (k ∉ L.map (·.2) → L'.Perm ((c, k) :: L)) → Nx (upd H4 D (SetTO X.prog X.w D L')) else Nx H3)
    (fun i H => ∃ (F : Hp) (L : List (Addr × List Int)), (∀ p ∈ L, SqT X.K F p.1 (p.2.map V.int)) ∧ (∀ z, z ∈ L.map (·.2) ↔ z ∈ (xs.take i).map kk) ∧ L.length ≤ i ∧ Sat ⟨F1, upd B.H0 D (SetTO X.prog X.w D L)⟩ (wipeC Γ1 vs) (L2.wipe σ vs) F H) ⟨F1, [], (fun p hp => by simp at hp), (fun z => by rw [List.take_zero]; exact Iff.rfl), Nat.le_refl _, (S1.wipe vs).startD hD⟩ (fun i H _ ⟨F, L, _, _, _, S⟩ => hG H (S.bF.trans S.ex)) ?_ ?_
  · rintro i xv H H' hlt ⟨F, L, al, hm, hle, S⟩ y
    rw [List.length_map] at hlt
    have hx : xs[i]? = some xs[i] := List.getElem?_eq_getElem hlt
    generalize xs[i] = x at hx
    have hP : (xs.map fun x => fTup X.K [g1 x, g2 x, g3 x])[i]? = some (fTup X.K [g1 x, g2 x, g3 x]) := by rw [List.getElem?_map, hx]; rfl
    obtain ⟨F2, px, gr⟩ := hY i _ H xv H' F S.bF S.ex hP y
    have Sg := S.grow gr
    obtain ⟨a, us, rfl, h2, h3⟩ := px
    cases h3 with
    | cons q1 h3 =>
      cases h3 with
      | cons q2 h3 =>
        cases h3 with
        | cons q3 h3 =>
          cases h3
          have hmx : x ∈ xs := List.mem_of_getElem? hx
          have et : xs.take (i + 1) = xs.take i ++ [x] := by
            rw [List.take_add_one, hx]
            rfl
          have S2 := ((Sg.set (i := j1) q1).set (i := j2) q2).set (i := j3) q3
          refine ⟨a, _, rfl, Evl.ex_t gr.i h2, rfl, _, _, rfl, _, _, rfl, _, _, rfl, rfl, ?_, allTs_nil_run ?_⟩
          · rw [wipe_set2 m3, wipe_set2 m2, wipe_set2 m1, wipe_wipe]
          · dsimp -failIfUnchanged only
            rw [if_pos rfl]
            refine allE_run (hst x hmx) S2 ?_
            rintro v H3 F3 R Γ3 ⟨rfl, rfl⟩ pv ex3 S3
            obtain ⟨c, zs, rfl, z2, z3⟩ := pv
            have ez := allP_map z3
            subst ez
            have al3 : ∀ p ∈ L, SqT X.K F3 p.1 (p.2.map V.int) := fun p hp => Evl.ex_t (gr.f.trans ex3) (al p hp)
            refine ⟨c, kk x, L, rfl, Evl.ex_t S3.ex z2, (S3.atD fD).1, fun p hp => Evl.ex_t S3.ex (al3 p hp), by omega, fun L' c1 c2 => ⟨F3, L', ?_, ?_, ?_, ?_⟩⟩
            · intro p hp
              by_cases hk : kk x ∈ L.map (·.2)
              · rw [c1 hk] at hp
                exact al3 p hp
              · rcases List.mem_cons.mp ((c2 hk).mem_iff.mp hp) with e | hp
                · rw [e]
                  exact z2
                · exact al3 p hp
            · intro z
              rw [et, List.map_append, List.mem_append, ← hm z, List.map_cons, List.map_nil, List.mem_singleton]
              by_cases hk : kk x ∈ L.map (·.2)
              · rw [c1 hk]
                exact ⟨.inl, fun h => h.elim id fun h => h ▸ hk⟩
              · rw [((c2 hk).map (·.2)).mem_iff, List.map_cons, List.mem_cons]
                exact or_comm
            · by_cases hk : kk x ∈ L.map (·.2)
              · rw [c1 hk]
                omega
              · rw [(c2 hk).length_eq, List.length_cons]
                omega
            · have S5 := (S3.stepD (o' := SetTO X.prog X.w D L') fD).wipe vs
              rw [wipe_set2 m3, wipe_set2 m2, wipe_set2 m1, wipe_wipe, wipeC_set2 m3, wipeC_set2 m2, wipeC_set2 m1, wipeC_twice] at S5
              exact S5
  · rintro H ⟨F, L, al, hm, hle, S⟩
    rw [List.length_map, List.take_length] at hm
    obtain ⟨ex, S'⟩ := Sat.endD S1 hD S
    have S2 := S'.unwipe
    rw [wipeC_twice] at S2
    exact ⟨_, _, _, w, ⟨D, L, rfl, upd_same, fun p hp => Evl.ex_t ex (al p hp), hm⟩, ex1.trans (S.bF.trans ex), S2⟩
theorem oc_sortedT {d : Nat} {N : Int} {ks : List (List Int)} (hd : 1 ≤ d) (hb : ∀ k ∈ ks, k.length = d ∧ TS.Bd N k) :
    OpC (rSortedT X.K X.prog X.w) [fSetT X.prog X.w X.K ks] (fEx fun l : {l : List (List Int) // (∀ z, z ∈ l ↔ z ∈ ks) ∧ l.length < 64} => fLst X.K (l.1.map (fInts X.K))) := fun vs F H ex ps Q q => by
  cases ps with
  | cons p ps =>
    cases ps
    obtain ⟨a, L, rfl, h2, h3, h4⟩ := p
    refine ⟨a, L, d, N, rfl, ex a _ h2, fun p hp => Evl.ex_t ex (h3 p hp), hd, fun p hp => hb _ ((h4 p.2).mp (List.mem_map.mpr ⟨p, hp, rfl⟩)), fun L' l pm nd hl _ hn => ?_⟩
    have g := Grow.new (o := .lst (L'.map fun q => V.ref q.1)) ex hn
    refine q _ _ _ ⟨⟨L'.map (·.2), fun z => ?_, by rw [List.length_map]; exact hl⟩, l, _, rfl, upd_same, ?_⟩ g
    · rw [(pm.map (·.2)).mem_iff]
      exact h4 z
    · have key : ∀ L0 : List (Addr × List Int), (∀ p ∈ L0, SqT X.K F p.1 (p.2.map V.int)) → AllP (L0.map fun q => V.ref q.1) ((L0.map (·.2)).map (fInts X.K)) (upd F l (.lst (L'.map fun q => V.ref q.1))) := by
        intro L0
        induction L0 with
        | nil => exact fun _ => .nil
        | cons p L0 ih =>
          intro h
          refine .cons ⟨p.1, p.2.map V.int, rfl, Evl.ex_t g.f (h p List.mem_cons_self), ?_⟩ (ih fun p hp => h p (List.mem_cons_of_mem _ hp))
          have : ∀ ns : List Int, AllP (ns.map V.int) (ns.map fInt) (upd F l (.lst (L'.map fun q => V.ref q.1))) := by
            intro ns
            induction ns with
            | nil => exact .nil
            | cons n ns ih => exact .cons rfl ih
          exact this p.2
      exact key L' fun p hp => h3 p (pm.mem_iff.mp hp)
end
end DL

/-! DL14: instances made by __init__, fields written. -/
namespace DL
open PySem L2 PyProof.Rows
/-- an instance of our own -/
def oIns (a0 C : Addr) (fs : List (Str × Fct)) : Own := ⟨fun a o F => a = a0 ∧ ∃ dx gs, o = .ins C dx gs ∧ gs.map (·.1) = fs.map (·.1) ∧ AllP (gs.map (·.2)) (fs.map (·.2)) F, fun e h => by
  obtain ⟨h0, dx, gs, h1, h2, h3⟩ := h
  exact ⟨h0, dx, gs, h1, h2, h3.up e⟩⟩
theorem oIns_fct {a0 C : Addr} {fs : List (Str × Fct)} {v : V} {F : Hp} (h : (oIns a0 C fs).fct.p v F) : v = .ref a0 ∧ (fIns C fs).p v F := by
  obtain ⟨a, o, h1, h2, h0, dx, gs, h3, h4, h5⟩ := h
  subst h3 h0
  exact ⟨h1, a, dx, gs, h1, h2, h4, h5⟩
theorem putF_snoc {f : Str} {v : V} : ∀ {gs : List (Str × V)}, (gs.map (·.1)).contains f = false → L2.putF f v gs = gs ++ [(f, v)]
  | [], _ => rfl
  | (g, x) :: r, h => by
    rw [List.map_cons, List.contains_cons, Bool.or_eq_false_iff] at h
    have hn : ¬ g = f := fun z => by
      subst z
      have := h.1
      simp at this
    show (if g = f then (g, v) :: r else (g, x) :: L2.putF f v r) = _
    rw [if_neg hn, putF_snoc h.2]
    rfl
section
variable {X : Cx} {Γ : Ctx} {e a b : Expr} {pos : Pos} {W : Fct → Ctx → Prop} {D : DE}
/-- self.f = e, f is new -/
theorem p_fld (i : Nat) {x f : Str} {xpos p' : Pos} {a0 C : Addr} (cl : Cls X.K C) (na : NoAttr X.K C f) (h : PV X e Γ fun P Γ1 => ∃ fs, Γ1[i]? = some (.ow (oIns a0 C fs)) ∧ (fs.map (·.1)).contains f = false ∧ fs.length < 1000 ∧ D.nx (Γ1.set i (.ow (oIns a0 C (fs ++ [(f, P)])))))
    (hs : swapsWith e (some (.Attribute (.Name x xpos) f p')) pos.line X.env = pure false := by rfl) (hN : X.N[i]? = some x := by rfl) (hv : Vis X.env.scope x := by first | exact Or.inl rfl | exact Or.inr (Or.inl rfl) | exact Or.inr (Or.inr rfl)) (hd : (x == ("__debug__" : Str)) = false := by decide) (hcd : (x == ("__classdict__" : Str)) = false := by decide) :
    P1 X (.Assign [.Attribute (.Name x xpos) f p'] e pos) Γ D := p_of (ps_fld (pe_var hN hv hd hcd) pe_wp hs) fun B σ F H S => wpE_mono (h B σ F H S) fun v H1 ⟨F1, P, Γ1, ⟨fs, hO, hn, hl, w⟩, p, ex1, S1⟩ => by
  obtain ⟨d, o, e1, e2, e3, e4, e0, dx, gs, e5, e6, e7⟩ := S1.getO hO
  subst e5 e0
  have hl2 : gs.length < 1000 := by
    have := congrArg List.length e6
    rw [List.length_map, List.length_map] at this
    omega
  refine ⟨.ref d, e1, d, C, dx, gs, rfl, e4, cl, na, hl2, _, F1, w, S1.write hO e1 ⟨rfl, dx, _, rfl, ?_, ?_⟩⟩
  · rw [putF_snoc (by rw [e6]; exact hn), List.map_append, List.map_append, e6]
    rfl
  · rw [putF_snoc (by rw [e6]; exact hn), List.map_append, List.map_append]
    exact e7.append (.cons p .nil)
end
/-! ### a promise of __init__ -/
def spI (C : Addr) (d : DSp) : Sp := fun vs H Q _ => ∃ F a dx vs' Ps W, vs = .ref a :: vs' ∧ Ex F H ∧ F a = none ∧ H a = some (.ins C dx []) ∧ AllP vs' Ps F ∧ d Ps W ∧
  ∀ H' F' P, W P → P.p (.ref a) F' → Ex F F' → Ex F' H' → Ex (remA H a) H' → (∀ b, b ≠ a → H b ≠ none → F b = none → F' b = none) → Q .non H'
def startI (a0 C : Addr) (N : List Str) (Ps : List Fct) : Ctx := .ow (oIns a0 C []) :: (Ps.map .fz ++ List.replicate (N.length - (Ps.length + 1)) .no)
theorem sat_startI {N : List Str} {vs : List V} {Ps : List Fct} {F H : Hp} {C a dx : Addr} (ex : Ex F H) (fa : F a = none) (ha : H a = some (.ins C dx [])) (h : AllP vs Ps F) : Sat ⟨F, remA H a⟩ (startI a C N Ps) (L2.start N (.ref a :: vs)) F H := by
  have hl := h.length
  have es : L2.start N (.ref a :: vs) = some (.ref a) :: (vs.map some ++ List.replicate (N.length - (vs.length + 1)) none) := rfl
  rw [es]
  refine ⟨ex, Evl.Ex.refl _, fun c w e => ?_, fun b h1 h2 => h2, ?_, fun i s ov e1 e2 => ?_, fun i j O1 O2 c hij e1 e2 => ?_⟩
  · have hc : c ≠ a := fun z => by
      subst z
      have e : remA H c c = some w := e
      rw [remA_self] at e
      cases e
    rw [← remA_ne (H := H) hc]
    exact e
  · unfold startI
    rw [List.length_cons, List.length_cons, List.length_append, List.length_append, List.length_map, List.length_map, List.length_replicate, List.length_replicate, hl]
  · unfold startI at e1
    cases i with
    | zero =>
      cases e1
      cases e2
      exact ⟨a, _, rfl, fa, remA_self, ha, rfl, dx, [], rfl, rfl, .nil⟩
    | succ i =>
      rw [List.getElem?_cons_succ] at e1 e2
      by_cases hi : i < Ps.length
      · rw [List.getElem?_append_left (by rw [List.length_map]; exact hi), List.getElem?_map] at e1
        rw [List.getElem?_append_left (by rw [List.length_map, hl]; exact hi), List.getElem?_map] at e2
        cases q : vs[i]? with
        | none =>
          rw [q] at e2
          cases e2
        | some v =>
          obtain ⟨P, q1, q2⟩ := h.get q
          rw [q1] at e1
          rw [q] at e2
          cases e1
          cases e2
          exact ⟨v, rfl, q2⟩
      · rw [List.getElem?_append_right (by rw [List.length_map]; omega), List.getElem?_replicate] at e1
        split at e1
        · cases e1
          trivial
        · cases e1
  · have none_ow : ∀ (m : Nat) (O3 : Own), (startI a C N Ps)[m]? = some (.ow O3) → m = 0 := fun m O3 e => by
      cases m with
      | zero => rfl
      | succ i =>
        exfalso
        unfold startI at e
        rw [List.getElem?_cons_succ] at e
        by_cases hi : i < Ps.length
        · rw [List.getElem?_append_left (by rw [List.length_map]; exact hi), List.getElem?_map] at e
          cases q : Ps[i]? with
          | none =>
            rw [q] at e
            cases e
          | some P =>
            rw [q] at e
            cases e
        · rw [List.getElem?_append_right (by rw [List.length_map]; omega), List.getElem?_replicate] at e
          split at e <;> cases e
    exact absurd ((none_ow i O1 e1).trans (none_ow j O2 e2).symm) hij
theorem PV.cast {X : Cx} {Γ : Ctx} {e : Expr} {W : Fct → Ctx → Prop} (h : PV X e Γ fun P Γ' => ∃ P' : Fct, (∀ v F, P.p v F → P'.p v F) ∧ W P' Γ') : PV X e Γ W := fun B σ F H S => wpE_mono (h B σ F H S) fun v H' ⟨F', P, Γ', ⟨P', m, w⟩, p, ex, S'⟩ => ⟨F', P', Γ', w, m v F' p, ex, S'⟩
section
variable {P : Program} {w : World} {K : PySem.W.Frag} {mg : Str → Option Value} {base : Heap}
theorem fn_i {x qual : Str} {params : Arguments} {body : List Stmt} {scope : Scope} {dvs : List V} {kws : List (Str × V)} {f C : Addr} {fd : FuncData} {N ps : List Str} {k : Nat} {d : DSp} (F : FunD K x qual params body scope dvs kws f fd) (S : FnScope N ps scope)
    (len : ∀ Ps W, d Ps W → Ps.length + 1 = ps.length)
    (hbody : ∀ (cdv : Value) (A : Around) (outer : List Env) (s : Shared) (H : Hp) (E : XK) (a : Addr) (Ps : List Fct) (W : Fct → Prop), Room k (A.deeper (envOfC qual scope s.heap.objs.size f cdv)) → d Ps W →
      PD (cxOf CX0 P w K mg base N qual scope f cdv A outer s H E).nox body (startI a C N Ps) { nx := fun Γ => ∃ fs, Γ[0]? = some (.ow (oIns a C fs)) ∧ W (fIns C fs) ∨ Γ[0]? = some (.fz (oIns a C fs).fct) ∧ W (fIns C fs), rt := fun _ => False }) : FnOk P w K mg base CX0 (k + 1) f fd ps (spI C d) := by
  refine F.ok S (fun vs H Q E h => ?_) (fun cdv A outer s H vs Q E hr h => ?_)
  · obtain ⟨F, a, dx, vs', Ps, W, rfl, _, _, _, h3, h4, _⟩ := h
    rw [List.length_cons, h3.length]
    exact len Ps W h4
  · obtain ⟨F, a, dx, vs', Ps, W, rfl, h1, ha, hh, h3, h4, h5⟩ := h
    refine ⟨wpSs _ body, PSs.nox pss_wp, ?_⟩
    have fin : ∀ (Γ : Ctx) (σ : L2.St) (F' H' : Hp) fs, Γ[0]? = some (.fz (oIns a C fs).fct) → W (fIns C fs) → Sat ⟨F, remA H a⟩ Γ σ F' H' → Q .non H' := by
      intro Γ σ F' H' fs e hw S'
      obtain ⟨v, e1, e2⟩ := S'.get e
      obtain ⟨rfl, e3⟩ := oIns_fct e2
      refine h5 H' F' _ hw e3 S'.bF S'.ex S'.bH fun b hb h1 h2 => S'.off b ?_ h2
      show remA H a b ≠ none
      rw [remA_ne hb]
      exact h1
    refine wpSs_mono (hbody cdv A outer s H E a Ps W hr h4 ⟨F, remA H a⟩ (L2.start N (.ref a :: vs')) F H (sat_startI h1 ha hh h3)) ⟨?_, ?_, ?_, ?_⟩
    · rintro σ H' ⟨Γ, F', ⟨fs, hw⟩, S'⟩
      rcases hw with ⟨e, hw⟩ | ⟨e, hw⟩
      · obtain ⟨F2, ex2, S2⟩ := S'.freeze e
        refine fin _ σ F2 H' fs ?_ hw S2
        have hi : 0 < Γ.length := (List.getElem?_eq_some_iff.mp e).1
        rw [List.getElem?_set_self hi]
      · exact fin Γ σ F' H' fs e hw S'
    · rintro v H' ⟨P, F', z, _⟩
      exact z.elim
    · rintro σ H' ⟨_, _, z, _⟩
      exact z
    · rintro σ H' ⟨_, _, z, _⟩
      exact z
end
/-! ### C(e, .., k = v, ..) -/
section
variable {X : Cx} {Γ : Ctx} {e a : Expr} {pos : Pos} {W : Fct → Ctx → Prop}
def wpK (X : Cx) (kws : List Keyword) : TA := fun σ H Q => ∀ pos pins s, Inv X pins σ H s → wpAny (model X.prog X.w) X.A (evalAll ((backToKw pos (keywordEach kws X.env)).map (·.2))) (AP X pins σ Q) X.xe s
theorem pk_wp {kws : List Keyword} : PK X kws (wpK X kws) := ⟨fun pos pins s _ _ _ I h => h pos pins s I⟩
theorem wpK_of {kws : List Keyword} {t : TA} (h : PK X kws t) {σ : L2.St} {H : Hp} {Q : List V → Hp → Prop} (q : t σ H Q) : wpK X kws σ H Q := fun pos pins s I => h.run pos pins s σ H Q I q
theorem wpK_mono {kws : List Keyword} {σ : L2.St} {H : Hp} {Q Q' : List V → Hp → Prop} (h : wpK X kws σ H Q) (m : ∀ v H', Q v H' → Q' v H') : wpK X kws σ H Q' := fun pos pins s I =>
  thn (h pos pins s I) fun u s' ⟨v, H', I', r, q⟩ => ⟨v, H', I', r, m v H' q⟩
def PKs (X : Cx) (kws : List Keyword) (Γ : Ctx) (W : List Fct → Ctx → Prop) : Prop := ∀ B σ F H, Sat B Γ σ F H → wpK X kws σ H fun vs H' => ∃ F' Ps Γ', W Ps Γ' ∧ AllP vs Ps F' ∧ Ex F F' ∧ Sat B Γ' σ F' H'
theorem k_nil {WA : List Fct → Ctx → Prop} (h : WA [] Γ) : PKs X [] Γ WA := fun B σ F H S => wpK_of pk_nil ⟨F, [], Γ, h, .nil, Evl.Ex.refl _, S⟩
theorem k_cons {nm : Option Str} {kpos : Pos} {kws : List Keyword} {WA : List Fct → Ctx → Prop} (h : PV X a Γ fun P Γ1 => PKs X kws Γ1 fun Ps Γ2 => WA (P :: Ps) Γ2) : PKs X (⟨nm, a, kpos⟩ :: kws) Γ WA := fun B σ F H S =>
  wpK_of (pk_cons pe_wp pk_wp) (wpE_mono (h B σ F H S) fun v1 H1 ⟨F1, P, Γ1, w, p, ex1, S1⟩ => wpK_mono (w B σ F1 H1 S1) fun vs H2 ⟨F2, Ps, Γ2, w2, ps, ex2, S2⟩ => ⟨F2, P :: Ps, Γ2, w2, .cons (P.up ex2 p) ps, ex1.trans ex2, S2⟩)
theorem v_makeK {C f : Addr} {fd : FuncData} {ps ks : List Str} {k n j : Nat} {d : DSp} {x : Str} {p : Pos} {es : List Expr} {kws : List Keyword} {g : List Value → List Value → List Value} (M : Mk X.K C f) (G : FnOk X.prog X.w X.K X.mg X.base CX0 k f fd ps (spI C d)) (hr : Room j X.A) (hm : X.mg x = some (.ref C)) (hb : KBn X.K fd ps (n + 1) ks g (fun vs zs => vs ++ zs))
    (h : PAs X (a :: es) Γ fun Ps Γ1 => PKs X kws Γ1 fun Zs Γ2 => Ps.length = n ∧ Zs.length = ks.length ∧ d (Ps ++ Zs) fun R => W R Γ2) (hk : k + 1 ≤ j := by decide) (hg : Gl X x := by rfl)
    (hall : (backToKw pos (keywordEach kws X.env)).all (·.1.isSome) = true := by rfl) (hks : (backToKw pos (keywordEach kws X.env)).filterMap (·.1) = ks := by rfl) (hdb : (x == ("__debug__" : Str)) = false := by decide)
    (he : starEach (a :: es) X.env = (false, eval a X.env) :: starEach es X.env := by rfl) (hpl : ((backTo pos (starEach (a :: es) X.env)).any (·.1) || (backToKw pos (keywordEach kws X.env)).any (·.1.isNone)) = false := by rfl) : PV X (.Call (.Name x p) (a :: es) kws pos) Γ W :=
  v_of (pe_makeK M G (hr.mono hk) hg hm hb pass0 pa_wp pk_wp hall hks hdb he hpl) fun B σ F H S => wpA_mono (h B σ F H S) fun vs H1 ⟨F1, Ps, Γ1, w, ps, ex1, S1⟩ => wpK_mono (w B σ F1 H1 S1) fun zs H2 ⟨F2, Zs, Γ2, ⟨l1, l2, w2⟩, qs, ex2, S2⟩ => by
  refine ⟨ps.length.trans l1, qs.length.trans l2, fun x dx hx hdx hne => ?_⟩
  have fx : F2 x = none := Evl.fresh_back S2.ex hx
  refine ⟨F2, x, dx, vs ++ zs, Ps ++ Zs, _, rfl, fun c w e => ?_, fx, upd_same, (ps.up ex2).append qs, w2, fun H' F' P hw hp eF eH hk' ho => ?_⟩
  · rw [upd_ne (ne_of_none e fx), upd_ne (ne_of_none e (Evl.fresh_back S2.ex hdx))]
    exact S2.ex c w e
  · have g : Grow F2 H2 F' H' := by
      refine ⟨eF, fun c w e => ?_, eH, fun b h1 h2 => ?_⟩
      · have nx : c ≠ x := ne_of_none e hx
        have nd : c ≠ dx := ne_of_none e hdx
        refine hk' c w ?_
        rw [remA_ne nx, upd_ne nx, upd_ne nd]
        exact e
      · have nx : b ≠ x := fun z => h1 (z ▸ hx)
        refine ho b nx ?_ h2
        rw [upd_ne nx]
        by_cases nd : b = dx
        · rw [nd, upd_same]
          exact fun z => nomatch z
        · rw [upd_ne nd]
          exact h1
    exact ⟨rfl, F', P, Γ2, hw, hp, (ex1.trans ex2).trans eF, S2.grow g⟩
end
end DL

/-! DL15: dicts with text keys, borrowing, reversed copies, index, items of texts. -/
namespace DL
open PySem L2 PyProof.Rows
abbrev KK := Key × Fct
def lookK (kvs : List KK) (k : Key) : Option Fct := (kvs.find? fun kv => decide (kv.1 = k)).map (·.2)
def putKF (kvs : List KK) (k : Key) (R : Fct) : List KK := if (kvs.any fun kv => decide (kv.1 = k)) = true then kvs.map (fun kv => if kv.1 = k then (kv.1, R) else kv) else kvs ++ [(k, R)]
def DkF (F : Hp) (x : Key × V) (kv : KK) : Prop := x.1 = kv.1 ∧ kv.2.p x.2 F
theorem dk_paired {F : Hp} : ∀ {ws : List (Key × V)} {kvs : List KK}, ws.map (·.1) = kvs.map (·.1) → AllP (ws.map (·.2)) (kvs.map (·.2)) F → Paired (DkF F) ws kvs
  | [], [], _, _ => .nil
  | [], _ :: _, h, _ => by cases h
  | _ :: _, [], h, _ => by cases h
  | w :: ws, kv :: kvs, h, q => by
    rw [List.map_cons, List.map_cons] at h
    injection h with h1 h2
    rw [List.map_cons, List.map_cons] at q
    cases q with
    | cons q1 q2 => exact .cons ⟨h1, q1⟩ (dk_paired h2 q2)
theorem dk_unpaired {F : Hp} : ∀ {ws : List (Key × V)} {kvs : List KK}, Paired (DkF F) ws kvs → ws.map (·.1) = kvs.map (·.1) ∧ AllP (ws.map (·.2)) (kvs.map (·.2)) F
  | _, _, .nil => ⟨rfl, .nil⟩
  | _, _, .cons r t => by
    obtain ⟨h1, h2⟩ := dk_unpaired t
    refine ⟨?_, .cons r.2 h2⟩
    rw [List.map_cons, List.map_cons, h1, r.1]
theorem dk_look {F : Hp} (k : Key) : ∀ {ws : List (Key × V)} {kvs : List KK} {R : Fct}, Paired (DkF F) ws kvs → lookK kvs k = some R → ∃ v, valV ws k = some v ∧ R.p v F
  | _, _, _, .nil, e => by cases e
  | _, _, R, .cons (a := w) (b := kv) (l₁ := ws) (l₂ := kvs) r t, e => by
    by_cases h : w.1 = k
    · have e2 : lookK (kv :: kvs) k = some kv.2 := by
        unfold lookK
        rw [List.find?_cons_of_pos (by rw [← r.1]; simpa using h)]
        rfl
      rw [e2] at e
      cases e
      exact ⟨w.2, valV_pos h, r.2⟩
    · have e2 : lookK (kv :: kvs) k = lookK kvs k := by
        unfold lookK
        rw [List.find?_cons_of_neg (by rw [← r.1]; simpa using h)]
      rw [e2] at e
      obtain ⟨v, q1, q2⟩ := dk_look k t e
      exact ⟨v, (valV_neg h).trans q1, q2⟩
theorem dk_any {F : Hp} (k : Key) : ∀ {ws : List (Key × V)} {kvs : List KK}, Paired (DkF F) ws kvs → (ws.any fun kv => decide (kv.1 = k)) = kvs.any fun kv => decide (kv.1 = k)
  | _, _, .nil => rfl
  | _, _, .cons r t => by rw [List.any_cons, List.any_cons, dk_any k t, r.1]
theorem dk_put {F : Hp} {k : Key} {v : V} {R : Fct} (h : R.p v F) {ws : List (Key × V)} {kvs : List KK} (q : Paired (DkF F) ws kvs) : Paired (DkF F) (L2.putK ws k v) (putKF kvs k R) := by
  unfold L2.putK putKF
  rw [dk_any k q]
  split
  · rename_i hh
    clear hh
    induction q with
    | nil => exact .nil
    | cons r t ih =>
      refine .cons ?_ ih
      show DkF F (if _ then _ else _) (if _ then _ else _)
      rw [r.1]
      split
      · exact ⟨rfl, h⟩
      · exact ⟨r.1, r.2⟩
  · exact Paired.app q (.cons ⟨rfl, h⟩ .nil)
def fDK (kvs : List KK) : Fct := (oDK kvs).fct
section
variable {X : Cx} {Γ : Ctx} {e a b : Expr} {pos : Pos} {W : Fct → Ctx → Prop} {WB : Bool → Ctx → Prop} {WO : Own → Ctx → Prop} {D : DE} {jr : Nat}
/-- d[k], d known to all -/
theorem v_dk {k : Str} {kj kp} (hr : Room jr X.A) (h : PV X e Γ fun P Γ1 => ∃ kvs R, P = fDK kvs ∧ lookK kvs (.inr k) = some R ∧ W R Γ1) (hs : NoSl (.Constant (.str k) kj kp) := by exact fun _ _ => rfl) : PV X (.Subscript e (.Constant (.str k) kj kp) pos) Γ W :=
  v_of (pe_dget (by have := hr.units; omega) pe_wp pe_str hs) fun B σ F H S => wpE_mono (h B σ F H S) fun v H1 ⟨F1, P, Γ1, ⟨kvs, R, e1, l, w⟩, p, ex1, S1⟩ => by
  subst e1
  obtain ⟨d, o, rfl, h2, ws, h3, h4, h5⟩ := p
  subst h3
  obtain ⟨z, q1, q2⟩ := dk_look (.inr k) (dk_paired h4 h5) l
  refine ⟨d, z, rfl, ?_, F1, R, Γ1, w, q2, ex1, S1⟩
  have g := DGet.k (k := .inr k) (S1.ex d _ h2)
  rw [q1] at g
  exact g
/-- d[k], d a dict of our own -/
theorem v_dkO (i : Nat) {x : Str} {xpos : Pos} {k : Str} {kj kp} {kvs : List KK} {R : Fct} (hr : Room jr X.A) (hO : Γ[i]? = some (.ow (oDK kvs))) (l : lookK kvs (.inr k) = some R) (h : W R Γ) (hs : NoSl (.Constant (.str k) kj kp) := by exact fun _ _ => rfl)
    (hN : X.N[i]? = some x := by rfl) (hv : Vis X.env.scope x := by first | exact Or.inl rfl | exact Or.inr (Or.inl rfl) | exact Or.inr (Or.inr rfl)) (hd : (x == ("__debug__" : Str)) = false := by decide) (hcd : (x == ("__classdict__" : Str)) = false := by decide) : PV X (.Subscript (.Name x xpos) (.Constant (.str k) kj kp) pos) Γ W :=
  v_of (pe_dget (by have := hr.units; omega) (pe_var hN hv hd hcd) pe_str hs) fun B σ F H S => by
  obtain ⟨d, o, e1, e2, e3, e4, ws, h3, h4, h5⟩ := S.getO hO
  subst h3
  obtain ⟨z, q1, q2⟩ := dk_look (.inr k) (dk_paired h4 h5) l
  refine ⟨.ref d, e1, d, z, rfl, ?_, F, R, Γ, h, q2, Evl.Ex.refl _, S⟩
  have g := DGet.k (k := .inr k) e4
  rw [q1] at g
  exact g
/-- d[k] = e, d a dict of our own -/
theorem p_dkO (i : Nat) {x : Str} {xpos p' : Pos} {k : Str} {kj kp} (hr : Room jr X.A) (h : PV X e Γ fun R Γ1 => ∃ kvs, Γ1[i]? = some (.ow (oDK kvs)) ∧ kvs.length < 1000 ∧ D.nx (Γ1.set i (.ow (oDK (putKF kvs (.inr k) R)))))
    (hs : swapsWithSole [.Subscript (.Name x xpos) (.Constant (.str k) kj kp) p'] e pos.line X.env = pure false := by rfl) (hw : swappedStores [.Subscript (.Name x xpos) (.Constant (.str k) kj kp) p'] e X.env = pure none := by rfl) (h1 : (assignEach [.Subscript (.Name x xpos) (.Constant (.str k) kj kp) p'] X.env).map (·.2) = [assign (.Subscript (.Name x xpos) (.Constant (.str k) kj kp) p') X.env] := by rfl)
    (ha : ∀ u, assign (.Subscript (.Name x xpos) (.Constant (.str k) kj kp) p') X.env u = (do
      let ov ← holding [u] (eval (.Name x xpos) X.env)
      let iv ← holding [u, ov] (eval (.Constant (.str k) kj kp) X.env)
      standAt p'
      holding [u, ov, iv] (setItem ov iv u)
      release [u, ov, iv] []) := by intro _; rfl)
    (hN : X.N[i]? = some x := by rfl) (hv : Vis X.env.scope x := by first | exact Or.inl rfl | exact Or.inr (Or.inl rfl) | exact Or.inr (Or.inr rfl)) (hd : (x == ("__debug__" : Str)) = false := by decide) (hcd : (x == ("__classdict__" : Str)) = false := by decide) :
    P1 X (.Assign [.Subscript (.Name x xpos) (.Constant (.str k) kj kp) p'] e pos) Γ D := p_of (ps_asg pe_wp (pg_sub (pe_var hN hv hd hcd) pe_str (set_dict (by have := hr.units; omega)) ha) hs hw h1) fun B σ F H S => wpE_mono (h B σ F H S) fun z H1 ⟨F1, R, Γ1, ⟨kvs, hO, hl, w⟩, p, ex1, S1⟩ => by
  obtain ⟨d, o, e1, e2, e3, e4, ws, h3, h4, h5⟩ := S1.getO hO
  subst h3
  have hp := dk_paired h4 h5
  have hz : ws.length < sizeLine := Evl.sz_lt (by rw [Paired.length hp]; omega)
  obtain ⟨k1, k2⟩ := dk_unpaired (dk_put (k := .inr k) p hp)
  exact ⟨.ref d, e1, d, _, rfl, DPut.k (k := .inr k) e4 hz, _, F1, w, S1.write hO e1 ⟨_, rfl, k1, k2⟩⟩
/-- d[k1], d[k2] = e -/
theorem p_dkO2 (i : Nat) {x : Str} {xp1 xp2 p1 p2 tp : Pos} {k1 k2 : Str} {kj1 kp1 kj2 kp2 kt} (hr : Room jr X.A) (h : PV X e Γ fun P Γ1 => ∃ P1 P2 kvs, P = fTup X.K [P1, P2] ∧ Γ1[i]? = some (.ow (oDK kvs)) ∧ kvs.length < 1000 ∧ D.nx (Γ1.set i (.ow (oDK (putKF (putKF kvs (.inr k1) P1) (.inr k2) P2)))))
    (hc : X.calm = true := by rfl)
    (hs : swapsWithSole [.Tuple [.Subscript (.Name x xp1) (.Constant (.str k1) kj1 kp1) p1, .Subscript (.Name x xp2) (.Constant (.str k2) kj2 kp2) p2] kt tp] e pos.line X.env = pure false := by rfl) (hw : swappedStores [.Tuple [.Subscript (.Name x xp1) (.Constant (.str k1) kj1 kp1) p1, .Subscript (.Name x xp2) (.Constant (.str k2) kj2 kp2) p2] kt tp] e X.env = pure none := by rfl)
    (h1 : (assignEach [.Tuple [.Subscript (.Name x xp1) (.Constant (.str k1) kj1 kp1) p1, .Subscript (.Name x xp2) (.Constant (.str k2) kj2 kp2) p2] kt tp] X.env).map (·.2) = [assign (.Tuple [.Subscript (.Name x xp1) (.Constant (.str k1) kj1 kp1) p1, .Subscript (.Name x xp2) (.Constant (.str k2) kj2 kp2) p2] kt tp) X.env] := by rfl)
    (ha1 : ∀ u, assign (.Subscript (.Name x xp1) (.Constant (.str k1) kj1 kp1) p1) X.env u = (do
      let ov ← holding [u] (eval (.Name x xp1) X.env)
      let iv ← holding [u, ov] (eval (.Constant (.str k1) kj1 kp1) X.env)
      standAt p1
      holding [u, ov, iv] (setItem ov iv u)
      release [u, ov, iv] []) := by intro _; rfl)
    (ha2 : ∀ u, assign (.Subscript (.Name x xp2) (.Constant (.str k2) kj2 kp2) p2) X.env u = (do
      let ov ← holding [u] (eval (.Name x xp2) X.env)
      let iv ← holding [u, ov] (eval (.Constant (.str k2) kj2 kp2) X.env)
      standAt p2
      holding [u, ov, iv] (setItem ov iv u)
      release [u, ov, iv] []) := by intro _; rfl)
    (hn : (assignEach [.Subscript (.Name x xp1) (.Constant (.str k1) kj1 kp1) p1, .Subscript (.Name x xp2) (.Constant (.str k2) kj2 kp2) p2] X.env).length = 2 := by rfl) (hst : (assignEach [.Subscript (.Name x xp1) (.Constant (.str k1) kj1 kp1) p1, .Subscript (.Name x xp2) (.Constant (.str k2) kj2 kp2) p2] X.env).findIdx? (·.1) = none := by rfl)
    (hs1 : (assignEach [.Subscript (.Name x xp1) (.Constant (.str k1) kj1 kp1) p1, .Subscript (.Name x xp2) (.Constant (.str k2) kj2 kp2) p2] X.env).map (·.2) = assign (.Subscript (.Name x xp1) (.Constant (.str k1) kj1 kp1) p1) X.env :: (assignEach [.Subscript (.Name x xp2) (.Constant (.str k2) kj2 kp2) p2] X.env).map (·.2) := by rfl)
    (hs2 : (assignEach [.Subscript (.Name x xp2) (.Constant (.str k2) kj2 kp2) p2] X.env).map (·.2) = assign (.Subscript (.Name x xp2) (.Constant (.str k2) kj2 kp2) p2) X.env :: (assignEach [] X.env).map (·.2) := by rfl)
    (hN : X.N[i]? = some x := by rfl) (hv : Vis X.env.scope x := by first | exact Or.inl rfl | exact Or.inr (Or.inl rfl) | exact Or.inr (Or.inr rfl)) (hd : (x == ("__debug__" : Str)) = false := by decide) (hcd : (x == ("__classdict__" : Str)) = false := by decide) :
    P1 X (.Assign [.Tuple [.Subscript (.Name x xp1) (.Constant (.str k1) kj1 kp1) p1, .Subscript (.Name x xp2) (.Constant (.str k2) kj2 kp2) p2] kt tp] e pos) Γ D :=
  p_of (ps_asg pe_wp (pg_tup (n := 2) hc (pgs_cons (pg_sub (pe_var hN hv hd hcd) pe_str (set_dict (by have := hr.units; omega)) ha1) (pgs_cons (pg_sub (pe_var hN hv hd hcd) pe_str (set_dict (by have := hr.units; omega)) ha2) pgs_nil hs2) hs1) hn hst) hs hw h1) fun B σ F H S => wpE_mono (h B σ F H S) fun z H1 ⟨F1, P, Γ1, ⟨P1, P2, kvs, e0, hO, hl, w⟩, p, ex1, S1⟩ => by
  subst e0
  obtain ⟨t, us, rfl, ht, hu⟩ := p
  cases hu with
  | @cons u1 _ _ _ q1 hu =>
    cases hu with
    | @cons u2 _ _ _ q2 hu =>
      cases hu
      obtain ⟨d, o, e1, e2, e3, e4, ws, h3, h4, h5⟩ := S1.getO hO
      subst h3
      have hp := dk_paired h4 h5
      have hz : ws.length < sizeLine := Evl.sz_lt (by rw [Paired.length hp]; omega)
      have hp1 := dk_put (k := .inr k1) q1 hp
      obtain ⟨a1, a2⟩ := dk_unpaired hp1
      have S2 := S1.write (O' := oDK (putKF kvs (.inr k1) P1)) hO e1 ⟨_, rfl, a1, a2⟩
      have hi : i < Γ1.length := (List.getElem?_eq_some_iff.mp hO).1
      have hz1 : (L2.putK ws (.inr k1) u1).length < sizeLine := by
        have h8 := length_putK ws (.inr k1) u1
        have h9 := Paired.length hp
        exact Evl.sz_lt (by omega)
      obtain ⟨b1, b2⟩ := dk_unpaired (dk_put (k := .inr k2) q2 hp1)
      have S3 := S2.write (i := i) (O := oDK (putKF kvs (.inr k1) P1)) (O' := oDK (putKF (putKF kvs (.inr k1) P1) (.inr k2) P2)) (by rw [List.getElem?_set_self hi]) e1 ⟨_, rfl, b1, b2⟩
      rw [List.set_set] at S3
      refine ⟨t, _, rfl, Evl.ex_t S1.ex ht, rfl, _, _, rfl, .ref d, e1, d, _, rfl, DPut.k (k := .inr k1) e4 hz, _, _, rfl, .ref d, e1, d, _, rfl, DPut.k (k := .inr k2) upd_same hz1, rfl, _, F1, w, S3⟩
end
end DL

/-! DL16: a dict's keys walked by a comprehension, dict displays, borrowing, reversed copies, index, signs of a text. -/
namespace DL
open PySem L2 PyProof.Rows
/-! ### borrowing: the only object of our own is read by others, what comes back is a truth value -/
section
variable {X : Cx} {Γ : Ctx} {e a b : Expr} {pos : Pos} {W : Fct → Ctx → Prop} {WB : Bool → Ctx → Prop} {WO : Own → Ctx → Prop} {D : DE} {jr : Nat}
theorem Sat.back {B : Base} {Γ1 : Ctx} {σ : L2.St} {F F1 H H1 : Hp} {i : Nat} {O : Own} {d : Addr} {o : HO} (S : Sat B Γ σ F H) (hO : Γ[i]? = some (.ow O)) (hd : σ[i]? = some (some (.ref d))) (hF : F1 d = some o) (ho : H d = some o) (e : Ex F F1) (S1 : Sat B Γ1 σ F1 H1) (only : ∀ j O', Γ[j]? = some (.ow O') → j = i) : Sat B Γ σ F H1 := by
  refine ⟨fun c w q => S1.ex c w (e c w q), S.bF, S1.bH, S.off, S.len, fun j s ov e1 e2 => ?_, S.ap⟩
  have z := S.sl j s ov e1 e2
  cases s with
  | no => trivial
  | fz P => exact z
  | ow O' =>
    have hj := only j O' e1
    subst hj
    obtain ⟨a, u, z1, z2, z3, z4, z5⟩ := z
    subst z1
    rw [hd] at e2
    cases e2
    rw [ho] at z4
    cases z4
    exact ⟨d, o, rfl, z2, z3, S1.ex d _ hF, z5⟩
theorem PB.borrow (i : Nat) {O : Own} (hO : Γ[i]? = some (.ow O)) (only : ∀ j O', Γ[j]? = some (.ow O') → j = i) (h : PB X e (Γ.set i (.fz O.fct)) fun k _ => WB k Γ) : PB X e Γ WB := fun B σ F H S => by
  obtain ⟨d, o, e1, e2, e3, e4, e5⟩ := S.getO hO
  obtain ⟨F', ex, S'⟩ := S.freeze hO
  have hi : i < Γ.length := (List.getElem?_eq_some_iff.mp hO).1
  obtain ⟨v, q1, d', o', q2, q3, q4⟩ := S'.get (P := O.fct) (by rw [List.getElem?_set_self hi])
  rw [e1] at q1
  cases q1
  cases q2
  have hoo : o' = o := by
    have := S'.ex d o' q3
    rw [e4] at this
    exact (Option.some.inj this).symm
  subst hoo
  refine wpT_mono (h B σ F' H S') fun k H1 ⟨F1, Γ1, w, ex1, S1⟩ => ⟨F, Γ, w, Evl.Ex.refl _, ?_⟩
  exact S.back hO e1 (ex1 d _ q3) e4 (ex.trans ex1) S1 only
/-! ### {k: v, ..} -/
def PVl (X : Cx) : List Expr → Ctx → (List Fct → Ctx → Prop) → Prop
  | [], Γ, W => W [] Γ
  | e :: es, Γ, W => PV X e Γ fun P Γ1 => PVl X es Γ1 fun Ps Γ2 => W (P :: Ps) Γ2
def trsOf (X : Cx) : List Str → List Expr → List (TE × TE)
  | k :: ks, e :: es => (tC (.str k), wpE X e) :: trsOf X ks es
  | _, _ => []
theorem run_pairs {pos : Pos} : ∀ {ks : List Str} {es : List Expr} {Γ : Ctx} {W : List Fct → Ctx → Prop} {B : Base} {σ : L2.St} {F H : Hp} {Q : List (V × V) → Hp → Prop}, ks.length = es.length → PVl X es Γ W → Sat B Γ σ F H →
    (∀ vs Ps Γ' F' H', W Ps Γ' → AllP vs Ps F' → Ex F F' → Sat B Γ' σ F' H' → Q ((ks.map fun k => V.str k).zip vs) H') → tPairs (trsOf X ks es) σ H Q
  | [], [], Γ, W, B, σ, F, H, Q, _, h, S, q => q [] [] Γ F H h .nil (Evl.Ex.refl _) S
  | [], _ :: _, _, _, _, _, _, _, _, l, _, _, _ => by cases l
  | _ :: _, [], _, _, _, _, _, _, _, l, _, _, _ => by cases l
  | k :: ks, e :: es, Γ, W, B, σ, F, H, Q, l, h, S, q => by
    show wpE X e σ H _
    refine wpE_mono (h B σ F H S) fun v H1 ⟨F1, P, Γ1, w, p, ex1, S1⟩ => ?_
    refine run_pairs (pos := pos) (Nat.succ.inj l) w S1 fun vs Ps Γ' F' H' hw ps ex S' => ?_
    exact q (v :: vs) (P :: Ps) Γ' F' H' hw (.cons (P.up ex p) ps) (ex1.trans ex) S'
theorem putK_new : ∀ {ws : List (Key × V)} {k : Key} {v : V}, k ∉ ws.map (·.1) → L2.putK ws k v = ws ++ [(k, v)] := fun {ws k v} h => by
  unfold L2.putK
  rw [if_neg]
  intro z
  rw [List.any_eq_true] at z
  obtain ⟨x, hx, e⟩ := z
  exact h (List.mem_map.mpr ⟨x, hx, of_decide_eq_true e⟩)
theorem mergeK_new : ∀ {more ws : List (Key × V)}, (ws.map (·.1) ++ more.map (·.1)).Nodup → mergeK ws more = ws ++ more
  | [], ws, _ => by simp [mergeK]
  | p :: more, ws, h => by
    show mergeK (L2.putK ws p.1 p.2) more = _
    have hn : p.1 ∉ ws.map (·.1) := fun z => by
      have := (List.nodup_append.mp h).2.2 p.1 z p.1 List.mem_cons_self
      exact this rfl
    rw [putK_new hn, mergeK_new (by
      rw [List.map_append, List.append_assoc]
      exact h)]
    simp
theorem zip_fst_sub {α β : Type} : ∀ (ks : List α) (vs : List β), ((ks.zip vs).map (·.1)).Sublist ks
  | [], _ => List.Sublist.refl _
  | k :: ks, [] => List.nil_sublist _
  | k :: ks, v :: vs => (zip_fst_sub ks vs).cons_cons k
def mkKK (ks : List Str) (Ps : List Fct) : List KK := (ks.map fun k => (Sum.inr k : Key)).zip Ps
theorem n_disp {WO : Own → Ctx → Prop} {keys : List (Option Expr)} {es : List Expr} (ks : List Str) (hP : PPs X pos keys es (trsOf X ks es)) (hn : ks.Nodup) (hl : ks.length = es.length) (h : PVl X es Γ fun Ps Γ1 => WO (oDK (mkKK ks Ps)) Γ1) (hlen : es.length ≤ 15 := by decide) (hall : keys.all (·.isSome) = true := by rfl) (hkl : keys.length = es.length := by rfl) (h0 : keys ≠ [] := by intro z; cases z) : PN X (.Dict keys es pos) Γ WO :=
  n_of (pe_disp hP hall hkl h0 (by rw [hkl]; exact hlen)) fun B σ F H S D hD => by
  have fD : F D = none := Evl.fresh_back S.ex hD
  refine run_pairs (pos := pos) hl h (S.startD (o := .dK []) hD) fun vs Ps Γ' F' H' w ps ex S' => ?_
  obtain ⟨hd, S2⟩ := Sat.remD S hD S'
  have hlv : vs.length = Ps.length := ps.length
  refine ⟨hd, (ks.map fun k => (Sum.inr k : Key)).zip vs, ?_, ?_, ?_⟩
  · have key : ∀ (ks : List Str) (vs : List V), ((ks.map fun k => V.str k).zip vs) = ((ks.map fun k => (Sum.inr k : Key)).zip vs).map fun kv => (kV kv.1, kv.2) := by
      intro ks
      induction ks with
      | nil => intro vs; rfl
      | cons k ks ih =>
        intro vs
        cases vs with
        | nil => rfl
        | cons v vs =>
          exact congrArg (fun l => (V.str k, v) :: l) (ih vs)
    exact key ks vs
  · rw [List.length_zip, List.length_map]
    omega
  · have nd : (((ks.map fun k => (Sum.inr k : Key)).zip vs).map (·.1)).Nodup := by
      refine List.Nodup.sublist (zip_fst_sub _ _) ?_
      exact List.Pairwise.map _ (fun a b h z => h (Sum.inr.inj z)) hn
    have em : mergeK [] ((ks.map fun k => (Sum.inr k : Key)).zip vs) = (ks.map fun k => (Sum.inr k : Key)).zip vs := by
      rw [mergeK_new (by simpa using nd)]
      rfl
    rw [em]
    refine ⟨D, .dK ((ks.map fun k => (Sum.inr k : Key)).zip vs), F', remA H' D, _, _, rfl, ?_, remA_self, w, ⟨_, rfl, ?_, ?_⟩, ex, S2⟩
    · funext b
      by_cases hb : b = D
      · subst hb
        rw [upd_same, upd_same]
      · rw [upd_ne hb, upd_ne hb, remA_ne hb]
    · unfold mkKK
      have k2 : ∀ (ks : List Key) (vs : List V) (Ps : List Fct), vs.length = Ps.length → (ks.zip vs).map (·.1) = (ks.zip Ps).map (·.1) := by
        intro ks
        induction ks with
        | nil => intro vs Ps _; rfl
        | cons k ks ih =>
          intro vs Ps hl
          cases vs with
          | nil =>
            cases Ps with
            | nil => rfl
            | cons => cases hl
          | cons v vs =>
            cases Ps with
            | nil => cases hl
            | cons P Ps =>
              exact congrArg (fun l => k :: l) (ih vs Ps (Nat.succ.inj hl))
      exact k2 _ vs Ps hlv
    · unfold mkKK
      have k3 : ∀ (ks : List Key) (vs : List V) (Ps : List Fct), AllP vs Ps F' → AllP ((ks.zip vs).map (·.2)) ((ks.zip Ps).map (·.2)) F' := by
        intro ks
        induction ks with
        | nil => intro vs Ps _; exact .nil
        | cons k ks ih =>
          intro vs Ps hp
          cases hp with
          | nil => exact .nil
          | cons h t => exact .cons h (ih _ _ t)
      exact k3 _ vs Ps ps
end
/-! ### the keys of a dict of our own, in a comprehension -/
theorem dn_frz {X : Cx} {pins : List (Addr × Obj)} {σ : L2.St} {H : Hp} {s : Shared} {d : Addr} {o : Obj} {xs : List (NestedKey × Addr × V)} (I : Inv X pins σ H s) (h : H d = some (.frz o (DNo X.prog X.w d xs))) :
    (d == sysModules) = false ∧ s.heap.get? d = some o ∧ o.ExactDict ∧ ∃ (es : Array DictEntry) (ep : Nat), o.data = .dict es ep ∧ es.size = xs.length ∧ ∀ (i : Nat) (x : NestedKey × Addr × V), xs[i]? = some x → ∃ en : DictEntry, es[i]? = some en ∧ en.key = .ref x.2.1 := by
  obtain ⟨hd, ⟨z, hs, ys, pr, o', es, ep, ho, hx, hdt, he, _⟩, _⟩ := I.hok d _ h
  rw [hd] at ho
  cases ho
  refine ⟨hs, hd, hx, es, ep, hdt, ?_, fun i x e => ?_⟩
  · have l1 : es.size = ys.length := size_of_entries he
    have l2 : xs.length = ys.length := Paired.length pr
    omega
  · obtain ⟨b, hb, e1, e2, _⟩ := L2.paired_get pr e
    have q := entry_at he i
    rw [hb] at q
    exact ⟨_, q, by rw [e2]; rfl⟩
def Itkn (X : Cx) (d : Addr) (o : Obj) (xs : List (NestedKey × Addr × V)) : It :=
  ⟨fun i H => H d = some (.frz o (DNo X.prog X.w d xs)) ∧ i < xs.length, fun i H x H' => H' = H ∧ ∃ p, xs[i]? = some p ∧ x = .ref p.2.1, fun i H => H d = some (.frz o (DNo X.prog X.w d xs)) ∧ xs.length ≤ i⟩
theorem turn_keysN {X0 : Cx} {tg : Expr} {d : Addr} {o : Obj} {es : Array DictEntry} {ep : Nat} {xs : List (NestedKey × Addr × V)} (it : Addr) (hod : o.data = .dict es ep) : Turn X0.prog X0.w X0.K tg (Itkn X0 d o xs) [it] it (fun i h => h.IsKeyIter it d i xs.length ep) where
  mem := by simp
  obj := fun i h st b hb => by
    have e : b = it := by simpa using hb
    subst e
    obtain ⟨oi, e, c, dd⟩ := st
    exact ⟨oi, e, fun v z => by rw [dd] at z; cases z⟩
  keep := fun i h h' st k => st.at fun oi e => k it (by simp) oi e
  item := by
    intro X hP hw hK hc i pins s σ H E I hf st hg
    obtain ⟨hd, hi⟩ := hg
    rw [← hP, ← hw] at hd
    obtain ⟨f0, f1, f2, f3, f4, f5⟩ := hf it (by simp)
    obtain ⟨hs, hgd, hx, es', ep', hdt, hsz, ent⟩ := dn_frz I hd
    obtain ⟨rfl, rfl⟩ := dict_ep hod hdt
    obtain ⟨x, hkv⟩ : ∃ p, xs[i]? = some p := ⟨xs[i], List.getElem?_eq_getElem hi⟩
    obtain ⟨en, hen, hkey⟩ := ent i x hkv
    rw [← hP, ← hw]
    refine next_key_item st hgd hdt hsz hen fun h' st' sb => ?_
    have I1 : Inv X pins σ H { s with heap := h' } := I.turned (t' := s.toks) (fun b ob hb e => (sb.2 b hb).trans e) f0 f1 f3 f4 f5
    obtain ⟨oi, e, c, dd⟩ := id st'
    exact ⟨en.key, rfl, go_of (s := { s with heap := h' }) e c dd (by decide) ⟨.ref x.2.1, H, I1, hkey, ⟨rfl, x, hkv, rfl⟩, st', fun b hb => (hf b hb).1⟩⟩
  done := by
    intro X hP hw hK hc i pins s σ H E I hf st hg
    obtain ⟨hd, hi⟩ := hg
    rw [← hP, ← hw] at hd
    obtain ⟨f0, f1, f2, f3, f4, f5⟩ := hf it (by simp)
    obtain ⟨hs, hgd, hx, es', ep', hdt, hsz, ent⟩ := dn_frz I hd
    obtain ⟨rfl, rfl⟩ := dict_ep hod hdt
    rw [← hP, ← hw]
    exact next_key_end (I.ok.hd hc) st hgd hdt hsz hi fun h' eb => ⟨rfl, I.turned (t' := s.toks) (fun b ob hb e => eb b ob hb e) f0 f1 f3 f4 f5⟩
  self := fun A i s Q E st h => by
    refine wpAny_pyIter_slot st.typeIs F.slot_dict_keyiterator_iter (wpAny_call_entry F.slot_dict_keyiterator_iter st.typeIs F.entry_dict_keyiterator_iter ?_ (F.args_dict_keyiterator_iter_1 _))
    show wpAny _ _ (ret (.ref it)) _ _ s
    exact wpAny_pure ⟨_, rfl, "dict_keyiterator", _, st.typeIs, F.slot_dict_keyiterator_next.lookup, h⟩
def iKeysN (X : Cx) (td : TE) : TI := fun σ H R => td σ H fun x H1 => ∃ d o xs, x = .ref d ∧ H1 d = some (.frz o (DNo X.prog X.w d xs)) ∧ R (Itkn X d o xs) H1
theorem pi_keysN {X : Cx} {tg e : Expr} {td : TE} (he : PE X e td) : PI X tg e (iKeysN X td) := by
  refine ⟨fun pins s σ H R I h => ?_⟩
  refine thn (he.run pins s σ H _ I h) fun u s1 ⟨x, H1, I1, rx, d, o, xs, ex, hd, q⟩ => ?_
  subst ex
  obtain rfl : u = Value.ref d := rx
  obtain ⟨hs, hgd, hx, es, ep, hdt, hsz, ent⟩ := dn_frz I1 hd
  refine iter_keys hs hgd hx hdt (pi_one (tk := s1.toks) I1 _ (turn_keysN _ hdt) ⟨_, Heap.get?_push_size _ rfl, rfl, ?_⟩ q)
  rw [hsz] <;> rfl
section
variable {B : Base} {Γ : Ctx} {σ : L2.St} {F H : Hp} {i : Nat} {O : Own} {d : Addr} {o : HO}
theorem Sat.lockO {od : Obj} (S : Sat B Γ σ F H) (hO : Γ[i]? = some (.ow O)) (hd : σ[i]? = some (some (.ref d))) : Sat ⟨F, upd B.H0 d (.frz od o)⟩ (Γ.set i .no) σ F (upd H d (.frz od o)) := by
  obtain ⟨d', o', e1, e2, e3, e4, e5⟩ := S.getO hO
  rw [hd] at e1
  cases e1
  have old : ∀ (j : Nat) (O1 : Own), j ≠ i → Γ[j]? = some (.ow O1) → σ[j]? ≠ some (some (.ref d)) := fun j O1 hj e z => S.ap i j O O1 d (Ne.symm hj) hO e hd z
  refine ⟨fun c w e => ?_, Evl.Ex.refl _, fun c w e => ?_, fun c h1 h2 => h2, by rw [List.length_set]; exact S.len, fun j s ov q1 q2 => ?_, fun j k O1 O2 c hjk q1 q2 q3 q4 => ?_⟩
  · rw [upd_ne (ne_of_none e e2)]
    exact S.ex c w e
  · by_cases hc : c = d
    · subst hc
      have e : upd B.H0 c (.frz od o) c = some w := e
      rw [upd_same] at e ⊢
      exact e
    · have e : upd B.H0 d (.frz od o) c = some w := e
      rw [upd_ne hc] at e ⊢
      exact S.bH c w e
  · by_cases hj : i = j
    · subst hj
      have hi : i < Γ.length := by
        have := (List.getElem?_eq_some_iff.mp q1).1
        rw [List.length_set] at this
        exact this
      rw [List.getElem?_set_self hi] at q1
      cases q1
      trivial
    · rw [List.getElem?_set_ne hj] at q1
      have z := S.sl j s ov q1 q2
      cases s with
      | no => trivial
      | fz P => exact z
      | ow O3 =>
        obtain ⟨c, w, z1, z2, z3, z4, z5⟩ := z
        subst z1
        have nc : c ≠ d := fun zz => by
          subst zz
          exact old j O3 (Ne.symm hj) q1 q2
        exact ⟨c, w, rfl, z2, by show upd B.H0 d _ c = none; rw [upd_ne nc]; exact z3, by rw [upd_ne nc]; exact z4, z5⟩
  · have n : ∀ (m : Nat) (O3 : Own), (Γ.set i .no)[m]? = some (.ow O3) → i ≠ m := fun m O3 e z => by
      subst z
      have hi : i < Γ.length := by
        have := (List.getElem?_eq_some_iff.mp e).1
        rw [List.length_set] at this
        exact this
      rw [List.getElem?_set_self hi] at e
      cases e
    have n1 := n j O1 q1
    have n2 := n k O2 q2
    rw [List.getElem?_set_ne n1] at q1
    rw [List.getElem?_set_ne n2] at q2
    exact S.ap j k O1 O2 c hjk q1 q2 q3 q4
theorem Sat.unlockO {od : Obj} {Γ2 : Ctx} {F2 H2 : Hp} (S : Sat B Γ σ F H) (hO : Γ[i]? = some (.ow O)) (hd : σ[i]? = some (some (.ref d))) (ho : H d = some o) (S2 : Sat ⟨F, upd B.H0 d (.frz od o)⟩ Γ2 σ F2 H2) : H2 d = some (.frz od o) ∧ Ex F F2 ∧ Sat B (Γ2.set i (.ow O)) σ F2 (upd H2 d o) := by
  obtain ⟨d', o', e1, e2, e3, e4, e5⟩ := S.getO hO
  rw [hd] at e1
  cases e1
  rw [ho] at e4
  cases e4
  obtain ⟨h2, f2⟩ := S2.atD e2
  have nd : ∀ (c : Addr), upd B.H0 d (.frz od o) c = none → c ≠ d := fun c q z => by
    subst z
    rw [upd_same] at q
    cases q
  refine ⟨h2, S2.bF, fun c w e => ?_, S.bF.trans S2.bF, fun c w e => ?_, fun c h1 h2 => ?_, by rw [List.length_set]; exact S2.len, fun j s ov q1 q2 => ?_, fun j k O1 O2 c hjk q1 q2 q3 q4 => ?_⟩
  · rw [upd_ne (ne_of_none e f2)]
    exact S2.ex c w e
  · have hc : c ≠ d := ne_of_none e e3
    rw [upd_ne hc]
    exact S2.bH c w (by show upd B.H0 d _ c = some w; rw [upd_ne hc]; exact e)
  · have hc : c ≠ d := fun z => h1 (z ▸ e3)
    exact S2.off c (by show upd B.H0 d _ c ≠ none; rw [upd_ne hc]; exact h1) (S.off c h1 h2)
  · by_cases hj : i = j
    · subst hj
      have hi : i < Γ2.length := by
        have := (List.getElem?_eq_some_iff.mp q1).1
        rw [List.length_set] at this
        exact this
      rw [List.getElem?_set_self hi] at q1
      cases q1
      rw [hd] at q2
      cases q2
      exact ⟨d, o, rfl, f2, e3, upd_same, O.up S2.bF e5⟩
    · rw [List.getElem?_set_ne hj] at q1
      have z := S2.sl j s ov q1 q2
      cases s with
      | no => trivial
      | fz P => exact z
      | ow O3 =>
        obtain ⟨c, w, z1, z2, z3, z4, z5⟩ := z
        have nc := nd c z3
        have z3 : upd B.H0 d _ c = none := z3
        rw [upd_ne nc] at z3
        exact ⟨c, w, z1, z2, z3, by rw [upd_ne nc]; exact z4, z5⟩
  · have off : ∀ (m : Nat) (O3 : Own), (Γ2.set i (.ow O))[m]? = some (.ow O3) → i ≠ m → Γ2[m]? = some (.ow O3) ∧ σ[m]? ≠ some (some (.ref d)) := fun m O3 e hm => by
      rw [List.getElem?_set_ne hm] at e
      refine ⟨e, fun z => ?_⟩
      obtain ⟨c, w, z1, z2, z3, _⟩ := S2.getO e
      rw [z] at z1
      cases z1
      exact nd d z3 rfl
    by_cases hj : i = j
    · subst hj
      rw [hd] at q3
      cases q3
      exact (off k O2 q2 hjk).2 q4 |>.elim
    · by_cases hk : i = k
      · subst hk
        rw [hd] at q4
        cases q4
        exact (off j O1 q1 hj).2 q3 |>.elim
      · exact S2.ap j k O1 O2 c hjk (off j O1 q1 hj).1 (off k O2 q2 hk).1 q3 q4
end
section
variable {X : Cx} {Γ : Ctx} {elt tg : Expr} {scope : Scope} {own : List (Str × Nat)} {pos : Pos} {W : Fct → Ctx → Prop} {j : Nat}
/-- [elt for x in d], d a dict of our own -/
theorem v_lcKeys (i0 : Nat) {x : Str} {xpos : Pos} {kvs : List KF} (g : NestedKey → Fct) (ok : BlkOk X.N X.env.scope scope own) (hN : X.N.Nodup) (hj : j ∈ own.map (·.2)) (hg : ∀ s H C cl fp, PG (X.blk s H scope (compEnvC scope cl C X.env) fp) tg (gName j))
    (hO : Γ[i0]? = some (.ow (oDN X.prog X.w X.K kvs))) (hlen : kvs.length ≤ 50000)
    (he : ∀ kv ∈ kvs, PVb X scope elt ((wipeC (Γ.set i0 .no) (own.map (·.2))).set j (.fz (fKey X.K kv.1))) fun R Γ2 => R = g kv.1 ∧ Γ2 = (wipeC (Γ.set i0 .no) (own.map (·.2))).set j (.fz (fKey X.K kv.1)))
    (hW : W (fLst X.K (kvs.map fun kv => g kv.1)) ((wipeC (Γ.set i0 .no) (own.map (·.2))).set i0 (.ow (oDN X.prog X.w X.K kvs))))
    (hNx : X.N[i0]? = some x := by rfl) (hv : Vis X.env.scope x := by first | exact Or.inl rfl | exact Or.inr (Or.inl rfl) | exact Or.inr (Or.inr rfl)) (hd : (x == ("__debug__" : Str)) = false := by decide) (hcd : (x == ("__classdict__" : Str)) = false := by decide)
    (hc : X.calm = true := by rfl) (hs : ∀ v, foldedSetIterable (.Name x xpos) X.env v = pure v := by intro _; rfl) : PV X (.ListComp elt [⟨tg, .Name x xpos, [], 0⟩] scope pos) Γ W :=
  v_of (pe_lock (pe_lc hc hN (pi_keysN (pe_var hNx hv hd hcd)) ok hg (fun s H C cl fp => pts_all (X := X) (ifs := []) s H C cl fp) (fun s H C cl fp => pe_all s H C cl fp) hs)) fun B σ F H S => by
  obtain ⟨d, o, e1, e2, e3, e4, xs, e5, q⟩ := S.getO hO
  subst e5
  refine ⟨d, _, e4, trivial, fun od => ?_⟩
  have S1 := S.lockO (od := od) (o := DNo X.prog X.w d xs) hO e1
  have hlx : xs.length = kvs.length := Paired.length q
  refine ⟨.ref d, e1, d, od, xs, rfl, upd_same, ?_⟩
  generalize hvs : own.map (·.2) = vs at *
  intro D hD
  have hne : D ≠ d := fun z => by
    rw [z, upd_same] at hD
    cases hD
  have fD : F D = none := Evl.fresh_back S1.ex hD
  have wk : Walk (Itkn X d od xs) xs.length (fun H => H d = some (.frz od (DNo X.prog X.w d xs))) (fun i H x H' => H' = H ∧ ∃ p, xs[i]? = some p ∧ x = .ref p.2.1) := ⟨fun _ _ hi q => ⟨q, hi⟩, fun _ q => ⟨q, Nat.le_refl _⟩, fun _ _ _ _ _ _ y => y⟩
  refine lc_it wk (fun i H => ∃ F2 acc, AllP acc ((kvs.take i).map fun kv => g kv.1) F2 ∧ acc.length ≤ i ∧ Sat ⟨F, upd (upd B.H0 d (.frz od (DNo X.prog X.w d xs))) D (.lst acc)⟩ (wipeC (Γ.set i0 .no) vs) (L2.wipe σ vs) F2 H) ⟨F, [], .nil, Nat.le_refl _, (S1.wipe vs).startD hD⟩ (fun i H _ ⟨F2, acc, _, _, S2⟩ => S2.bH d _ (by show upd (upd B.H0 d _) D _ d = _; rw [upd_ne (Ne.symm hne), upd_same])) ?_ ?_
  · rintro i xv H H' hlt ⟨F2, acc, al, hle, S2⟩ ⟨rfl, p, hp, rfl⟩
    obtain ⟨kv, hkv, hk1, hk2, hk3, hk4⟩ := LiI.paired_get q hp
    have hm : kv ∈ kvs := List.mem_of_getElem? hkv
    have et : kvs.take (i + 1) = kvs.take i ++ [kv] := by
      rw [List.take_add_one, hkv]
      rfl
    have S3 := S2.set (i := j) (P := fKey X.K kv.1) (v := .ref p.2.1) ⟨by rw [← hk1]; exact NKV.up S2.bF _ _ hk2, _, rfl⟩
    refine ⟨wipe_set hj, allTs_nil_run ?_⟩
    dsimp -failIfUnchanged only
    rw [if_pos rfl]
    refine allE_run (he kv hm) S3 ?_
    rintro v H4 F4 R Γ4 ⟨rfl, rfl⟩ p4 ex4 S4
    refine ⟨acc, (S4.atD fD).1, Nat.lt_of_le_of_lt hle (Nat.lt_of_lt_of_le hlt (Evl.sz_of (by omega))), F4, acc ++ [v], ?_, ?_, ?_⟩
    · rw [et, List.map_append]
      exact (al.up ex4).append (.cons p4 .nil)
    · rw [List.length_append, List.length_singleton]
      omega
    · have S5 := (S4.stepD (o' := .lst (acc ++ [v])) fD).wipe vs
      rw [wipe_set hj, wipeC_set hj] at S5
      exact S5
  · rintro H3 ⟨F2, acc, al, hle, S2⟩
    rw [hlx, List.take_length] at al
    obtain ⟨ex, S3⟩ := Sat.endD S1 hD S2
    have S4 := S3.unwipe
    rw [wipeC_twice] at S4
    obtain ⟨h3, ex2, S5⟩ := S.unlockO hO e1 e4 S4
    exact ⟨h3, _, _, _, hW, ⟨D, acc, rfl, upd_same, al.up ex⟩, ex2, S5⟩
end
/-! ### signs of a text, reversed copies, index -/
section
variable {X : Cx} {Γ : Ctx} {e a : Expr} {pos : Pos} {W : Fct → Ctx → Prop} {jr : Nat}
theorem i_str {tg : Expr} {WI : List Fct → Ctx → Prop} (h : PV X e Γ fun P Γ1 => ∃ z : Str, P = fStr z ∧ WI (z.cps.toList.map fun c => fStr ⟨#[c]⟩) Γ1) : DI X tg e Γ WI := fun B σ F H S => wpI_of (pi_str pe_wp) (wpE_mono (h B σ F H S) fun v H1 ⟨F1, P, Γ1, ⟨z, e1, w⟩, p, ex1, S1⟩ => by
  subst e1
  have p : v = .str z := p
  subst p
  refine ⟨z, rfl, F1, _, Γ1, w, ⟨fun _ => True, fun i H v H' => H' = H ∧ ∃ c, z.cps[i]? = some c ∧ v = .str ⟨#[c]⟩, ?_, fun _ _ => trivial, ?_⟩, ex1, S1⟩
  · rw [List.length_map, Array.length_toList]
    exact walk_str
  · rintro i P H x H' F2 ef eh hP ⟨rfl, c, hc, rfl⟩
    rw [List.getElem?_map, Array.getElem?_toList, hc] at hP
    cases hP
    exact ⟨F2, rfl, Grow.refl eh⟩)
theorem v_revL {k : Nat} {p1 p2 p3 : Pos} (h : PV X e Γ fun P Γ1 => ∃ Ps, P = fLst X.K Ps ∧ W (fLst X.K Ps.reverse) Γ1) : PV X (.Subscript e (.Slice none none (some (.UnaryOp .USub (.Constant (.int 1) k p1) p2)) p3) pos) Γ W :=
  v_of (pe_revL pe_wp) fun B σ F H S => wpE_mono (h B σ F H S) fun v H1 ⟨F1, P, Γ1, ⟨Ps, e1, w⟩, p, ex1, S1⟩ => by
  subst e1
  obtain ⟨a, xs, h1, h2, h3⟩ := p
  refine ⟨a, xs, h1, SqL.of (S1.ex a _ h2), fun l hl => ?_⟩
  have g := Grow.new (o := .lst xs.reverse) S1.ex hl
  exact ⟨_, _, Γ1, w, ⟨l, _, rfl, upd_same, h3.reverse.up g.f⟩, ex1.trans g.f, S1.grow g⟩
def rIxTup (K : PySem.W.Frag) : V → List V → Hp → VK → Prop := fun x xs H Q => ∃ p, ∃ ys : List Str, ∃ z j, x = .ref p ∧ xs = [.str z] ∧ SqT K H p (ys.map V.str) ∧ ys[j]? = some z ∧ (∀ m, m < j → ys[m]? ≠ some z) ∧ Q (.int (j : Nat)) H
theorem mt_ixTup : MtR X "tuple.index" (rIxTup X.K) := mt_tup_index
theorem om_ixTup {K : PySem.W.Frag} {l : List Str} {z : Str} {j : Nat} (h1 : l[j]? = some z) (h2 : ∀ m, m < j → l[m]? ≠ some z) : OpM (rIxTup K) (fTup K (l.map fStr)) [fStr z] (fInt (j : Nat)) := fun v vs F H ex p ps Q q => by
  obtain ⟨a, xs, rfl, q2, q3⟩ := p
  have e := allP_map q3
  subst e
  have e := allP_fV (ys := [.str z]) ps
  subst e
  exact ⟨a, l, z, j, rfl, rfl, Evl.ex_t ex q2, h1, h2, q _ F H rfl (Grow.refl ex)⟩
theorem om_ixLst {K : PySem.W.Frag} {l : List Str} {z : Str} {j : Nat} (h1 : l[j]? = some z) (h2 : ∀ m, m < j → l[m]? ≠ some z) : OpM (rIndex K) (fLst K (l.map fStr)) [fStr z] (fInt (j : Nat)) := fun v vs F H ex p ps Q q => by
  obtain ⟨a, xs, rfl, q2, q3⟩ := p
  have e := allP_map q3
  subst e
  have e := allP_fV (ys := [.str z]) ps
  subst e
  have eqs : ∀ x y : Str, eqV (V.str x) (V.str y) = decide (x = y) := fun x y => by
    unfold eqV
    first | rfl | simp [beq_eq_decide]
  refine ⟨a, l.map V.str, .str z, j, .str z, rfl, rfl, SqL.of (ex a _ q2), rfl, by simp [flatV], by rw [List.getElem?_map, h1]; rfl, by rw [eqs]; simp, fun m z' hm hz => ?_, q _ F H rfl (Grow.refl ex)⟩
  rw [List.getElem?_map] at hz
  cases hl : l[m]? with
  | none =>
    rw [hl] at hz
    cases hz
  | some u =>
    rw [hl] at hz
    cases hz
    show eqV (V.str u) (V.str z) = false
    rw [eqs]
    exact decide_eq_false fun e => h2 m hm (by rw [hl, e])
/-- tuples whose object is known to have no dict -/
def fTupN (K : PySem.W.Frag) (Ps : List Fct) : Fct := ⟨fun v H => ∃ a o xs, v = .ref a ∧ H a = some (.frz o (.tup xs)) ∧ o.dict = none ∧ AllP xs Ps H, fun e h => by
  obtain ⟨a, o, xs, h1, h2, h3, h4⟩ := h
  exact ⟨a, o, xs, h1, e a _ h2, h3, h4.up e⟩⟩
theorem fTupN_tup {K : PySem.W.Frag} {Ps : List Fct} {v : V} {F : Hp} (h : (fTupN K Ps).p v F) : (fTup K Ps).p v F := by
  obtain ⟨a, o, xs, h1, h2, _, h4⟩ := h
  exact ⟨a, xs, h1, .inl (.inr ⟨o, h2⟩), h4⟩
def rTupleN (X : Cx) : List V → Hp → VK → Prop := fun vs H Q => ∃ p ys, vs = [.ref p] ∧ SqL X.K H p ys ∧ ∀ l o, H l = none → o.dict = none → Q (.ref l) (upd H l (.frz o (.tup ys)))
theorem call_tplN : CallR X (.type "tuple") (rTupleN X) := by
  intro pins s σ H xs us Q I r h
  obtain ⟨p, ys, rfl, hq, q⟩ := h
  obtain ⟨u, rfl, rx⟩ := vals1 r
  cases rx
  obtain ⟨its, r', pl, hz⟩ := I.list hq
  have hlen := r'.length
  refine call_tuple_list pl.isList (fun h' kp => ?_) (by rw [List.size_toArray]; omega)
  have I1 : Inv X pins σ H { s with heap := h' } := I.kept (t' := s.toks) kp
  have I2 : Inv X pins σ (upd H h'.objs.size (.frz { cls := .type "tuple", data := .seq its.toArray } (.tup ys))) { s with heap := h'.push { cls := .type "tuple", data := .seq its.toArray } } :=
    I1.laid (t' := s.toks) (fun b o e => Heap.get?_push_of_some _ e) (Nat.le_refl _) (show ObjOk X.prog X.w _ _ _ (.frz _ (.tup ys)) from ⟨Heap.get?_push_size _ rfl, hz, its, r', IsTup.new _ _⟩)
  exact ⟨.ref h'.objs.size, _, I2, rfl, q _ _ (I1.hok.fresh (Nat.le_refl _)) rfl⟩
theorem oc_tupleN {Ps : List Fct} : OpC (rTupleN X) [fLst X.K Ps] (fTupN X.K Ps) := fun vs F H ex ps Q q => by
  cases ps with
  | cons p1 ps =>
    cases ps
    obtain ⟨a, xs, rfl, h2, h3⟩ := p1
    refine ⟨a, xs, rfl, SqL.of (ex a _ h2), fun l o hl hd => ?_⟩
    have g := Grow.new (o := .frz o (.tup xs)) ex hl
    exact q _ _ _ ⟨l, o, xs, rfl, upd_same, hd, h3.up g.f⟩ g
def tyTN (x : V) (H : Hp) : Prop := ∃ a o xs, x = .ref a ∧ H a = some (.frz o (.tup xs)) ∧ o.dict = none
theorem tytn_ok : TyOk X "tuple" tyTN := by
  intro pins σ H s x v I rx h
  obtain ⟨d, o, xs, rfl, hd, hn⟩ := h
  cases rx
  obtain ⟨h1, z, its, r, o', h2, h3, _⟩ := I.hok d _ hd
  rw [h1] at h2
  cases h2
  exact ⟨⟨o, h1, h3⟩, fun a e => by cases e; exact ⟨o, h1, hn⟩⟩
theorem f_tytn {Ps : List Fct} : FTy X (fTupN X.K Ps) tyTN := fun v F H ex h => by
  obtain ⟨a, o, xs, h1, h2, h3, _⟩ := h
  exact ⟨a, o, xs, h1, ex a _ h2, h3⟩
theorem om_ixTupN {K : PySem.W.Frag} {l : List Str} {z : Str} {j : Nat} (h1 : l[j]? = some z) (h2 : ∀ m, m < j → l[m]? ≠ some z) : OpM (rIxTup K) (fTupN K (l.map fStr)) [fStr z] (fInt (j : Nat)) := fun v vs F H ex p ps Q q => om_ixTup h1 h2 v vs F H ex (fTupN_tup p) ps Q q
end
end DL

/-! DL17: for t in ts: for x in t: users.setdefault(x, []).append(t). -/
namespace DL
open PySem L2 PyProof.Rows
abbrev Triple := Thing × Thing × Thing
def Triple.things (t : Triple) : List Thing := [t.1, t.2.1, t.2.2]
def fTriple (K : PySem.W.Frag) (t : Triple) : Fct := fTup K (t.things.map (fThing K))
def kThing (t : Thing) : NestedKey := .tup [.num t.1, .text t.2]
theorem fThing_key {K : PySem.W.Frag} {t : Thing} : fThing K t = fKey K (kThing t) := Fct.ext fun v F => by
  constructor
  · rintro ⟨a, xs, rfl, h2, h3⟩
    cases h3 with
    | cons q1 h3 =>
      cases h3 with
      | cons q2 h3 =>
        cases h3
        have q1 : _ = V.int t.1 := q1
        have q2 : _ = V.str t.2 := q2
        subst q1 q2
        exact ⟨.tup h2 (.cons (.int _) (.cons (.str _) .nil)), _, rfl⟩
  · rintro ⟨h, a, rfl⟩
    cases h with
    | tup h1 h2 =>
      cases h2 with
      | cons q1 h2 =>
        cases h2 with
        | cons q2 h2 =>
          cases h2
          cases q1
          cases q2
          exact ⟨a, _, rfl, h1, .cons rfl (.cons rfl .nil)⟩
theorem kThing_depth (t : Thing) : (kThing t).depth ≤ 8 := by
  unfold kThing
  show NestedKey.depth _ ≤ 8
  simp [NestedKey.depth, NestedKey.depthAll]
theorem keyF_thing {K : PySem.W.Frag} {t : Thing} : KeyF K (fThing K t) (kThing t) := by
  rw [fThing_key]
  exact keyF_fKey (kThing_depth t)
theorem kThing_inj {t u : Thing} (h : kThing t = kThing u) : t = u := by
  unfold kThing at h
  injection h with h
  injection h with h1 h2
  injection h2 with h2 _
  injection h1 with h1
  injection h2 with h2
  exact Prod.ext h1 h2
def fUse (K : PySem.W.Frag) (T : List Triple) : Fct := fEx fun l : {l : List Triple // ∀ t ∈ l, t ∈ T} => fLst K (l.1.map (fTriple K))
section
variable {X : Cx}
abbrev LsE := Addr × List V × List Triple
structure US (X : Cx) (B : Base) (T : List Triple) (iu : Nat) (Γx : Ctx) (n : Nat) (σ : L2.St) (F H : Hp) (G : Hp) (ls : List LsE) (kvs : List (NestedKey × Addr)) : Prop where
  S : Sat ⟨F, G⟩ (Γx.set iu (.ow (oDN X.prog X.w X.K (kvs.map fun x => (x.1, fRef x.2))))) σ F H
  bF : Ex B.F0 F
  off : ∀ b, B.H0 b ≠ none → B.F0 b = none → F b = none
  l1 : ∀ l ∈ ls, G l.1 = some (.lst l.2.1)
  l2 : ∀ l ∈ ls, F l.1 = none
  l3 : ∀ l ∈ ls, B.H0 l.1 = none
  l4 : ∀ l ∈ ls, AllP l.2.1 (l.2.2.map (fTriple X.K)) F
  l5 : ∀ l ∈ ls, ∀ t ∈ l.2.2, t ∈ T
  l6 : ∀ l ∈ ls, l.2.1.length ≤ n
  k1 : ∀ kv ∈ kvs, ∃ l ∈ ls, l.1 = kv.2
  k2 : kvs.length ≤ n
  g : ∀ c, c ∉ ls.map (·.1) → G c = B.H0 c
theorem us_start {B : Base} {T : List Triple} {iu : Nat} {Γ : Ctx} {σ : L2.St} {F H : Hp} (S : Sat B Γ σ F H) (h : Γ[iu]? = some (.ow (oDN X.prog X.w X.K []))) : US X B T iu Γ 0 σ F H B.H0 [] [] := by
  have hi : iu < Γ.length := (List.getElem?_eq_some_iff.mp h).1
  have e : Γ.set iu (.ow (oDN X.prog X.w X.K [])) = Γ := by
    apply List.ext_getElem?
    intro j
    by_cases hj : iu = j
    · subst hj
      rw [List.getElem?_set_self hi, h]
    · rw [List.getElem?_set_ne hj]
  refine ⟨?_, S.bF, S.off, ?_, ?_, ?_, ?_, ?_, ?_, ?_, Nat.le_refl _, fun c _ => rfl⟩
  · show Sat ⟨F, B.H0⟩ (Γ.set iu (.ow (oDN X.prog X.w X.K []))) σ F H
    rw [e]
    exact S.rebase
  all_goals intro l hl; cases hl
theorem US.set {B : Base} {T : List Triple} {iu i n : Nat} {Γ : Ctx} {σ : L2.St} {F H G : Hp} {ls : List LsE} {kvs : List (NestedKey × Addr)} (U : US X B T iu Γ n σ F H G ls kvs) (hne : i ≠ iu) {P : Fct} {v : V} (p : P.p v F) : US X B T iu (Γ.set i (.fz P)) n (σ.set i (some v)) F H G ls kvs := by
  refine ⟨?_, U.bF, U.off, U.l1, U.l2, U.l3, U.l4, U.l5, U.l6, U.k1, U.k2, U.g⟩
  have S2 := U.S.set (i := i) p
  rw [List.set_comm _ _ (Ne.symm hne)] at S2
  exact S2
theorem US.weak {B : Base} {T : List Triple} {iu n : Nat} {Γ Γ' : Ctx} {σ : L2.St} {F H G : Hp} {ls : List LsE} {kvs : List (NestedKey × Addr)} (U : US X B T iu Γ n σ F H G ls kvs) (w : ∀ s, Weak (Γ.set iu s) (Γ'.set iu s)) : US X B T iu Γ' n σ F H G ls kvs :=
  ⟨U.S.weak (w _), U.bF, U.off, U.l1, U.l2, U.l3, U.l4, U.l5, U.l6, U.k1, U.k2, U.g⟩
theorem US.more {B : Base} {T : List Triple} {iu n m : Nat} {Γ : Ctx} {σ : L2.St} {F H G : Hp} {ls : List LsE} {kvs : List (NestedKey × Addr)} (U : US X B T iu Γ n σ F H G ls kvs) (h : n ≤ m) : US X B T iu Γ m σ F H G ls kvs :=
  ⟨U.S, U.bF, U.off, U.l1, U.l2, U.l3, U.l4, U.l5, fun l hl => Nat.le_trans (U.l6 l hl) h, U.k1, Nat.le_trans U.k2 h, U.g⟩
/-- a list that stands grows -/
theorem US.grow1 {B : Base} {T : List Triple} {iu n : Nat} {Γ : Ctx} {σ : L2.St} {F H G : Hp} {ls : List LsE} {kvs : List (NestedKey × Addr)} (U : US X B T iu Γ n σ F H G ls kvs) {l : LsE} (hl : l ∈ ls) {t : Triple} {tv : V} (ht : t ∈ T) (pt : (fTriple X.K t).p tv F) {p : Addr} {o : HO} (hp : H p = none) :
    ∃ G' ls', US X B T iu Γ (n + 1) σ F (upd (upd H p o) l.1 (.lst (l.2.1 ++ [tv]))) G' ls' kvs := by
  have S1 := U.S.grow (Grow.apart (o := o) U.S.ex hp)
  have eG : G = upd G l.1 (.lst l.2.1) := (upd_self (U.l1 l hl)).symm
  have S2 : Sat ⟨F, upd G l.1 (.lst l.2.1)⟩ (Γ.set iu (.ow (oDN X.prog X.w X.K (kvs.map fun x => (x.1, fRef x.2))))) σ F (upd H p o) := by
    rw [← eG]
    exact S1
  have S3 := S2.stepD (o' := .lst (l.2.1 ++ [tv])) (U.l2 l hl)
  have same : ∀ m ∈ ls, m.1 = l.1 → m.2.1 = l.2.1 := fun m hm e => by
    have h1 := U.l1 m hm
    rw [e, U.l1 l hl] at h1
    injection h1 with h1
    injection h1 with h1
    exact h1.symm
  refine ⟨upd G l.1 (.lst (l.2.1 ++ [tv])), ls.map fun m => if m.1 = l.1 then (m.1, m.2.1 ++ [tv], m.2.2 ++ [t]) else m, ⟨S3, U.bF, U.off, ?_, ?_, ?_, ?_, ?_, ?_, ?_, Nat.le_succ_of_le U.k2, ?_⟩⟩
  · intro q hq
    obtain ⟨m, hm, rfl⟩ := List.mem_map.mp hq
    by_cases e : m.1 = l.1
    · rw [if_pos e]
      show upd G l.1 _ m.1 = some (.lst (m.2.1 ++ [tv]))
      rw [e, upd_same, same m hm e]
    · rw [if_neg e, upd_ne e]
      exact U.l1 m hm
  · intro q hq
    obtain ⟨m, hm, rfl⟩ := List.mem_map.mp hq
    split
    · exact U.l2 m hm
    · exact U.l2 m hm
  · intro q hq
    obtain ⟨m, hm, rfl⟩ := List.mem_map.mp hq
    split
    · exact U.l3 m hm
    · exact U.l3 m hm
  · intro q hq
    obtain ⟨m, hm, rfl⟩ := List.mem_map.mp hq
    split
    · show AllP (m.2.1 ++ [tv]) ((m.2.2 ++ [t]).map (fTriple X.K)) F
      rw [List.map_append]
      exact (U.l4 m hm).append (.cons pt .nil)
    · exact U.l4 m hm
  · intro q hq
    obtain ⟨m, hm, rfl⟩ := List.mem_map.mp hq
    split
    · intro u hu
      rcases List.mem_append.mp hu with hu | hu
      · exact U.l5 m hm u hu
      · rw [List.mem_singleton.mp hu]
        exact ht
    · exact U.l5 m hm
  · intro q hq
    obtain ⟨m, hm, rfl⟩ := List.mem_map.mp hq
    split
    · show (m.2.1 ++ [tv]).length ≤ n + 1
      rw [List.length_append, List.length_singleton]
      exact Nat.succ_le_succ (U.l6 m hm)
    · exact Nat.le_succ_of_le (U.l6 m hm)
  · intro kv hkv
    obtain ⟨m, hm, e⟩ := U.k1 kv hkv
    refine ⟨_, List.mem_map.mpr ⟨m, hm, rfl⟩, ?_⟩
    split
    · exact e
    · exact e
  · intro c hc
    have en : (ls.map fun m => if m.1 = l.1 then (m.1, m.2.1 ++ [tv], m.2.2 ++ [t]) else m).map (·.1) = ls.map (·.1) := by
      rw [List.map_map]
      apply List.map_congr_left
      intro m _
      show (if m.1 = l.1 then (m.1, m.2.1 ++ [tv], m.2.2 ++ [t]) else m).1 = m.1
      split <;> rfl
    rw [en] at hc
    have hne : c ≠ l.1 := fun z => hc (z ▸ List.mem_map.mpr ⟨l, hl, rfl⟩)
    rw [upd_ne hne]
    exact U.g c hc
/-- a new key with a new list -/
theorem US.add {B : Base} {T : List Triple} {iu n : Nat} {Γ : Ctx} {σ : L2.St} {F H G : Hp} {ls : List LsE} {kvs : List (NestedKey × Addr)} (U : US X B T iu Γ n σ F H G ls kvs) (hiu : iu < Γ.length) {t : Triple} {tv : V} (ht : t ∈ T) (pt : (fTriple X.K t).p tv F) {p d a : Addr} {k : NestedKey} {xs : List (NestedKey × Addr × V)} (hp : H p = none) (hd : σ[iu]? = some (some (.ref d)))
    (hx : Paired (DnF X.K F) xs (kvs.map fun x => (x.1, fRef x.2))) (hk : NKV X.K F k (.ref a)) (hdp : k.depth ≤ 8) (hno : lkF (kvs.map fun x => (x.1, fRef x.2)) k = none) :
    ∃ G' ls' kvs', US X B T iu Γ (n + 1) σ F (upd (upd (upd H p (.lst [])) d (DNo X.prog X.w d (putX xs k a (.ref p)))) p (.lst [tv])) G' ls' kvs' := by
  have S1 := U.S.startD (o := .lst []) hp
  have hlt : iu < (Γ.set iu (.ow (oDN X.prog X.w X.K (kvs.map fun x => (x.1, fRef x.2))))).length := by rw [List.length_set]; exact hiu
  have S2 := S1.write (i := iu) (O' := oDN X.prog X.w X.K ((kvs ++ [(k, p)]).map fun x => (x.1, fRef x.2))) (by rw [List.getElem?_set_self hiu]) hd ⟨putX xs k a (.ref p), rfl, by
    have h := dnf_put (v := .ref p) (R := fRef p) hk hdp rfl hx
    unfold ptF at h
    rw [hno] at h
    rw [List.map_append]
    exact h⟩
  rw [List.set_set] at S2
  have fp : F p = none := Evl.fresh_back U.S.ex hp
  have gp : G p = none := Evl.fresh_back U.S.bH hp
  have S3 := S2.stepD (o' := .lst [tv]) fp
  have newp : ∀ l ∈ ls, l.1 ≠ p := fun l hl z => by
    have := U.l1 l hl
    rw [z, gp] at this
    cases this
  have bp : p ∉ ls.map (·.1) := fun z => by
    obtain ⟨l, hl, e⟩ := List.mem_map.mp z
    exact newp l hl e
  refine ⟨upd G p (.lst [tv]), ls ++ [(p, [tv], [t])], kvs ++ [(k, p)], ⟨S3, U.bF, U.off, ?_, ?_, ?_, ?_, ?_, ?_, ?_, ?_, ?_⟩⟩
  · intro l hl
    rcases List.mem_append.mp hl with hl | hl
    · rw [upd_ne (newp l hl)]
      exact U.l1 l hl
    · rw [List.mem_singleton.mp hl]
      exact upd_same
  · intro l hl
    rcases List.mem_append.mp hl with hl | hl
    · exact U.l2 l hl
    · rw [List.mem_singleton.mp hl]
      exact fp
  · intro l hl
    rcases List.mem_append.mp hl with hl | hl
    · exact U.l3 l hl
    · rw [List.mem_singleton.mp hl]
      show B.H0 p = none
      rw [← U.g p bp]
      exact gp
  · intro l hl
    rcases List.mem_append.mp hl with hl | hl
    · exact U.l4 l hl
    · rw [List.mem_singleton.mp hl]
      exact .cons pt .nil
  · intro l hl
    rcases List.mem_append.mp hl with hl | hl
    · exact U.l5 l hl
    · rw [List.mem_singleton.mp hl]
      intro u hu
      rw [List.mem_singleton.mp hu]
      exact ht
  · intro l hl
    rcases List.mem_append.mp hl with hl | hl
    · exact Nat.le_succ_of_le (U.l6 l hl)
    · rw [List.mem_singleton.mp hl]
      show 1 ≤ n + 1
      omega
  · intro kv hkv
    rcases List.mem_append.mp hkv with hkv | hkv
    · obtain ⟨l, hl, e⟩ := U.k1 kv hkv
      exact ⟨l, List.mem_append_left _ hl, e⟩
    · rw [List.mem_singleton.mp hkv]
      exact ⟨_, List.mem_append_right _ List.mem_cons_self, rfl⟩
  · rw [List.length_append, List.length_singleton]
    exact Nat.succ_le_succ U.k2
  · intro c hc
    rw [List.map_append] at hc
    have h1 : c ∉ ls.map (·.1) := fun z => hc (List.mem_append_left _ z)
    have h2 : c ≠ p := fun z => hc (List.mem_append_right _ (by rw [z]; exact List.mem_cons_self))
    rw [upd_ne h2]
    exact U.g c h1
/-- all lists become known -/
theorem US.done {B : Base} {T : List Triple} {iu n : Nat} {Γ : Ctx} {σ : L2.St} {F H G : Hp} {ls : List LsE} {kvs : List (NestedKey × Addr)} (U : US X B T iu Γ n σ F H G ls kvs) (hiu : iu < Γ.length) : ∃ F', Sat B (Γ.set iu (.ow (oDN X.prog X.w X.K (kvs.map fun x => (x.1, fUse X.K T))))) σ F' H := by
  have S := U.S
  have inl : ∀ c, c ∈ ls.map (·.1) → ∃ l ∈ ls, l.1 = c := fun c h => by
    obtain ⟨l, hl, e⟩ := List.mem_map.mp h
    exact ⟨l, hl, e⟩
  refine ⟨fun c => if c ∈ ls.map (·.1) then G c else F c, ?_⟩
  have exF : Ex F (fun c => if c ∈ ls.map (·.1) then G c else F c) := fun c w e => by
    show (if c ∈ ls.map (·.1) then G c else F c) = some w
    rw [if_neg (fun z => by
      obtain ⟨l, hl, rfl⟩ := inl c z
      rw [U.l2 l hl] at e
      cases e)]
    exact e
  have offl : ∀ c, G c = none → c ∉ ls.map (·.1) := fun c e z => by
    obtain ⟨l, hl, rfl⟩ := inl c z
    rw [U.l1 l hl] at e
    cases e
  have hB : ∀ b, B.H0 b ≠ none → b ∉ ls.map (·.1) := fun b h z => by
    obtain ⟨l, hl, rfl⟩ := inl b z
    exact h (U.l3 l hl)
  refine ⟨fun c w e => ?_, U.bF.trans exF, fun c w e => ?_, fun b h1 h2 => ?_, ?_, fun i s ov e1 e2 => ?_, fun i j O1 O2 c hij e1 e2 e3 => ?_⟩
  · have e : (if c ∈ ls.map (·.1) then G c else F c) = some w := e
    split at e
    · exact S.bH c w e
    · exact S.ex c w e
  · refine S.bH c w ?_
    show G c = some w
    rw [U.g c (hB c (by rw [e]; exact fun z => nomatch z))]
    exact e
  · show (if b ∈ ls.map (·.1) then G b else F b) = none
    rw [if_neg (hB b h1)]
    exact U.off b h1 h2
  · rw [List.length_set]
    have := S.len
    rw [List.length_set] at this
    exact this
  · by_cases hi : iu = i
    · subst hi
      rw [List.getElem?_set_self hiu] at e1
      cases e1
      have z := S.sl iu _ ov (by rw [List.getElem?_set_self hiu]) e2
      obtain ⟨d, o, z1, z2, z3, z4, xs, z5, z6⟩ := z
      have nd := offl d z3
      refine ⟨d, o, z1, by show (if _ then _ else _) = none; rw [if_neg nd]; exact z2, by rw [← U.g d nd]; exact z3, z4, xs, z5, ?_⟩
      have key : ∀ (kvs0 : List (NestedKey × Addr)) (xs : List (NestedKey × Addr × V)), (∀ kv ∈ kvs0, ∃ l ∈ ls, l.1 = kv.2) → Paired (DnF X.K F) xs (kvs0.map fun x => (x.1, fRef x.2)) → Paired (DnF X.K fun c => if c ∈ ls.map (·.1) then G c else F c) xs (kvs0.map fun x => (x.1, fUse X.K T)) := by
        intro kvs0
        induction kvs0 with
        | nil =>
          intro xs _ h
          cases h
          exact .nil
        | cons kv kvs0 ih =>
          intro xs hk h
          cases h with
          | cons r t =>
            refine .cons ⟨r.1, NKV.up exF _ _ r.2.1, r.2.2.1, ?_⟩ (ih _ (fun q hq => hk q (List.mem_cons_of_mem _ hq)) t)
            obtain ⟨l, hl, e⟩ := hk kv List.mem_cons_self
            have r4 : _ = V.ref kv.2 := r.2.2.2
            rw [r4]
            refine ⟨⟨l.2.2, U.l5 l hl⟩, kv.2, l.2.1, rfl, ?_, (U.l4 l hl).up exF⟩
            show (if kv.2 ∈ ls.map (·.1) then G kv.2 else F kv.2) = _
            rw [if_pos (by rw [← e]; exact List.mem_map.mpr ⟨l, hl, rfl⟩), ← e]
            exact U.l1 l hl
      exact key kvs xs U.k1 z6
    · rw [List.getElem?_set_ne hi] at e1
      have z := S.sl i s ov (by rw [List.getElem?_set_ne hi]; exact e1) e2
      cases s with
      | no => trivial
      | fz P =>
        obtain ⟨v, q1, q2⟩ := z
        exact ⟨v, q1, P.up exF q2⟩
      | ow O =>
        obtain ⟨d, o, z1, z2, z3, z4, z5⟩ := z
        have nd := offl d z3
        exact ⟨d, o, z1, by show (if _ then _ else _) = none; rw [if_neg nd]; exact z2, by rw [← U.g d nd]; exact z3, z4, O.up exF z5⟩
  · have conv : ∀ (m : Nat) (O3 : Own), (Γ.set iu (.ow (oDN X.prog X.w X.K (kvs.map fun x => (x.1, fUse X.K T)))))[m]? = some (.ow O3) → ∃ O4, (Γ.set iu (.ow (oDN X.prog X.w X.K (kvs.map fun x => (x.1, fRef x.2)))))[m]? = some (.ow O4) := fun m O3 e => by
      by_cases hm : iu = m
      · subst hm
        exact ⟨_, List.getElem?_set_self hiu⟩
      · rw [List.getElem?_set_ne hm] at e
        exact ⟨O3, by rw [List.getElem?_set_ne hm]; exact e⟩
    obtain ⟨O4, q1⟩ := conv i O1 e1
    obtain ⟨O5, q2⟩ := conv j O2 e2
    exact S.ap i j O4 O5 c hij q1 q2 e3
/-- users.setdefault(x, []).append(t) -/
theorem us_stmt {jr : Nat} {B : Base} {T : List Triple} {iu it ih n : Nat} {Γ : Ctx} {σ : L2.St} {F H G : Hp} {ls : List LsE} {kvs : List (NestedKey × Addr)} {D : Ends} {t : Triple} {h : Thing} {xu xt xh : Str} {pu pt ph pl pa1 pa2 pc1 pc2 ps : Pos} (hr : Room jr X.A) (U : US X B T iu Γ n σ F H G ls kvs) (hiu : iu < Γ.length) (hz : n < 50000) (ht : t ∈ T) (gt : Γ[it]? = some (.fz (fTriple X.K t))) (gh : Γ[ih]? = some (.fz (fThing X.K h))) (n1 : it ≠ iu) (n2 : ih ≠ iu)
    (hD : ∀ H' G' ls' kvs', US X B T iu Γ (n + 1) σ F H' G' ls' kvs' → D.nx σ H')
    (hNu : X.N[iu]? = some xu) (hNt : X.N[it]? = some xt) (hNh : X.N[ih]? = some xh) (vu : Vis X.env.scope xu) (vt : Vis X.env.scope xt) (vh : Vis X.env.scope xh)
    (du : (xu == ("__debug__" : Str)) = false) (du2 : (xu == ("__classdict__" : Str)) = false) (dt : (xt == ("__debug__" : Str)) = false) (dt2 : (xt == ("__classdict__" : Str)) = false) (dh : (xh == ("__debug__" : Str)) = false) (dh2 : (xh == ("__classdict__" : Str)) = false)
    (hsw : swapsWith (.Call (.Attribute (.Call (.Attribute (.Name xu pu) "setdefault" pa1) [.Name xh ph, .List [] pl] [] pc1) "append" pa2) [.Name xt pt] [] pc2) none ps.line X.env = pure false)
    (hb1 : attributeBase (.Name xu pu) "setdefault" X.env (eval (.Name xu pu) X.env) = eval (.Name xu pu) X.env)
    (hf1 : ((backTo pc1 (starEach [.Name xh ph, .List [] pl] X.env)).all (fun x => !x.1) && (backToKw pc1 (keywordEach [] X.env)).all (fun x => x.1.isSome) && decide (([.Name xh ph, .List [] pl] : List Expr).length + ([] : List Keyword).length + (if ([] : List Keyword).isEmpty then 0 else 1) < 30)) = true)
    (hl1 : (pa1.endLine == pc1.line) = true) (hs1 : starEach [.Name xh ph, .List [] pl] X.env = (false, eval (.Name xh ph) X.env) :: starEach [.List [] pl] X.env) (hs1b : starEach [.List [] pl] X.env = (false, eval (.List [] pl) X.env) :: starEach [] X.env) (hp1 : (backTo pc1 (starEach [.List [] pl] X.env)).any (·.1) = false)
    (hb2 : attributeBase (.Call (.Attribute (.Name xu pu) "setdefault" pa1) [.Name xh ph, .List [] pl] [] pc1) "append" X.env (eval (.Call (.Attribute (.Name xu pu) "setdefault" pa1) [.Name xh ph, .List [] pl] [] pc1) X.env) = eval (.Call (.Attribute (.Name xu pu) "setdefault" pa1) [.Name xh ph, .List [] pl] [] pc1) X.env)
    (hf2 : ((backTo pc2 (starEach [.Name xt pt] X.env)).all (fun x => !x.1) && (backToKw pc2 (keywordEach [] X.env)).all (fun x => x.1.isSome) && decide (([.Name xt pt] : List Expr).length + ([] : List Keyword).length + (if ([] : List Keyword).isEmpty then 0 else 1) < 30)) = true)
    (hl2 : (pa2.endLine == pc2.line) = true) (hs2 : starEach [.Name xt pt] X.env = (false, eval (.Name xt pt) X.env) :: starEach [] X.env) (hp2 : (backTo pc2 (starEach [] X.env)).any (·.1) = false) :
    wpS X (.Expr (.Call (.Attribute (.Call (.Attribute (.Name xu pu) "setdefault" pa1) [.Name xh ph, .List [] pl] [] pc1) "append" pa2) [.Name xt pt] [] pc2) ps) D σ H := by
  refine wpS_of (ps_expr (pe_mG tyl_ok PySem.F.plainAttrs_list PySem.F.slot_list_append PySem.F.type_list_append mt_append
    (pe_mG ty_N PySem.F.plainAttrs_dict PySem.F.slot_dict_setdefault PySem.F.type_dict_setdefault (mt_setdN hr) (pe_var hNu vu du du2) (pa_cons (pe_var hNh vh dh dh2) (pa_cons (pe_lst pa_nil) pa_nil hs1b) hs1) hb1 hf1 hl1 hs1 hp1)
    (pa_cons (pe_var hNt vt dt dt2) pa_nil hs2) hb2 hf2 hl2 hs2 hp2) hsw) ?_
  have S := U.S
  obtain ⟨d, o, e1, e2, e3, e4, xs, e5, q⟩ := S.getO (i := iu) (by rw [List.getElem?_set_self hiu])
  subst e5
  obtain ⟨tv, t1, t2⟩ := S.get (i := it) (by rw [List.getElem?_set_ne (Ne.symm n1)]; exact gt)
  obtain ⟨hv, h1, h2⟩ := S.get (i := ih) (by rw [List.getElem?_set_ne (Ne.symm n2)]; exact gh)
  rw [fThing_key] at h2
  obtain ⟨k1, a, rfl⟩ := h2
  have hdp := kThing_depth h
  refine ⟨.ref d, e1, ⟨d, xs, rfl, ndat_of S.ex e4 q⟩, .ref a, h1, by show 0 ≤ sizeLine; decide, fun p hp => ?_⟩
  have exp : Ex H (upd H p (.lst [])) := Evl.Ex.new hp
  have hdp' : d ≠ p := ne_of_none e4 hp
  refine ⟨d, xs, kThing h, a, .ref p, rfl, rfl, ndat_of (S.ex.trans exp) (exp d _ e4) q, NKV.up (S.ex.trans exp) _ _ k1, hdp, fun b v e => ?_, fun e => ⟨Evl.sz_lt (by
    have h9 := Paired.length q
    rw [List.length_map] at h9
    have := U.k2
    omega), ?_⟩⟩
  · rcases dnf_at (kThing h) q with ⟨z1, _⟩ | ⟨b', v', R', z1, z2, z3⟩
    · rw [e] at z1
      cases z1
    · rw [e] at z1
      cases z1
      have hm : ∃ kv ∈ kvs, R' = fRef kv.2 := by
        unfold lkF at z2
        obtain ⟨y, y1, y2⟩ := Option.map_eq_some_iff.mp z2
        obtain ⟨kv, hkv, e6⟩ := List.mem_map.mp (List.mem_of_find?_eq_some y1)
        subst e6
        exact ⟨kv, hkv, y2.symm⟩
      obtain ⟨kv, hkv, rfl⟩ := hm
      have z3 : v = .ref kv.2 := z3
      subst z3
      obtain ⟨l, hl, el⟩ := U.k1 kv hkv
      have hlp : H l.1 = some (.lst l.2.1) := S.bH _ _ (U.l1 l hl)
      have hlp2 : upd H p (.lst []) kv.2 = some (.lst l.2.1) := by
        rw [← el]
        exact exp _ _ hlp
      refine ⟨⟨kv.2, l.2.1, rfl, SqL.of hlp2⟩, tv, t1, kv.2, l.2.1, tv, rfl, rfl, hlp2, Evl.sz_lt (by have := U.l6 l hl; omega), ?_⟩
      obtain ⟨G', ls', U'⟩ := U.grow1 hl ht t2 (o := .lst []) hp
      rw [el] at U'
      exact hD _ _ _ _ U'
  · rcases dnf_at (kThing h) q with ⟨_, z2⟩ | ⟨b', v', R', z1, _, _⟩
    · have hpp : upd (upd H p (.lst [])) d (DNo X.prog X.w d (putX xs (kThing h) a (.ref p))) p = some (.lst []) := by rw [upd_ne (Ne.symm hdp'), upd_same]
      refine ⟨⟨p, [], rfl, SqL.of hpp⟩, tv, t1, p, [], tv, rfl, rfl, hpp, Evl.sz_lt (by show 0 < 100000; decide), ?_⟩
      obtain ⟨G', ls', kvs', U'⟩ := U.add hiu ht t2 hp e1 q k1 hdp z2
      exact hD _ _ _ _ U'
    · rw [e] at z1
      cases z1
theorem US.step {B : Base} {T : List Triple} {iu n : Nat} {Γ : Ctx} {σ σ2 : L2.St} {F H F2 H2 G : Hp} {ls : List LsE} {kvs : List (NestedKey × Addr)} (U : US X B T iu Γ n σ F H G ls kvs) {Γ2 : Ctx} (S2 : Sat ⟨F, G⟩ (Γ2.set iu (.ow (oDN X.prog X.w X.K (kvs.map fun x => (x.1, fRef x.2))))) σ2 F2 H2) : US X B T iu Γ2 n σ2 F2 H2 G ls kvs := by
  refine ⟨S2.rebase, U.bF.trans S2.bF, fun b h1 h2 => ?_, U.l1, fun l hl => ?_, U.l3, fun l hl => (U.l4 l hl).up S2.bF, U.l5, U.l6, U.k1, U.k2, U.g⟩
  · refine S2.off b ?_ (U.off b h1 h2)
    show G b ≠ none
    rw [U.g b fun z => by
      obtain ⟨l, hl, e⟩ := List.mem_map.mp z
      exact h1 (e ▸ U.l3 l hl)]
    exact h1
  · refine S2.off l.1 ?_ (U.l2 l hl)
    show G l.1 ≠ none
    rw [U.l1 l hl]
    exact fun z => nomatch z
theorem weak_no {Γ : Ctx} {i iu : Nat} {s0 s : Slot} (_h : i ≠ iu) : Weak ((Γ.set i s0).set iu s) ((Γ.set i .no).set iu s) := by
  refine ⟨by simp, fun j s' e => ?_⟩
  by_cases hj : iu = j
  · subst hj
    right
    left
    by_cases hl : iu < Γ.length
    · rw [List.getElem?_set_self (by rw [List.length_set]; exact hl)] at e ⊢
      exact e
    · rw [List.getElem?_eq_none (by simp; omega)] at e
      cases e
  · rw [List.getElem?_set_ne hj] at e
    by_cases hi : i = j
    · subst hi
      by_cases hl : i < Γ.length
      · rw [List.getElem?_set_self hl] at e
        exact .inl (Option.some.inj e).symm
      · rw [List.getElem?_eq_none (by simp; omega)] at e
        cases e
    · right
      left
      rw [List.getElem?_set_ne hj, List.getElem?_set_ne hi]
      rw [List.getElem?_set_ne hi] at e
      exact e
theorem p_users {jr : Nat} {T : List Triple} {iT iu it ih : Nat} {Γ : Ctx} {D : DE} {xT xu xt xh : Str} {pT pt0 pt1 ph0 pu pt ph pl pa1 pa2 pc1 pc2 ps pf1 pf2 : Pos} (hr : Room jr X.A) (hN : X.N.Nodup) (gT : Γ[iT]? = some (.fz (fLst X.K (T.map (fTriple X.K))))) (gU : Γ[iu]? = some (.ow (oDN X.prog X.w X.K []))) (hz : T.length ≤ 1000)
    (hD : ∀ kvs : List (NestedKey × Addr), D.nx (((Γ.set it .no).set ih .no).set iu (.ow (oDN X.prog X.w X.K (kvs.map fun x => (x.1, fUse X.K T))))))
    (htl : it < Γ.length := by simp) (hhl : ih < Γ.length := by simp) (n1 : it ≠ iu := by decide) (n2 : ih ≠ iu := by decide) (n3 : it ≠ ih := by decide) (n4 : iT ≠ iu := by decide) (n5 : iT ≠ it := by decide) (n6 : iT ≠ ih := by decide)
    (hNT : X.N[iT]? = some xT := by rfl) (hNu : X.N[iu]? = some xu := by rfl) (hNt : X.N[it]? = some xt := by rfl) (hNh : X.N[ih]? = some xh := by rfl) (vT : Vis X.env.scope xT := by first | exact Or.inl rfl | exact Or.inr (Or.inl rfl) | exact Or.inr (Or.inr rfl)) (vu : Vis X.env.scope xu := by first | exact Or.inl rfl | exact Or.inr (Or.inl rfl) | exact Or.inr (Or.inr rfl)) (vt : Vis X.env.scope xt := by first | exact Or.inl rfl | exact Or.inr (Or.inl rfl) | exact Or.inr (Or.inr rfl)) (vh : Vis X.env.scope xh := by first | exact Or.inl rfl | exact Or.inr (Or.inl rfl) | exact Or.inr (Or.inr rfl))
    (dT : (xT == ("__debug__" : Str)) = false := by decide) (dT2 : (xT == ("__classdict__" : Str)) = false := by decide)
    (du : (xu == ("__debug__" : Str)) = false := by decide) (du2 : (xu == ("__classdict__" : Str)) = false := by decide) (dt : (xt == ("__debug__" : Str)) = false := by decide) (dt2 : (xt == ("__classdict__" : Str)) = false := by decide) (dh : (xh == ("__debug__" : Str)) = false := by decide) (dh2 : (xh == ("__classdict__" : Str)) = false := by decide)
    (lt : Loc X.env.scope xt := by first | exact Or.inl rfl | exact Or.inr rfl) (lh : Loc X.env.scope xh := by first | exact Or.inl rfl | exact Or.inr rfl) (ft : X.fn xt = true ∨ X.env.scope.names.lookup xt = some .local := by first | exact .inl rfl | exact .inr rfl) (fh : X.fn xh = true ∨ X.env.scope.names.lookup xh = some .local := by first | exact .inl rfl | exact .inr rfl)
    (hsw : swapsWith (.Call (.Attribute (.Call (.Attribute (.Name xu pu) "setdefault" pa1) [.Name xh ph, .List [] pl] [] pc1) "append" pa2) [.Name xt pt] [] pc2) none ps.line X.env = pure false := by rfl)
    (hb1 : attributeBase (.Name xu pu) "setdefault" X.env (eval (.Name xu pu) X.env) = eval (.Name xu pu) X.env := by rfl)
    (hf1 : ((backTo pc1 (starEach [.Name xh ph, .List [] pl] X.env)).all (fun x => !x.1) && (backToKw pc1 (keywordEach [] X.env)).all (fun x => x.1.isSome) && decide (([.Name xh ph, .List [] pl] : List Expr).length + ([] : List Keyword).length + (if ([] : List Keyword).isEmpty then 0 else 1) < 30)) = true := by rfl)
    (hl1 : (pa1.endLine == pc1.line) = true := by rfl) (hs1 : starEach [.Name xh ph, .List [] pl] X.env = (false, eval (.Name xh ph) X.env) :: starEach [.List [] pl] X.env := by rfl) (hs1b : starEach [.List [] pl] X.env = (false, eval (.List [] pl) X.env) :: starEach [] X.env := by rfl) (hp1 : (backTo pc1 (starEach [.List [] pl] X.env)).any (·.1) = false := by rfl)
    (hb2 : attributeBase (.Call (.Attribute (.Name xu pu) "setdefault" pa1) [.Name xh ph, .List [] pl] [] pc1) "append" X.env (eval (.Call (.Attribute (.Name xu pu) "setdefault" pa1) [.Name xh ph, .List [] pl] [] pc1) X.env) = eval (.Call (.Attribute (.Name xu pu) "setdefault" pa1) [.Name xh ph, .List [] pl] [] pc1) X.env := by rfl)
    (hf2 : ((backTo pc2 (starEach [.Name xt pt] X.env)).all (fun x => !x.1) && (backToKw pc2 (keywordEach [] X.env)).all (fun x => x.1.isSome) && decide (([.Name xt pt] : List Expr).length + ([] : List Keyword).length + (if ([] : List Keyword).isEmpty then 0 else 1) < 30)) = true := by rfl)
    (hl2 : (pa2.endLine == pc2.line) = true := by rfl) (hs2 : starEach [.Name xt pt] X.env = (false, eval (.Name xt pt) X.env) :: starEach [] X.env := by rfl) (hp2 : (backTo pc2 (starEach [] X.env)).any (·.1) = false := by rfl)
    (hc : X.calm = true := by rfl) (hp : PassesOwn (model X.prog X.w) X.A X.env X.xe := by exact PassesOwn.never) (hi1 : ∀ x, foldedSetIterable (.Name xT pT) X.env x = pure x := by intro _; rfl) (hi2 : ∀ x, foldedSetIterable (.Name xt pt1) X.env x = pure x := by intro _; rfl) :
    P1 X (.For (.Name xt pt0) (.Name xT pT) [.For (.Name xh ph0) (.Name xt pt1) [.Expr (.Call (.Attribute (.Call (.Attribute (.Name xu pu) "setdefault" pa1) [.Name xh ph, .List [] pl] [] pc1) "append" pa2) [.Name xt pt] [] pc2) ps] [] pf2] [] pf1) Γ D := by
  have pgt : PG X (.Name xt pt0) (gName it) := pg_name hN hNt lt ft
  have pgh : PG X (.Name xh ph0) (gName ih) := pg_name hN hNh lh fh
  refine p_of (ps_for hp hc pi_wp pgt (pss_wp (st := _)) hi1) fun B σ F H S => ?_
  have hiu : iu < Γ.length := (List.getElem?_eq_some_iff.mp gU).1
  have hit : it < Γ.length ∨ ¬ it < Γ.length := Classical.em _
  have DIo : DI X (.Name xt pt0) (.Name xT pT) Γ fun Ps Γ1 => Ps = T.map (fTriple X.K) ∧ Γ1 = Γ := i_list (v_var iT ⟨_, gT, _, rfl, rfl, rfl⟩ hNT vT dT dT2)
  refine wpI_mono (DIo B σ F H S) ?_
  rintro J H1 ⟨F1, Ps, Γ1, ⟨rfl, eΓ⟩, ⟨G1, Y, wk, hG, hY⟩, ex1, S1⟩
  rw [eΓ] at S1
  have hlen : σ.length = Γ.length := S.len.symm
  have U0 := us_start (T := T) S1 gU
  have hw0 : ∀ s, Weak (Γ.set iu s) (((Γ.set it .no).set ih .no).set iu s) := fun s => by
    refine ⟨by simp, fun j s' e => ?_⟩
    by_cases hj : iu = j
    · subst hj
      rw [List.getElem?_set_self (by simp; exact hiu)] at e
      right
      left
      rw [List.getElem?_set_self hiu]
      exact e
    · rw [List.getElem?_set_ne hj] at e ⊢
      by_cases hh : ih = j
      · subst hh
        by_cases hl : ih < Γ.length
        · rw [List.getElem?_set_self (by simp; exact hl)] at e
          exact .inl (Option.some.inj e).symm
        · rw [List.getElem?_eq_none (by simp; omega)] at e
          cases e
      · rw [List.getElem?_set_ne hh] at e
        by_cases ht : it = j
        · subst ht
          by_cases hl : it < Γ.length
          · rw [List.getElem?_set_self hl] at e
            exact .inl (Option.some.inj e).symm
          · rw [List.getElem?_eq_none (by simp; omega)] at e
            cases e
        · rw [List.getElem?_set_ne ht] at e
          exact .inr (.inl e)
  refine for_it wk (fun i σ' H' => ∃ n F' G ls kvs, n ≤ 3 * i ∧ US X B T iu ((Γ.set it .no).set ih .no) n σ' F' H' G ls kvs ∧ Ex F1 F') ⟨0, F1, _, _, _, Nat.le_refl _, U0.weak hw0, Evl.Ex.refl _⟩ (fun i σ' H' _ ⟨n, F', G, ls, kvs, _, U, exF⟩ => hG H' (exF.trans U.S.ex)) ?_ ?_
  · rintro i x σ' H' H2 hlt ⟨n, F', G, ls, kvs, hn, U, exF⟩ y
    have hlt0 := hlt
    rw [List.length_map] at hlt
    have hx : T[i]? = some T[i] := List.getElem?_eq_getElem hlt
    generalize T[i] = t at hx
    have htm : t ∈ T := List.mem_of_getElem? hx
    have hP : (T.map (fTriple X.K))[i]? = some (fTriple X.K t) := by rw [List.getElem?_map, hx]; rfl
    obtain ⟨F2, px, gr⟩ := hY i _ H' x H2 F' exF U.S.ex hP y
    have U2 := (U.step (U.S.grow gr)).set (i := it) n1 px
    show wpSs X _ _ _ _
    refine wpSs_of (pss_one ps_wp) (wpS_of (ps_for hp hc pi_wp pgh (pss_wp (st := _)) hi2) ?_)
    have gt : (((Γ.set it .no).set ih .no).set it (.fz (fTriple X.K t)))[it]? = some (.fz (fTriple X.K t)) := List.getElem?_set_self (by simp; exact htl)
    generalize hΓc : (((Γ.set it .no).set ih .no).set it (.fz (fTriple X.K t))) = Γc at *
    have hcl : Γc.length = Γ.length := by rw [← hΓc]; simp
    have DIi : DI X (.Name xh ph0) (.Name xt pt1) (Γc.set iu (.ow (oDN X.prog X.w X.K (kvs.map fun x => (x.1, fRef x.2))))) fun Ps Γ1 => Ps = t.things.map (fThing X.K) ∧ Γ1 = Γc.set iu (.ow (oDN X.prog X.w X.K (kvs.map fun x => (x.1, fRef x.2)))) := i_tup (v_var it ⟨_, by rw [List.getElem?_set_ne (Ne.symm n1)]; exact gt, _, rfl, rfl, rfl⟩ hNt vt dt dt2)
    refine wpI_mono (DIi _ _ _ _ U2.S) ?_
    rintro J2 H3 ⟨F3, Ps2, Γ3, ⟨rfl, eΓ3⟩, ⟨G3, Y3, wk3, hG3, hY3⟩, ex3, S3⟩
    rw [eΓ3] at S3
    have U3 := U2.step S3
    have t3 : t.things.length = 3 := rfl
    refine for_it wk3 (fun j σ' H' => ∃ m F' G ls kvs, m ≤ 3 * i + j ∧ US X B T iu Γc m σ' F' H' G ls kvs ∧ Ex F3 F' ∧ Ex F1 F') ⟨n, F3, _, _, _, by omega, U3, Evl.Ex.refl _, (exF.trans gr.f).trans ex3⟩ (fun j σ' H' _ ⟨m, F', G, ls, kvs, _, U, exF, _⟩ => hG3 H' (exF.trans U.S.ex)) ?_ ?_
    · rintro j x2 σ2 H4 H5 hj ⟨m, F4, G4, ls4, kvs4, hm, U4, exF4, exG4⟩ y2
      have hj0 := hj
      rw [List.length_map] at hj
      have hx2 : t.things[j]? = some t.things[j] := List.getElem?_eq_getElem hj
      generalize t.things[j] = h at hx2
      have hP2 : (t.things.map (fThing X.K))[j]? = some (fThing X.K h) := by rw [List.getElem?_map, hx2]; rfl
      obtain ⟨F5, px5, gr5⟩ := hY3 j _ H4 x2 H5 F4 exF4 U4.S.ex hP2 y2
      have U5 := (U4.step (U4.S.grow gr5)).set (i := ih) n2 px5
      show wpSs X _ _ _ _
      have hji : 3 * i + j < 50000 := by
        rw [t3] at hj
        omega
      refine wpSs_of (pss_one ps_wp) (us_stmt hr U5 (by rw [List.length_set, hcl]; exact hiu) (by omega) htm (by rw [List.getElem?_set_ne (Ne.symm n3)]; exact gt) (List.getElem?_set_self (by rw [hcl]; exact hhl)) n1 n2 ?_ hNu hNt hNh vu vt vh du du2 dt dt2 dh dh2 hsw hb1 hf1 hl1 hs1 hs1b hp1 hb2 hf2 hl2 hs2 hp2)
      intro H6 G6 ls6 kvs6 U6
      refine ⟨m + 1, F5, G6, ls6, kvs6, by omega, ?_, exF4.trans gr5.f, exG4.trans gr5.f⟩
      refine U6.weak fun s => ?_
      have w := weak_no (Γ := Γc) (i := ih) (iu := iu) (s0 := .fz (fThing X.K h)) (s := s) n2
      have e : Γc.set ih .no = Γc := by
        apply List.ext_getElem?
        intro q
        by_cases hq : ih = q
        · subst hq
          rw [List.getElem?_set_self (by rw [hcl]; exact hhl), ← hΓc, List.getElem?_set_ne n3, List.getElem?_set_self (by simp; exact hhl)]
        · rw [List.getElem?_set_ne hq]
      rw [e] at w
      exact w
    · rintro σ2 H4 ⟨m, F4, G4, ls4, kvs4, hm, U4, exF4, exG4⟩
      rw [List.length_map, t3] at hm
      refine ⟨m, F4, G4, ls4, kvs4, by omega, ?_, exG4⟩
      refine U4.weak fun s => ?_
      have w := weak_no (Γ := (Γ.set it .no).set ih .no) (i := it) (iu := iu) (s0 := .fz (fTriple X.K t)) (s := s) n1
      rw [hΓc] at w
      have e : ((Γ.set it .no).set ih .no).set it .no = (Γ.set it .no).set ih .no := by
        rw [List.set_comm _ _ (Ne.symm n3), List.set_set]
      rw [e] at w
      exact w
  · rintro σ' H' ⟨n, F', G, ls, kvs, hn, U, exF⟩
    obtain ⟨F2, S2⟩ := U.done (by simp; exact hiu)
    exact ⟨_, F2, hD kvs, S2⟩
end
section
variable {X : Cx} {scope : Scope} {elt : Expr} {j : Nat} {W : Fct → Ctx → Prop}
/-- a pure comprehension without a test -/
theorem lcw_map {α : Type} {vs : List Nat} {Γ1 : Ctx} (hj : j ∈ vs) (xs : List α) (f g : α → Fct) (hl : xs.length ≤ 50000)
    (h : ∀ x ∈ xs, PVb X scope elt ((wipeC Γ1 vs).set j (.fz (f x))) fun R Γ3 => R = g x ∧ Γ3 = (wipeC Γ1 vs).set j (.fz (f x)))
    (hW : W (fLst X.K (xs.map g)) (wipeC Γ1 vs)) : LcW X scope elt [] vs j Γ1 (xs.map f) W := by
  refine lcw_of hj xs f g (fun _ => true) hl (fun x hx => ⟨rfl, rfl, fun _ => h x hx⟩) ?_
  have e : xs.filter (fun _ => true) = xs := List.filter_eq_self.mpr fun _ _ => rfl
  rw [e]
  exact hW
/-- one with a test -/
theorem lcw_filter {α : Type} {c : Expr} {vs : List Nat} {Γ1 : Ctx} (hj : j ∈ vs) (xs : List α) (f g : α → Fct) (k : α → Bool) (hl : xs.length ≤ 50000)
    (h1 : ∀ x ∈ xs, ∀ s H0 C cl fp, PB (bX X scope s H0 C cl fp) c ((wipeC Γ1 vs).set j (.fz (f x))) fun b Γ2 => b = k x ∧ Γ2 = (wipeC Γ1 vs).set j (.fz (f x)))
    (h2 : ∀ x ∈ xs, k x = true → PVb X scope elt ((wipeC Γ1 vs).set j (.fz (f x))) fun R Γ3 => R = g x ∧ Γ3 = (wipeC Γ1 vs).set j (.fz (f x)))
    (hW : W (fLst X.K ((xs.filter k).map g)) (wipeC Γ1 vs)) : LcW X scope elt [c] vs j Γ1 (xs.map f) W :=
  lcw_of hj xs f g k hl (fun x hx s H0 C cl fp => (h1 x hx s H0 C cl fp).imp fun b Γ2 ⟨e1, e2⟩ => ⟨e1, e2, fun e => h2 x hx e⟩) hW
end
section
variable {X : Cx} {pos : Pos}
theorem pgn (i : Nat) {x : Str} (hN : X.N.Nodup) (hi : X.N[i]? = some x := by rfl) (hx : Loc X.env.scope x := by first | exact Or.inl rfl | exact Or.inr rfl) (hf : X.fn x = true ∨ X.env.scope.names.lookup x = some .local := by first | exact .inl rfl | exact .inr rfl) : PG X (.Name x pos) (gName i) := pg_name hN hi hx hf
end
end DL

/-! DL18: ==, !=, in over typed data. -/
namespace DL
open PySem L2 PyProof.Rows
open PySem.W (Datum Tup)
section
variable {X : Cx} {α : Type} [DecidableEq α] [Datum α]
/-- the fact holds the datum x -/
def TyD (K : PySem.W.Frag) (P : Fct) (x : α) : Prop := DatF K P (Datum.toD x)
def rEqT (K : PySem.W.Frag) (α : Type) [DecidableEq α] [Datum α] : R2 := fun u v H Q => ∃ x y : α, Dp K H u (Datum.toD x) ∧ Dp K H v (Datum.toD y) ∧ Q (.bl (decide (x = y))) H
def rNeT (K : PySem.W.Frag) (α : Type) [DecidableEq α] [Datum α] : R2 := fun u v H Q => ∃ x y : α, Dp K H u (Datum.toD x) ∧ Dp K H v (Datum.toD y) ∧ Q (.bl (decide (x ≠ y))) H
theorem holds_dp {pins : List (Addr × Obj)} {σ : L2.St} {H : Hp} {s : Shared} {v : V} {u : Value} {x : α} (I : Inv X pins σ H s) (h : Dp X.K H v (Datum.toD x)) (r : RelV v u) : PySem.W.Holds s.heap u x := Dp.reads I _ _ _ h r
theorem op_eqT {j : Nat} (hr : Room j X.A) (hd : Datum.depth α ≤ 40) : OpR X (compareOp .Eq) (rEqT X.K α) := by
  intro pins s σ H x y v u Q I rx ry h
  obtain ⟨a, b, h1, h2, q⟩ := h
  have hu := hr.units
  exact PySem.W.eq_datum (holds_dp I h1 rx) (holds_dp I h2 ry) (by omega) ⟨.bl _, H, I, rfl, q⟩
theorem op_neT {j : Nat} (hr : Room j X.A) (hd : Datum.depth α ≤ 40) : OpR X (compareOp .NotEq) (rNeT X.K α) := by
  intro pins s σ H x y v u Q I rx ry h
  obtain ⟨a, b, h1, h2, q⟩ := h
  have hu := hr.units
  exact PySem.W.ne_datum (holds_dp I h1 rx) (holds_dp I h2 ry) (by omega) ⟨.bl _, H, I, rfl, q⟩
theorem o2_eqT {K : PySem.W.Frag} {P P' : Fct} {x y : α} (h : TyD K P x) (h' : TyD K P' y) : Op2 (rEqT K α) P P' (fBl (decide (x = y))) := fun v v' F H ex p p' Q q => ⟨x, y, dp_up ex _ v (h v F p), dp_up ex _ v' (h' v' F p'), q _ F H rfl (Grow.refl ex)⟩
theorem o2_neT {K : PySem.W.Frag} {P P' : Fct} {x y : α} (h : TyD K P x) (h' : TyD K P' y) : Op2 (rNeT K α) P P' (fBl (decide (x ≠ y))) := fun v v' F H ex p p' Q q => ⟨x, y, dp_up ex _ v (h v F p), dp_up ex _ v' (h' v' F p'), q _ F H rfl (Grow.refl ex)⟩
/-- x in xs, xs a list or a tuple -/
def rInT (K : PySem.W.Frag) (α : Type) [DecidableEq α] [Datum α] (neg : Bool) : R2 := fun u v H Q => ∃ (x : α) (xs : List α) (a : Addr) (vs : List V), v = .ref a ∧ Dp K H u (Datum.toD x) ∧ (SqL K H a vs ∨ SqT K H a vs) ∧ DpAll K H vs (xs.map Datum.toD) ∧ Q (.bl (if neg then decide (x ∉ xs) else decide (x ∈ xs))) H
theorem dpAll_reads {pins : List (Addr × Obj)} {σ : L2.St} {H : Hp} {s : Shared} (I : Inv X pins σ H s) : ∀ (ds : List PyData) (vs : List V) (us : List Value), DpAll X.K H vs ds → Vals vs us → ∃ as, ReadsAll s.heap us ds as
  | [], _, _, h, r => by
    cases h
    cases r
    exact ⟨_, .nil⟩
  | d :: ds, _, _, h, r => by
    cases h with
    | cons h1 h2 =>
      cases r with
      | cons r1 r2 =>
        obtain ⟨as, a1⟩ := Dp.reads I d _ _ h1 r1
        obtain ⟨bs, a2⟩ := dpAll_reads I ds _ _ h2 r2
        exact ⟨_, .cons a1 a2⟩
theorem op_inT {j : Nat} (hr : Room j X.A) (hd : Datum.depth α ≤ 40) : OpR X (compareOp .In) (rInT X.K α false) := by
  intro pins s σ H x y v u Q I rx ry h
  obtain ⟨a, xs, p, vs, rfl, h1, h2, h3, q⟩ := h
  cases ry
  have hu := hr.units
  rcases h2 with h2 | h2
  · obtain ⟨its, r, pl, _⟩ := I.list h2
    obtain ⟨as, ra⟩ := dpAll_reads I _ _ _ h3 r
    exact PySem.W.in_list_datum pl.isList ⟨as, by simpa using ra⟩ (holds_dp I h1 rx) (by omega) ⟨.bl _, H, I, rfl, q⟩
  · obtain ⟨its, r, pl, _⟩ := I.tuple h2
    obtain ⟨as, ra⟩ := dpAll_reads I _ _ _ h3 r
    exact PySem.W.in_tuple_datum pl ⟨as, by simpa using ra⟩ (holds_dp I h1 rx) (by omega) ⟨.bl _, H, I, rfl, q⟩
theorem op_notInT {j : Nat} (hr : Room j X.A) (hd : Datum.depth α ≤ 40) : OpR X (compareOp .NotIn) (rInT X.K α true) := by
  intro pins s σ H x y v u Q I rx ry h
  obtain ⟨a, xs, p, vs, rfl, h1, h2, h3, q⟩ := h
  cases ry
  have hu := hr.units
  rcases h2 with h2 | h2
  · obtain ⟨its, r, pl, _⟩ := I.list h2
    obtain ⟨as, ra⟩ := dpAll_reads I _ _ _ h3 r
    exact PySem.W.notIn_list_datum pl.isList ⟨as, by simpa using ra⟩ (holds_dp I h1 rx) (by omega) ⟨.bl _, H, I, rfl, q⟩
  · obtain ⟨its, r, pl, _⟩ := I.tuple h2
    obtain ⟨as, ra⟩ := dpAll_reads I _ _ _ h3 r
    exact PySem.W.notIn_tuple_datum pl ⟨as, by simpa using ra⟩ (holds_dp I h1 rx) (by omega) ⟨.bl _, H, I, rfl, q⟩
theorem datAll_map {K : PySem.W.Frag} {F : Hp} {f : α → Fct} (hf : ∀ x, TyD K (f x) x) : ∀ {vs : List V} {xs : List α}, AllP vs (xs.map f) F → DpAll K F vs (xs.map Datum.toD)
  | _, [], .nil => .nil
  | _, x :: xs, .cons h t => .cons (hf x _ _ h) (datAll_map hf t)
theorem o2_inLT {K : PySem.W.Frag} {neg : Bool} {P : Fct} {x : α} {xs : List α} {f : α → Fct} (h : TyD K P x) (hf : ∀ x, TyD K (f x) x) : Op2 (rInT K α neg) P (fLst K (xs.map f)) (fBl (if neg then decide (x ∉ xs) else decide (x ∈ xs))) := fun v v' F H ex p p' Q q => by
  obtain ⟨a, vs, rfl, h2, h3⟩ := p'
  exact ⟨x, xs, a, vs, rfl, dp_up ex _ v (h v F p), .inl (SqL.of (ex a _ h2)), dpAll_up ex _ _ (datAll_map hf h3), q _ F H rfl (Grow.refl ex)⟩
theorem o2_inTT {K : PySem.W.Frag} {neg : Bool} {P : Fct} {x : α} {xs : List α} {f : α → Fct} (h : TyD K P x) (hf : ∀ x, TyD K (f x) x) : Op2 (rInT K α neg) P (fTup K (xs.map f)) (fBl (if neg then decide (x ∉ xs) else decide (x ∈ xs))) := fun v v' F H ex p p' Q q => by
  obtain ⟨a, vs, rfl, h2, h3⟩ := p'
  exact ⟨x, xs, a, vs, rfl, dp_up ex _ v (h v F p), .inr (Evl.ex_t ex h2), dpAll_up ex _ _ (datAll_map hf h3), q _ F H rfl (Grow.refl ex)⟩
theorem tyd_lst {K : PySem.W.Frag} {xs : List α} {f : α → Fct} (hf : ∀ x, TyD K (f x) x) : TyD K (fLst K (xs.map f)) xs := fun v F h => by
  obtain ⟨a, vs, rfl, h2, h3⟩ := h
  exact .lst (SqL.of h2) (datAll_map hf h3)
theorem tyd_tup {K : PySem.W.Frag} {xs : List α} {f : α → Fct} (hf : ∀ x, TyD K (f x) x) : TyD K (fTup K (xs.map f)) (Tup.mk xs) := fun v F h => by
  obtain ⟨a, vs, rfl, h2, h3⟩ := h
  exact .tup h2 (datAll_map hf h3)
end
theorem tyd_str {K : PySem.W.Frag} (x : Str) : TyD K (fStr x) x := dat_str
theorem tyd_int {K : PySem.W.Frag} (x : Int) : TyD K (fInt x) x := dat_int
theorem tyd_thing {K : PySem.W.Frag} (t : Thing) : TyD K (fThing K t) t := dat_tup (.cons dat_int (.cons dat_str .nil))
end DL

/-! TB0: the program by its places. -/
namespace TB
open PySem L2 PyProof.Rows DL
abbrev FnP (K : PySem.W.Frag) (x qual : Str) (st : Stmt) (dvs : List V) (kws : List (Str × V)) (f : Addr) (fd : FuncData) : Prop := FunD K x qual (defArgs st) (defBody st) (defScope st) dvs kws f fd
/-- a def of the top stands under its name -/
def HasF (K : PySem.W.Frag) (mg : Str → Option Value) (x : Str) (st : Stmt) (dvs : List V) : Prop := ∃ f fd, mg x = some (.ref f) ∧ FnP K x x st dvs [] f fd
/-- built-ins by name, not hidden by the program -/
structure Free (mg : Str → Option Value) : Prop where
  isi : mg "isinstance" = none
  int : mg "int" = none
  bool : mg "bool" = none
  str : mg "str" = none
  tuple : mg "tuple" = none
  list : mg "list" = none
  dict : mg "dict" = none
  len : mg "len" = none
  all : mg "all" = none
  enu : mg "enumerate" = none
  range : mg "range" = none
  sorted : mg "sorted" = none
  abs : mg "abs" = none
  divmod : mg "divmod" = none
  min : mg "min" = none
  max : mg "max" = none
section
variable {P : Program} {w : World} {K : PySem.W.Frag} {mg : Str → Option Value} {base : Heap}
/-- a def without defaults and its promise -/
theorem cal_of {x : Str} {st : Stmt} {k : Nat} {d : DSp} (h : HasF K mg x st []) {ps : List Str} (hb : ∀ (kV doc pm : Value) (an : Option Addr) (cdv ct : Value) (us : List Value), us.length = ps.length → bindArgs (PySem.W.fnOf x x (defArgs st) (defBody st) (defScope st) .none kV doc pm an cdv ct) ⟨us, []⟩ = pure (ps.zip us))
    (ok : ∀ f fd, FnP K x x st [] [] f fd → FnOk P w K mg base CX0 k f fd ps (spD d)) : Cal P w K mg base k x [] d := by
  obtain ⟨f, fd, h1, F⟩ := h
  exact ⟨f, fd, ps, [], [], h1, F.kp, F.bindsN hb, .nil, fun _ => .nil, ok f fd F⟩
end
/-! ### is_integer, is_within -/
abbrev s_is_integer : Stmt := top 24
def d_is_integer : DSp := fun Ps W => ∃ P b, Ps = [P] ∧ ((b = true ∧ ∃ i, P = fInt i)) ∧ W (fBl b)
section
variable {P : Program} {w : World} {K : PySem.W.Frag} {mg : Str → Option Value} {base : Heap}
theorem sc_is_integer : FnScope ["value"] ["value"] (defScope s_is_integer) := ⟨rfl, rfl, rfl, by decide +kernel, rfl, by decide +kernel, by decide +kernel⟩
theorem ok_is_integer (B : Free mg) (h : HasF K mg "is_integer" s_is_integer []) : Cal P w K mg base 1 "is_integer" [] d_is_integer := by
  refine cal_of h (ps := ["value"]) (fun _ _ _ _ _ _ us hl => match us, hl with | [_], _ => rfl) fun f fd F => ?_
  refine fn_d F sc_is_integer (fun Ps W h => ?_) fun cdv A outer s H E Ps W hr h => ?_
  · obtain ⟨P, b, rfl, _⟩ := h
    rfl
  · obtain ⟨P, b, rfl, ⟨rfl, i, rfl⟩, hW⟩ := h
    refine d_one (p_ret (v_and ?_))
    refine v_callB call_isi B.isi (a_cons (v_var 0 ⟨_, rfl, a_cons (v_bty (n := "int") ?_ B.int) ⟩))
    refine a_nil ⟨_, oc_isi ty_int (by decide +kernel), true, rfl, iteT ?_⟩
    refine v_one (v_not ?_)
    refine v_callB call_isi B.isi (a_cons (v_var 0 ⟨_, rfl, a_cons (v_bty (n := "bool") ?_ B.bool) ⟩))
    exact a_nil ⟨_, oc_isi ty_int (by decide +kernel), false, rfl, hW⟩
end
end TB

/-! TB1: the names, ints, checks. -/
namespace TB
open PySem L2 PyProof.Rows DL
theorem at_nat {α : Type} {xs : List α} {k : Nat} {x : α} (h : xs[k]? = some x) : atI xs (k : Int) = some x := by
  have hl := (List.getElem?_eq_some_iff.mp h).1
  unfold atI
  have e : ixN xs.length (k : Int) = some k := by
    unfold ixN
    simp
    omega
  rw [e]
  exact h
/-- a name as the program wants it -/
def NmOk (z : Str) : Prop := (1 ≤ z.length ∧ z.length ≤ 8) ∧ (∃ c, z.cps.toList[0]? = some c ∧ c ∈ LET.cps.toList) ∧ ∀ c ∈ z.cps.toList, c ∈ SIG.cps.toList
section
variable {P : Program} {w : World} {K : PySem.W.Frag} {mg : Str → Option Value} {base : Heap}
/-! ### is_within -/
abbrev s_is_within : Stmt := top 25
def d_is_within : DSp := fun Ps W => ∃ v l m : Int, Ps = [fInt v, fInt l, fInt m] ∧ l ≤ v ∧ v ≤ m ∧ W (fBl true)
theorem sc_is_within : FnScope ["value", "least", "most"] ["value", "least", "most"] (defScope s_is_within) := ⟨rfl, rfl, rfl, by decide +kernel, rfl, by decide +kernel, by decide +kernel⟩
theorem ok_is_within (C : Cal P w K mg base 1 "is_integer" [] d_is_integer) (h : HasF K mg "is_within" s_is_within []) : Cal P w K mg base 2 "is_within" [] d_is_within := by
  refine cal_of h (ps := ["value", "least", "most"]) (fun _ _ _ _ _ _ us hl => match us, hl with | [_, _, _], _ => rfl) fun f fd F => ?_
  refine fn_d F sc_is_within (fun Ps W h => ?_) fun cdv A outer s H E Ps W hr h => ?_
  · obtain ⟨v, l, m, rfl, _⟩ := h
    rfl
  · obtain ⟨v, l, m, rfl, h1, h2, hW⟩ := h
    refine d_one (p_ret (v_and ?_))
    refine v_call C hr (a_cons (v_var 0 ⟨_, rfl, a_nil ⟨fInt v, true, rfl, ⟨rfl, v, rfl⟩, true, rfl, iteT ?_⟩⟩))
    refine v_one (v_chain op_le op_le (v_var 1 ⟨_, rfl, v_var 0 ⟨_, rfl, true, ?_, iteT (v_var 2 ⟨_, rfl, _, o2_I0, ?_⟩)⟩⟩))
    · have := o2_I0 (g := fun i j => .bl (decide (i ≤ j))) (i := l) (j := v)
      rw [decide_eq_true h1] at this
      exact this
    · show W (fBl (decide (v ≤ m)))
      rw [decide_eq_true h2]
      exact hW
/-! ### is_row -/
abbrev s_is_row : Stmt := top 27
def d_is_row : DSp := fun Ps W => ∃ Qs n, Ps = [fTup K Qs, fInt n] ∧ (Qs.length : Int) = n ∧ W (fBl true)
theorem sc_is_row : FnScope ["value", "length"] ["value", "length"] (defScope s_is_row) := ⟨rfl, rfl, rfl, by decide +kernel, rfl, by decide +kernel, by decide +kernel⟩
theorem ok_is_row (B : Free mg) (h : HasF K mg "is_row" s_is_row []) : Cal P w K mg base 1 "is_row" [] (d_is_row (K := K)) := by
  refine cal_of h (ps := ["value", "length"]) (fun _ _ _ _ _ _ us hl => match us, hl with | [_, _], _ => rfl) fun f fd F => ?_
  refine fn_d F sc_is_row (fun Ps W h => ?_) fun cdv A outer s H E Ps W hr h => ?_
  · obtain ⟨Qs, n, rfl, _⟩ := h
    rfl
  · obtain ⟨Qs, n, rfl, h1, hW⟩ := h
    refine d_one (p_ret (v_and ?_))
    refine v_callB call_isi B.isi (a_cons (v_var 0 ⟨_, rfl, a_cons (v_bty (n := "tuple") ?_ B.tuple) ⟩))
    refine a_nil ⟨_, oc_isi ty_tup (by decide +kernel), true, rfl, iteT ?_⟩
    refine v_one (v_cmp op_eq (v_callB call_ln B.len (a_cons (v_var 0 ⟨_, rfl, a_nil ⟨_, oc_lenT, v_var 1 ⟨_, rfl, _, o2_eq rfl, ?_⟩⟩⟩))))
    rw [h1, decide_eq_true rfl]
    exact hW
/-! ### is_name -/
abbrev s_is_name : Stmt := top 26
def d_is_name : DSp := fun Ps W => ∃ z, Ps = [fStr z] ∧ NmOk z ∧ W (fBl true)
theorem sc_is_name : FnScope ["value", "sign"] ["value"] (defScope s_is_name) := ⟨rfl, rfl, rfl, by decide +kernel, rfl, by decide +kernel, by decide +kernel⟩
theorem ok_is_name (B : Free mg) (hL : ∃ t, mg "LETTERS" = some (.str LET t)) (hS : ∃ t, mg "SIGNS" = some (.str SIG t)) (hM : ∃ t, mg "LONGEST_NAME" = some (.int 8 t)) (h : HasF K mg "is_name" s_is_name []) : Cal P w K mg base 1 "is_name" [] d_is_name := by
  refine cal_of h (ps := ["value"]) (fun _ _ _ _ _ _ us hl => match us, hl with | [_], _ => rfl) fun f fd F => ?_
  refine fn_d F sc_is_name (fun Ps W h => ?_) fun cdv A outer s H E Ps W hr h => ?_
  · obtain ⟨z, rfl, _⟩ := h
    rfl
  · obtain ⟨z, rfl, ⟨⟨l1, l8⟩, ⟨c0, g0, m0⟩, hs⟩, hW⟩ := h
    refine d_cons (p_no (b_w (w_or (b_not (b_val ?_))))) 
    refine v_callB call_isi B.isi (a_cons (v_var 0 ⟨_, rfl, a_cons (v_bty (n := "str") ?_ B.str) ⟩))
    refine a_nil ⟨_, oc_isi ty_str (by decide +kernel), true, rfl, iteF (w_or1 (b_not ?_))⟩
    refine b_chain op_le op_le (v_int (v_callB call_ln B.len (a_cons (v_var 0 ⟨_, rfl, a_nil ⟨_, oc_lenS (by omega), true, ?_, iteT (v_gint ⟨true, ?_, rfl, ?_⟩ hM)⟩⟩))))
    · have := o2_I0 (g := fun i j => .bl (decide (i ≤ j))) (i := 1) (j := (z.length : Nat))
      rw [decide_eq_true (by omega)] at this
      exact this
    · have := o2_I0 (g := fun i j => .bl (decide (i ≤ j))) (i := (z.length : Nat)) (j := 8)
      rw [decide_eq_true (by omega)] at this
      exact this
    refine d_one (p_ret (v_and (v_cmp op_insg (v_ix ix_str (v_var 0 ⟨_, rfl, v_int ⟨_, o2_ixS (by omega) ?_, v_gstr ⟨_, o2_inSg, decide (c0 ∈ LET.cps.toList), rfl, ?_⟩ hL⟩⟩)))))
    · exact at_nat (k := 0) g0
    · rw [decide_eq_true m0]
      refine iteT (v_one (v_callB (cr_all rfl) B.all (a_cons (v_lc (own := [("sign", 1)]) (j := 1) (blkOk_by (N := ["value", "sign"]) (sc := defScope s_is_name) (by decide +kernel)) sc_is_name.nd (by decide) (fun _ _ _ _ _ => pg_name sc_is_name.nd rfl (Or.inl rfl)) (i_str (v_var 0 ⟨_, rfl, z, rfl, ?_⟩))))))
      refine lcw_map (j := 1) (by decide) z.cps.toList _ (fun c => fBl (decide (c ∈ SIG.cps.toList))) (by rw [Array.length_toList]; have : z.cps.size = z.length := rfl; omega) (fun c hc s H0 C cl fp => ?_) ?_
      · exact v_cmp op_insg (v_var 1 ⟨_, rfl, v_gstr ⟨_, o2_inSg, rfl, rfl⟩ hS⟩)
      · refine a_nil ⟨_, ?_, hW⟩
        have e : (z.cps.toList.map fun c => fBl (decide (c ∈ SIG.cps.toList))) = (z.cps.toList.map fun c => decide (c ∈ SIG.cps.toList)).map fBl := by rw [List.map_map]; rfl
        rw [e]
        have := oc_all (K := K) (bs := z.cps.toList.map fun c => decide (c ∈ SIG.cps.toList))
        have ea : (z.cps.toList.map fun c => decide (c ∈ SIG.cps.toList)).all id = true := by
          rw [List.all_map, List.all_eq_true]
          intro c hc
          exact decide_eq_true (hs c hc)
        rw [ea] at this
        exact this
end
end TB

/-! TB2: check_names. -/
namespace TB
open PySem L2 PyProof.Rows DL
theorem o2_notNon : Op2 rNotN fNon fNon (fBl false) := fun v v' F H ex p p' Q q => by
  have p : v = .non := p
  subst p
  exact ⟨p', q _ F H rfl (Grow.refl ex)⟩
theorem o2_notInt {i : Int} : Op2 rNotN (fInt i) fNon (fBl true) := fun v v' F H ex p p' Q q => by
  have p : v = .int i := p
  subst p
  exact ⟨p', q _ F H rfl (Grow.refl ex)⟩
theorem in_no (K : PySem.W.Frag) {s : Str} {l : List Str} (h : s ∉ l) : Op2 (rIn K false) (fStr s) (fTup K (l.map fStr)) (fBl false) := by
  have := o2_inT (K := K) (neg := false) (s := s) (l := l)
  rw [if_neg (by decide), decide_eq_false h] at this
  exact this
theorem in_yes (K : PySem.W.Frag) {s : Str} {l : List Str} (h : s ∈ l) : Op2 (rIn K false) (fStr s) (fTup K (l.map fStr)) (fBl true) := by
  have := o2_inT (K := K) (neg := false) (s := s) (l := l)
  rw [if_neg (by decide), decide_eq_true h] at this
  exact this
theorem notin_no (K : PySem.W.Frag) {s : Str} {l : List Str} (h : s ∈ l) : Op2 (rIn K true) (fStr s) (fTup K (l.map fStr)) (fBl false) := by
  have := o2_inT (K := K) (neg := true) (s := s) (l := l)
  rw [if_pos rfl, decide_eq_true h] at this
  exact this
theorem map_at {α β : Type} {f : α → β} {l : List α} {i : Nat} {P : β} (h : (l.map f)[i]? = some P) : ∃ x, l[i]? = some x ∧ P = f x := by
  rw [List.getElem?_map] at h
  cases hx : l[i]? with
  | none =>
    rw [hx] at h
    cases h
  | some x =>
    rw [hx] at h
    cases h
    exact ⟨x, rfl, rfl⟩
theorem if_both {k : Bool} {A B : Prop} (b : B) (h : k = true → B → A) : if k = true then A else B := by
  cases k with
  | true => exact iteT (h rfl b)
  | false => exact iteF b
theorem not_in_take {α : Type} {l : List α} {i : Nat} {x : α} (nd : l.Nodup) (h : l[i]? = some x) : x ∉ l.take i := fun z => by
  obtain ⟨j, hj⟩ := List.mem_iff_getElem?.mp z
  rw [List.getElem?_take] at hj
  split at hj
  · rename_i hji
    have hi := (List.getElem?_eq_some_iff.mp h).1
    have h1 := (List.getElem?_eq_some_iff.mp h).2
    have hjl := (List.getElem?_eq_some_iff.mp hj).1
    have h2 := (List.getElem?_eq_some_iff.mp hj).2
    have := (List.getElem_inj (h₀ := hjl) (h₁ := hi) nd).mp (h2.trans h1.symm)
    omega
  · cases hj
section
variable {P : Program} {w : World} {K : PySem.W.Frag} {mg : Str → Option Value} {base : Heap}
abbrev s_check_names : Stmt := top 28
def d_check_names (K : PySem.W.Frag) : DSp := fun Ps W => ∃ (l : List Str) (M A : Fct) (bar : List Str), Ps = [fTup K (l.map fStr), M, A, fTup K (bar.map fStr)] ∧ (∀ x ∈ l, NmOk x) ∧ l.Nodup ∧ (M = fNon ∨ ∃ m : Int, M = fInt m ∧ (l.length : Int) ≤ m) ∧
  (A = fNon ∨ ∃ al : List Str, A = fTup K (al.map fStr) ∧ ∀ x ∈ l, x ∈ al) ∧ (∀ x ∈ l, x ∉ bar) ∧ W fNon
theorem sc_check_names : FnScope ["names", "most", "allowed", "barred", "index", "name"] ["names", "most", "allowed", "barred"] (defScope s_check_names) := ⟨rfl, rfl, rfl, by decide +kernel, rfl, by decide +kernel, by decide +kernel⟩
theorem fn_check_names {f : Addr} {fd : FuncData} {dvs : List V} (B : Free mg) (C : Cal P w K mg base 1 "is_name" [] d_is_name) (F : FnP K "check_names" "check_names" s_check_names dvs [] f fd) : FnOk P w K mg base CX0 2 f fd ["names", "most", "allowed", "barred"] (spD (d_check_names K)) := by
  refine fn_d F sc_check_names (fun Ps W h => ?_) fun cdv A0 outer s H E Ps W hr h => ?_
  · obtain ⟨l, M, A, bar, rfl, _⟩ := h
    rfl
  · obtain ⟨l, M, A, bar, rfl, hn, nd, hM, hA, hb, hW⟩ := h
    refine d_cons (p_no (b_not (b_val (v_callB call_isi B.isi (a_cons (v_var 0 ⟨_, rfl, a_cons (v_bty (n := "tuple") (a_nil ⟨_, oc_isi ty_tup (by decide +kernel), true, rfl, rfl, ?_⟩) B.tuple) ⟩))))))
    refine d_one (p_for (pg_tup rfl (pgs_cons (pgn 4 sc_check_names.nd) (pgs_cons (pgn 5 sc_check_names.nd) pgs_nil))) (i_enumT B.enu (v_var 0 ⟨_, rfl, _, rfl, ?_⟩)))
    refine ⟨fun i Γ => ∃ s4 s5, Γ = [.fz (fTup K (l.map fStr)), .fz M, .fz A, .fz (fTup K (bar.map fStr)), s4, s5], ⟨_, _, rfl⟩, ?_, fun Γn _ => hW⟩
    rintro i P0 Γi hP ⟨s4, s5, rfl⟩
    obtain ⟨R, hR, rfl⟩ := enumF_at hP
    obtain ⟨x, hx, rfl⟩ := map_at hR
    have hxm : x ∈ l := List.mem_of_getElem? hx
    have hil : i < l.length := (List.getElem?_eq_some_iff.mp hx).1
    refine dt_tup rfl (dts_cons (dt_name (dts_cons (dt_name (dts_nil ?_)))))
    show PD _ _ [.fz (fTup K (l.map fStr)), .fz M, .fz A, .fz (fTup K (bar.map fStr)), .fz (fInt (i : Nat)), .fz (fStr x)] _
    refine d_cons (p_no (b_w (w_and (b_cmp op_notn (v_var 1 ⟨_, rfl, v_non ?_⟩)))))
    have kM : ∃ k : Bool, Op2 rNotN M fNon (fBl k) ∧ (k = true → ∃ m : Int, M = fInt m ∧ (l.length : Int) ≤ m) := by
      rcases hM with rfl | ⟨m, rfl, hm⟩
      · exact ⟨false, o2_notNon, fun z => nomatch z⟩
      · exact ⟨true, o2_notInt, fun _ => ⟨m, rfl, hm⟩⟩
    have kA : ∃ k : Bool, Op2 rNotN A fNon (fBl k) ∧ (k = true → ∃ al : List Str, A = fTup K (al.map fStr) ∧ ∀ x ∈ l, x ∈ al) := by
      rcases hA with rfl | ⟨al, rfl, hm⟩
      · exact ⟨false, o2_notNon, fun z => nomatch z⟩
      · exact ⟨true, o2_notNT, fun _ => ⟨al, rfl, hm⟩⟩
    obtain ⟨k, k1, k2⟩ := kM
    refine ⟨k, k1, if_both ⟨rfl, ?_⟩ fun hk r => ?_⟩
    · refine d_cons (p_no (b_w (w_or (b_not (b_val (v_call C hr (a_cons (v_var 5 ⟨_, rfl, a_nil ⟨x, rfl, hn x hxm, true, rfl, iteF ?_⟩⟩)))))))) 
      refine w_or (b_cmp op_in_seq (v_var 5 ⟨_, rfl, v_slice sl_tupA (v_var 0 ⟨_, rfl, v_var 4 ⟨_, rfl, _, rfl, _, os_T, ?_⟩⟩)⟩))
      rw [cutF_map, cutF_to]
      refine ⟨false, in_no K (not_in_take nd hx), iteF ?_⟩
      refine w_or1 (b_cmp op_in_seq (v_var 5 ⟨_, rfl, v_var 3 ⟨_, rfl, false, in_no K (hb x hxm), rfl, ?_⟩⟩))
      obtain ⟨q, q1, q2⟩ := kA
      refine d_one (p_no (b_w (w_and (b_cmp op_notn (v_var 2 ⟨_, rfl, v_non ⟨q, q1, if_both ⟨rfl, _, _, rfl⟩ fun hk r => ?_⟩⟩)))))
      obtain ⟨al, rfl, hal⟩ := q2 hk
      exact w_and1 (b_cmp op_notIn_seq (v_var 5 ⟨_, rfl, v_var 2 ⟨_, rfl, false, notin_no K (hal x hxm), r⟩⟩))
    · obtain ⟨m, rfl, hm⟩ := k2 hk
      refine w_and1 (b_cmp op_eq (v_var 4 ⟨_, rfl, v_var 1 ⟨_, rfl, false, ?_, r⟩⟩))
      have := o2_eq (x := .int (i : Nat)) (y := .int m) rfl
      rw [decide_eq_false (fun z => by injection z with z; omega)] at this
      exact this
end
end TB

/-! TB3: Kind. -/
namespace TB
open PySem L2 PyProof.Rows DL
def fT3 (K : PySem.W.Frag) (x : I3) : Fct := fTup K [fInt x.1, fInt x.2.1, fInt x.2.2]
def fKind (CK : Addr) (z : Str) (c : Bool) : Fct := fIns CK [("turns", fStr z), ("calm", fBl c)]
structure KindE (w : World) (K : PySem.W.Frag) (mg : Str → Option Value) (CK d : Addr) : Prop where
  mgK : mg "Kind" = some (.ref CK)
  mgL : mg "LOTS" = some (.ref d)
  ins : InsK K CK
  naT : NoAttr K CK "turns"
  naC : NoAttr K CK "calm"
  tab : ∃ es n, KDict K w d es n
  vals : ∀ z ∈ words, ∃ u v, PySem.W.nsIn K d z = some (some u) ∧ RelV v u ∧ ∀ H, (fTup K ((turnsOf z).map (fT3 K))).p v H
def CalM (P : Program) (w : World) (K : PySem.W.Frag) (mg : Str → Option Value) (base : Heap) (k : Nat) (C : Addr) (m : Str) (d : DSp) : Prop := ∃ f fd ps, Meth K C m f ∧ Binds K fd ps [] ∧ FnOk P w K mg base CX0 k f fd ps (spD d)
def CalP (P : Program) (w : World) (K : PySem.W.Frag) (mg : Str → Option Value) (base : Heap) (k : Nat) (C : Addr) (m : Str) (d : DSp) : Prop := ∃ p f fd ps, PropOf K C m p f ∧ Binds K fd ps [] ∧ FnOk P w K mg base CX0 k f fd ps (spD d)
def CalI (P : Program) (w : World) (K : PySem.W.Frag) (mg : Str → Option Value) (base : Heap) (k : Nat) (C : Addr) (n : Nat) (ks : List Str) (d : DSp) : Prop := ∃ f fd ps, ∃ g : List Value → List Value → List Value, Mk K C f ∧ KBn K fd ps (n + 1) ks g (fun vs zs => vs ++ zs) ∧ FnOk P w K mg base CX0 k f fd ps (spI C d)
section
variable {P : Program} {w : World} {K : PySem.W.Frag} {mg : Str → Option Value} {base : Heap} {CK dL : Addr}
/-! ### Kind.__init__ -/
abbrev s_k_init : Stmt := meth 31 0
def d_k_init (CK : Addr) : DSp := fun Ps W => ∃ z c, Ps = [fStr z, fBl c] ∧ z ∈ words ∧ W (fKind CK z c)
theorem sc_k_init : FnScope ["self", "turns", "calm"] ["self", "turns", "calm"] (defScope s_k_init) := ⟨rfl, rfl, rfl, by decide +kernel, rfl, by decide +kernel, by decide +kernel⟩
theorem ok_k_init (B : Free mg) (E : KindE w K mg CK dL) (h : ∃ f fd, Mk K CK f ∧ FunD K "__init__" "Kind.__init__" (defArgs s_k_init) (defBody s_k_init) (defScope s_k_init) [] [("calm", .bl false)] f fd) : CalI P w K mg base 1 CK 1 ["calm"] (d_k_init CK) := by
  obtain ⟨f, fd, M, F⟩ := h
  obtain ⟨mv, hb⟩ := F.kbinds0 (ps := ["self", "turns", "calm"]) 2 ["calm"] [] (fun {α} us _ ws => us ++ ws) (by decide) (by simp) (fun r1 _ r3 => r1.append r3) (fun D doc pm an cdv ct us mv ws l1 l2 l3 => match us, mv, ws, l1, l2, l3 with | [_, _], [], [_], _, _, _ => rfl)
  refine ⟨f, fd, ["self", "turns", "calm"], _, M, hb, ?_⟩
  refine fn_i F sc_k_init (fun Ps W h => ?_) fun cdv A0 outer s H E0 a Ps W hr h => ?_
  · obtain ⟨z, c, rfl, _⟩ := h
    rfl
  · obtain ⟨z, c, rfl, hz, hW⟩ := h
    obtain ⟨es, n, D⟩ := E.tab
    obtain ⟨u, v, hu, ru, hv⟩ := E.vals z hz
    refine d_cons (p_no (b_w (w_or (b_not (b_val (v_callB call_isi B.isi (a_cons (v_var 1 ⟨_, rfl, a_cons (v_bty (n := "str") (a_nil ⟨_, oc_isi ty_str (by decide +kernel), true, rfl, iteF ?_⟩) B.str)⟩)))))))) 
    refine w_or1 (b_cmp (op_notIn_kd D) (v_var 1 ⟨_, rfl, v_gref ⟨false, ?_, rfl, ?_⟩ E.mgL⟩))
    · exact fun v v' F H ex p p' Q q => ⟨z, some u, p, p', hu, q _ F H rfl (Grow.refl ex)⟩
    refine d_cons (p_no (b_not (b_val (v_callB call_isi B.isi (a_cons (v_var 2 ⟨_, rfl, a_cons (v_bty (n := "bool") (a_nil ⟨_, oc_isi ty_bl (by decide +kernel), true, rfl, rfl, ?_⟩) B.bool)⟩))))))
    refine d_cons (p_fld 0 E.ins.cl E.naT (v_var 1 ⟨_, rfl, _, rfl, rfl, by decide, ?_⟩))
    refine d_one (p_fld 0 E.ins.cl E.naC (v_var 2 ⟨_, rfl, _, rfl, rfl, (by show 1 < 1000; decide), ?_⟩))
    exact ⟨_, .inl ⟨rfl, hW⟩⟩
/-! ### Kind.lot -/
abbrev s_k_lot : Stmt := meth 31 2
def d_k_lot (K : PySem.W.Frag) (CK : Addr) : DSp := fun Ps W => ∃ z c, Ps = [fKind CK z c] ∧ z ∈ words ∧ W (fTup K ((turnsOf z).map (fT3 K)))
theorem sc_k_lot : FnScope ["self"] ["self"] (defScope s_k_lot) := ⟨rfl, rfl, rfl, by decide +kernel, rfl, by decide +kernel, by decide +kernel⟩
theorem ok_k_lot (E : KindE w K mg CK dL) (h : ∃ p f fd, PropOf K CK "lot" p f ∧ FunD K "lot" "Kind.lot" (defArgs s_k_lot) (defBody s_k_lot) (defScope s_k_lot) [] [] f fd) : CalP P w K mg base 1 CK "lot" (d_k_lot K CK) := by
  obtain ⟨p, f, fd, hp, F⟩ := h
  refine ⟨p, f, fd, ["self"], hp, F.bindsN fun _ _ _ _ _ _ us hl => match us, hl with | [_], _ => rfl, ?_⟩
  refine fn_d F sc_k_lot (fun Ps W h => ?_) fun cdv A0 outer s H E0 Ps W hr h => ?_
  · obtain ⟨z, c, rfl, _⟩ := h
    rfl
  · obtain ⟨z, c, rfl, hz, hW⟩ := h
    obtain ⟨es, n, D⟩ := E.tab
    obtain ⟨u, v, hu, ru, hv⟩ := E.vals z hz
    refine d_one (p_ret (v_ix ix_kdict (v_gref (v_fld E.ins.cl E.naT (v_var 0 ⟨_, rfl, _, _, rfl, rfl, _, ?_, hW⟩)) E.mgL)))
    exact fun v' v'' F H ex p p' Q q => ⟨dL, z, v, p, p', ⟨es, n, u, D.at_, D.lit, hu, ru⟩, q v F H (hv F) (Grow.refl ex)⟩
/-! ### Kind.images -/
abbrev s_k_images : Stmt := meth 31 3
def pick (t : I3) (i : Int) : Int := if i = 0 then t.1 else if i = 1 then t.2.1 else t.2.2
def img (t x : I3) : I3 := (pick t x.1, pick t x.2.1, pick t x.2.2)
def imgs (z : Str) (t : I3) : List I3 := (turnsOf z).map (img t)
def d_k_images (K : PySem.W.Frag) (CK : Addr) : DSp := fun Ps W => ∃ z c t, Ps = [fKind CK z c, fT3 K t] ∧ z ∈ words ∧ (0 ≤ t.1 ∧ t.1 < 64) ∧ (0 ≤ t.2.1 ∧ t.2.1 < 64) ∧ (0 ≤ t.2.2 ∧ t.2.2 < 64) ∧ ∀ l : List I3, (∀ x, x ∈ l ↔ x ∈ imgs z t) → l.length < 64 → W (fTup K (l.map (fT3 K)))
theorem sc_k_images : FnScope ["self", "triple", "thing", "i", "j", "k"] ["self", "triple"] (defScope s_k_images) := ⟨rfl, rfl, rfl, by decide +kernel, rfl, by decide +kernel, by decide +kernel⟩
def toL (x : I3) : List Int := [x.1, x.2.1, x.2.2]
theorem toL_inj {x y : I3} (h : toL x = toL y) : x = y := by
  obtain ⟨a, b, c⟩ := x
  obtain ⟨a', b', c'⟩ := y
  unfold toL at h
  injection h with h1 h
  injection h with h2 h
  injection h with h3 _
  have h1 : a = a' := h1
  have h2 : b = b' := h2
  have h3 : c = c' := h3
  rw [h1, h2, h3]
theorem lists_of {l : List (List Int)} {ks : List I3} (h : ∀ z ∈ l, z ∈ ks.map toL) : ∃ l' : List I3, l = l'.map toL ∧ ∀ x ∈ l', x ∈ ks := by
  induction l with
  | nil => exact ⟨[], rfl, fun x hx => by cases hx⟩
  | cons a l ih =>
    obtain ⟨l', e1, e2⟩ := ih fun z hz => h z (List.mem_cons_of_mem _ hz)
    obtain ⟨x, hx, e⟩ := List.mem_map.mp (h a List.mem_cons_self)
    refine ⟨x :: l', by rw [List.map_cons, e, e1], fun y hy => ?_⟩
    rcases List.mem_cons.mp hy with e | hy
    · rw [e]
      exact hx
    · exact e2 y hy
theorem turns_ix {z : Str} {x : I3} (h : x ∈ turnsOf z) : (x.1 = 0 ∨ x.1 = 1 ∨ x.1 = 2) ∧ (x.2.1 = 0 ∨ x.2.1 = 1 ∨ x.2.1 = 2) ∧ (x.2.2 = 0 ∨ x.2.2 = 1 ∨ x.2.2 = 2) := by
  have key : ∀ l : List I3, (l.all fun x => (decide (x.1 = 0) || (decide (x.1 = 1) || decide (x.1 = 2))) && ((decide (x.2.1 = 0) || (decide (x.2.1 = 1) || decide (x.2.1 = 2))) && (decide (x.2.2 = 0) || (decide (x.2.2 = 1) || decide (x.2.2 = 2))))) = true → x ∈ l → (x.1 = 0 ∨ x.1 = 1 ∨ x.1 = 2) ∧ (x.2.1 = 0 ∨ x.2.1 = 1 ∨ x.2.1 = 2) ∧ (x.2.2 = 0 ∨ x.2.2 = 1 ∨ x.2.2 = 2) := by
    intro l hl hx
    have := List.all_eq_true.mp hl x hx
    simpa using this
  unfold turnsOf at h
  split at h
  · exact key _ (by decide) h
  · split at h
    · exact key _ (by decide) h
    · split at h
      · exact key _ (by decide) h
      · split at h
        · exact key _ (by decide) h
        · split at h
          · exact key _ (by decide) h
          · exact key _ (by decide) h
theorem turns_len (z : Str) : (turnsOf z).length ≤ 6 := by
  unfold turnsOf
  repeat' split
  all_goals decide
theorem pick_at {t : I3} {i : Int} (h : i = 0 ∨ i = 1 ∨ i = 2) : atI [fInt t.1, fInt t.2.1, fInt t.2.2] i = some (fInt (pick t i)) := by
  rcases h with rfl | rfl | rfl <;> rfl
theorem ok_k_images (B : Free mg) (E : KindE w K mg CK dL) (CI : Cal P w K mg base 1 "is_integer" [] d_is_integer) (CR : Cal P w K mg base 1 "is_row" [] (d_is_row (K := K))) (CL : CalP P w K mg base 1 CK "lot" (d_k_lot K CK)) (h : ∃ f fd, Meth K CK "images" f ∧ FunD K "images" "Kind.images" (defArgs s_k_images) (defBody s_k_images) (defScope s_k_images) [] [] f fd) : CalM P w K mg base 3 CK "images" (d_k_images K CK) := by
  obtain ⟨f, fd, hm, F⟩ := h
  refine ⟨f, fd, ["self", "triple"], hm, F.bindsN fun _ _ _ _ _ _ us hl => match us, hl with | [_, _], _ => rfl, ?_⟩
  refine fn_d F sc_k_images (fun Ps W h => ?_) fun cdv A0 outer s H E0 Ps W hr h => ?_
  · obtain ⟨z, c, t, rfl, _⟩ := h
    rfl
  · obtain ⟨z, c, t, rfl, hz, b1, b2, b3, hW⟩ := h
    refine d_cons (p_no (b_w (w_or (b_not (b_val (v_call CR hr (a_cons (v_var 1 ⟨_, rfl, a_cons (v_int (a_nil ⟨_, 3, rfl, rfl, true, rfl, iteF ?_⟩))⟩)))))))) 
    refine w_or1 (b_not (b_val (v_callB (cr_all rfl) B.all (a_cons (v_lc (own := [("thing", 2)]) (j := 2) (blkOk_by (N := ["self", "triple", "thing", "i", "j", "k"]) (sc := defScope s_k_images) (by decide +kernel)) sc_k_images.nd (by decide) (fun _ _ _ _ _ => pgn 2 sc_k_images.nd) (i_tup (v_var 1 ⟨_, rfl, _, rfl, ?_⟩)))))))
    refine lcw_map (j := 2) (by decide) [t.1, t.2.1, t.2.2] (fun i => fInt i) (fun _ => fBl true) (by show 3 ≤ 50000; decide) (fun x hx s H0 C cl fp => ?_) ?_
    · exact v_call CI hr (a_cons (v_var 2 ⟨_, rfl, a_nil ⟨fInt x, true, rfl, ⟨rfl, x, rfl⟩, rfl, rfl⟩⟩))
    refine a_nil ⟨_, oc_all (K := K) (bs := [true, true, true]), true, rfl, rfl, ?_⟩
    obtain ⟨p, fl, fdl, psl, hpl, hbl, Gl⟩ := CL
    refine d_one (p_ret (v_callTy call_tpl B.tuple (a_cons (PV.ex (v_callB (cr_sortedT rfl) B.sorted (a_cons ?_))))))
    refine v_sct (α := I3) (own := [("i", 3), ("j", 4), ("k", 5)]) (j1 := 3) (j2 := 4) (j3 := 5) hr.units (blkOk_by (N := ["self", "triple", "thing", "i", "j", "k"]) (sc := defScope s_k_images) (by decide +kernel)) sc_k_images.nd (by decide) (by decide) (by decide) (fun _ _ _ _ _ => pg_tup rfl (pgs_cons (pgn 3 sc_k_images.nd) (pgs_cons (pgn 4 sc_k_images.nd) (pgs_cons (pgn 5 sc_k_images.nd) pgs_nil)))) ?_
    refine i_tup (v_prop E.ins.cl hpl Gl hbl hr (v_var 0 ⟨_, rfl, _, rfl, z, c, rfl, hz, _, rfl, ?_⟩))
    refine ⟨turnsOf z, fun x => fInt x.1, fun x => fInt x.2.1, fun x => fInt x.2.2, fun x => toL (img t x), rfl, Nat.lt_of_le_of_lt (turns_len z) (by decide), fun x hx s H0 C cl fp => ?_, ?_⟩
    · obtain ⟨x1, x2, x3⟩ := turns_ix hx
      refine v_tup (a_cons (v_ix ix_tup (v_var 1 ⟨_, rfl, v_var 3 ⟨_, rfl, _, o2_ixT (pick_at x1), ?_⟩⟩)))
      refine a_cons (v_ix ix_tup (v_var 1 ⟨_, rfl, v_var 4 ⟨_, rfl, _, o2_ixT (pick_at x2), ?_⟩⟩))
      refine a_cons (v_ix ix_tup (v_var 1 ⟨_, rfl, v_var 5 ⟨_, rfl, _, o2_ixT (pick_at x3), ?_⟩⟩))
      exact a_nil ⟨(by show 3 ≤ 100000; decide), rfl, rfl⟩
    have pb : ∀ i, 0 ≤ pick t i ∧ pick t i < 64 := fun i => by
      unfold pick
      split
      · exact b1
      · split
        · exact b2
        · exact b3
    refine a_nil ⟨_, oc_sortedT (d := 3) (N := 64) (by decide) (fun k hk => ?_), _, _, rfl, fun l' => ?_⟩
    · obtain ⟨x, hx, rfl⟩ := List.mem_map.mp hk
      refine ⟨rfl, fun m hm => ?_⟩
      rcases List.mem_cons.mp hm with e | hm
      · rw [e]; exact pb _
      · rcases List.mem_cons.mp hm with e | hm
        · rw [e]; exact pb _
        · rw [List.mem_singleton.mp hm]; exact pb _
    · refine a_nil ⟨_, oc_tuple, ?_⟩
      obtain ⟨l, h1, h2⟩ := l'
      have em : (turnsOf z).map (fun x => toL (img t x)) = (imgs z t).map toL := by unfold imgs; rw [List.map_map]; rfl
      rw [em] at h1
      obtain ⟨l2, rfl, h4⟩ := lists_of fun z hz => (h1 z).mp hz
      have e2 : (l2.map toL).map (fInts K) = l2.map (fT3 K) := by rw [List.map_map]; rfl
      show W (fTup K ((l2.map toL).map (fInts K)))
      rw [e2]
      refine hW l2 (fun x => ⟨fun hx => h4 x hx, fun hx => ?_⟩) (by rw [List.length_map] at h2; exact h2)
      obtain ⟨y, hy, e⟩ := List.mem_map.mp ((h1 (toL x)).mpr (List.mem_map.mpr ⟨x, hx, rfl⟩))
      rw [← toL_inj e]
      exact hy
end
end TB

/-! TB4: cells as data, things of a chain. -/
namespace TB
open PySem L2 PyProof.Rows DL
abbrev Row := Str × Str × Str
def rowL (r : Row) : List Str := [r.1, r.2.1, r.2.2]
structure Cl where
  word : Str
  calm : Bool
  ins : List Str
  inner : List Str
  outs : List Str
  rows : List Row
  stored : List Str
  wanted : List Str
  begn : List Str
  endd : List Str
def fNames (K : PySem.W.Frag) (l : List Str) : Fct := fTup K (l.map fStr)
def fRow (K : PySem.W.Frag) (r : Row) : Fct := fTup K ((rowL r).map fStr)
def fCell (K : PySem.W.Frag) (CK CC : Addr) (c : Cl) : Fct := fIns CC [("kind", fKind CK c.word c.calm), ("ins", fTupN K (c.ins.map fStr)), ("inner", fNames K c.inner), ("outs", fNames K c.outs), ("triples", fTup K (c.rows.map (fRow K))),
  ("stored", fNames K c.stored), ("wanted", fNames K c.wanted), ("begin", fNames K c.begn), ("end", fNames K c.endd)]
/-- the thing of a name in copy n -/
def thingOf (ins outs : List Str) (n : Int) (z : Str) : Thing := if 0 < n ∧ z ∈ ins then (n - 1, outs.getD (ins.idxOf z) "") else (n, z)
def tripleOf (ins outs : List Str) (n : Int) (r : Row) : Triple := (thingOf ins outs n r.1, thingOf ins outs n r.2.1, thingOf ins outs n r.2.2)
/-- what the checks of a cell's sides want -/
structure Sides (c : Cl) : Prop where
  nm : ∀ x ∈ c.ins ++ c.inner ++ c.outs, NmOk x
  nd : (c.ins ++ c.inner ++ c.outs).Nodup
  li : c.ins.length ≤ 3
  ln : c.inner.length ≤ 6
  lo : c.outs.length = c.ins.length
  lr : c.rows.length ≤ 8
  rin : ∀ r ∈ c.rows, ∀ x ∈ rowL r, x ∈ c.ins ++ c.inner ++ c.outs
  s1 : ∀ x ∈ c.stored, x ∈ c.inner ++ c.outs
  s2 : c.stored.Nodup
  s3 : c.stored.length ≤ 6
  w1 : ∀ x ∈ c.wanted, x ∈ c.inner ++ c.outs
  w2 : c.wanted.Nodup
  w3 : c.wanted ≠ []
  b1 : ∀ x ∈ c.begn, x ∈ c.ins
  b2 : c.begn.Nodup
  e1 : ∀ x ∈ c.endd, x ∈ c.outs
  e2 : c.endd.Nodup
  wd : c.word ∈ words
structure CellE (K : PySem.W.Frag) (mg : Str → Option Value) (CC : Addr) : Prop where
  mgC : mg "Cell" = some (.ref CC)
  ins : InsK K CC
  n1 : NoAttr K CC "kind"
  n2 : NoAttr K CC "ins"
  n3 : NoAttr K CC "inner"
  n4 : NoAttr K CC "outs"
  n5 : NoAttr K CC "triples"
  n6 : NoAttr K CC "stored"
  n7 : NoAttr K CC "wanted"
  n8 : NoAttr K CC "begin"
  n9 : NoAttr K CC "end"
section
variable {P : Program} {w : World} {K : PySem.W.Frag} {mg : Str → Option Value} {base : Heap} {CK CC dL : Addr}
/-! ### check_kind, check_cell, check_count -/
abbrev s_check_kind : Stmt := top 32
def d_check_kind (CK : Addr) : DSp := fun Ps W => ∃ z c, Ps = [fKind CK z c] ∧ W fNon
theorem sc_check_kind : FnScope ["value"] ["value"] (defScope s_check_kind) := ⟨rfl, rfl, rfl, by decide +kernel, rfl, by decide +kernel, by decide +kernel⟩
theorem ok_check_kind (B : Free mg) (E : KindE w K mg CK dL) (h : HasF K mg "check_kind" s_check_kind []) : Cal P w K mg base 1 "check_kind" [] (d_check_kind CK) := by
  refine cal_of h (ps := ["value"]) (fun _ _ _ _ _ _ us hl => match us, hl with | [_], _ => rfl) fun f fd F => ?_
  refine fn_d F sc_check_kind (fun Ps W h => ?_) fun cdv A0 outer s H E0 Ps W hr h => ?_
  · obtain ⟨z, c, rfl, _⟩ := h
    rfl
  · obtain ⟨z, c, rfl, hW⟩ := h
    refine d_one (p_no (b_not (b_val (v_callB call_isi B.isi (a_cons (v_var 0 ⟨_, rfl, a_cons (v_gref (a_nil ⟨_, oc_isiC E.ins, true, rfl, rfl, hW⟩) E.mgK)⟩))))))
abbrev s_check_cell : Stmt := top 42
def d_check_cell (K : PySem.W.Frag) (CK CC : Addr) : DSp := fun Ps W => ∃ c, Ps = [fCell K CK CC c] ∧ W fNon
theorem sc_check_cell : FnScope ["value"] ["value"] (defScope s_check_cell) := ⟨rfl, rfl, rfl, by decide +kernel, rfl, by decide +kernel, by decide +kernel⟩
theorem ok_check_cell (B : Free mg) (E : CellE K mg CC) (h : HasF K mg "check_cell" s_check_cell []) : Cal P w K mg base 1 "check_cell" [] (d_check_cell K CK CC) := by
  refine cal_of h (ps := ["value"]) (fun _ _ _ _ _ _ us hl => match us, hl with | [_], _ => rfl) fun f fd F => ?_
  refine fn_d F sc_check_cell (fun Ps W h => ?_) fun cdv A0 outer s H E0 Ps W hr h => ?_
  · obtain ⟨c, rfl, _⟩ := h
    rfl
  · obtain ⟨c, rfl, hW⟩ := h
    refine d_one (p_no (b_not (b_val (v_callB call_isi B.isi (a_cons (v_var 0 ⟨_, rfl, a_cons (v_gref (a_nil ⟨_, oc_isiC E.ins, true, rfl, rfl, hW⟩) E.mgC)⟩))))))
abbrev s_check_count : Stmt := top 48
def d_check_count : DSp := fun Ps W => ∃ n : Int, Ps = [fInt n] ∧ 1 ≤ n ∧ n ≤ 200 ∧ W fNon
theorem sc_check_count : FnScope ["count"] ["count"] (defScope s_check_count) := ⟨rfl, rfl, rfl, by decide +kernel, rfl, by decide +kernel, by decide +kernel⟩
theorem ok_check_count (C : Cal P w K mg base 2 "is_within" [] d_is_within) (hM : ∃ t, mg "MOST_CELLS" = some (.int 200 t)) (h : HasF K mg "check_count" s_check_count []) : Cal P w K mg base 3 "check_count" [] d_check_count := by
  refine cal_of h (ps := ["count"]) (fun _ _ _ _ _ _ us hl => match us, hl with | [_], _ => rfl) fun f fd F => ?_
  refine fn_d F sc_check_count (fun Ps W h => ?_) fun cdv A0 outer s H E0 Ps W hr h => ?_
  · obtain ⟨n, rfl, _⟩ := h
    rfl
  · obtain ⟨n, rfl, h1, h2, hW⟩ := h
    exact d_one (p_no (b_not (b_val (v_call C hr (a_cons (v_var 0 ⟨_, rfl, a_cons (v_int (a_cons (v_gint (a_nil ⟨n, 1, 200, rfl, h1, h2, true, rfl, rfl, hW⟩) hM)))⟩))))))
/-! ### keys_of -/
abbrev s_keys_of : Stmt := top 34
def fKeyW (K : PySem.W.Frag) (i a b c : Int) : Fct := fTup K [fTup K [fInt i, fInt a, fInt b], fInt c]
def d_keys_of (K : PySem.W.Frag) : DSp := fun Ps W => ∃ t, Ps = [fT3 K t] ∧ W (fLst K [fKeyW K 0 t.2.1 t.2.2 t.1, fKeyW K 1 t.1 t.2.2 t.2.1, fKeyW K 2 t.1 t.2.1 t.2.2])
theorem sc_keys_of : FnScope ["triple", "first", "second", "mixed"] ["triple"] (defScope s_keys_of) := ⟨rfl, rfl, rfl, by decide +kernel, rfl, by decide +kernel, by decide +kernel⟩
theorem ok_keys_of (h : HasF K mg "keys_of" s_keys_of []) : Cal P w K mg base 1 "keys_of" [] (d_keys_of K) := by
  refine cal_of h (ps := ["triple"]) (fun _ _ _ _ _ _ us hl => match us, hl with | [_], _ => rfl) fun f fd F => ?_
  refine fn_d F sc_keys_of (fun Ps W h => ?_) fun cdv A0 outer s H E0 Ps W hr h => ?_
  · obtain ⟨t, rfl, _⟩ := h
    rfl
  · obtain ⟨t, rfl, hW⟩ := h
    refine d_cons (p_asgT (pg_tup rfl (pgs_cons (pgn 1 sc_keys_of.nd) (pgs_cons (pgn 2 sc_keys_of.nd) (pgs_cons (pgn 3 sc_keys_of.nd) pgs_nil)))) (v_var 0 ⟨_, rfl, dt_tup rfl (dts_cons (dt_name (dts_cons (dt_name (dts_cons (dt_name (dts_nil ?_)))))))⟩))
    have l2 : ∀ a b : Fct, [a, b].length ≤ 100000 := fun _ _ => by show 2 ≤ 100000; decide
    have l3 : ∀ a b c : Fct, [a, b, c].length ≤ 100000 := fun _ _ _ => by show 3 ≤ 100000; decide
    refine d_one (p_ret (v_lst ?_))
    refine a_cons (v_tup (a_cons (v_tup (a_cons (v_int ?_))))) 
    refine a_cons (v_var 2 ⟨_, rfl, a_cons (v_var 3 ⟨_, rfl, a_nil ⟨l3 _ _ _, ?_⟩⟩)⟩)
    refine a_cons (v_var 1 ⟨_, rfl, a_nil ⟨l2 _ _, ?_⟩⟩)
    refine a_cons (v_tup (a_cons (v_tup (a_cons (v_int ?_))))) 
    refine a_cons (v_var 1 ⟨_, rfl, a_cons (v_var 3 ⟨_, rfl, a_nil ⟨l3 _ _ _, ?_⟩⟩)⟩)
    refine a_cons (v_var 2 ⟨_, rfl, a_nil ⟨l2 _ _, ?_⟩⟩)
    refine a_cons (v_tup (a_cons (v_tup (a_cons (v_int ?_))))) 
    refine a_cons (v_var 1 ⟨_, rfl, a_cons (v_var 2 ⟨_, rfl, a_nil ⟨l3 _ _ _, ?_⟩⟩)⟩)
    refine a_cons (v_var 3 ⟨_, rfl, a_nil ⟨l2 _ _, ?_⟩⟩)
    exact a_nil ⟨l3 _ _ _, hW⟩
/-! ### thing_of -/
abbrev s_thing_of : Stmt := top 43
def d_thing_of (K : PySem.W.Frag) (CK CC : Addr) : DSp := fun Ps W => ∃ c n z, Ps = [fCell K CK CC c, fInt n, fStr z] ∧ c.outs.length = c.ins.length ∧ W (fThing K (thingOf c.ins c.outs n z))
theorem sc_thing_of : FnScope ["cell", "number", "name"] ["cell", "number", "name"] (defScope s_thing_of) := ⟨rfl, rfl, rfl, by decide +kernel, rfl, by decide +kernel, by decide +kernel⟩
theorem idx_at {l : List Str} {z : Str} (h : z ∈ l) : l[l.idxOf z]? = some z ∧ ∀ m, m < l.idxOf z → l[m]? ≠ some z := by
  induction l with
  | nil => cases h
  | cons a l ih =>
    by_cases e : a = z
    · subst e
      have e0 : (a :: l).idxOf a = 0 := by simp
      rw [e0]
      exact ⟨rfl, fun m hm => by omega⟩
    · have hm : z ∈ l := by
        rcases List.mem_cons.mp h with q | q
        · exact absurd q.symm e
        · exact q
      have e0 : (a :: l).idxOf z = l.idxOf z + 1 := by
        rw [List.idxOf_cons]
        have : (a == z) = false := by simpa using e
        rw [this]
        rfl
      rw [e0]
      obtain ⟨h1, h2⟩ := ih hm
      refine ⟨by simpa using h1, fun m hm2 => ?_⟩
      cases m with
      | zero =>
        intro q
        exact e (Option.some.inj q)
      | succ m =>
        have := h2 m (by omega)
        simpa using this
theorem ok_thing_of (E : CellE K mg CC) (h : HasF K mg "thing_of" s_thing_of []) : Cal P w K mg base 1 "thing_of" [] (d_thing_of K CK CC) := by
  refine cal_of h (ps := ["cell", "number", "name"]) (fun _ _ _ _ _ _ us hl => match us, hl with | [_, _, _], _ => rfl) fun f fd F => ?_
  refine fn_d F sc_thing_of (fun Ps W h => ?_) fun cdv A0 outer s H E0 Ps W hr h => ?_
  · obtain ⟨c, n, z, rfl, _⟩ := h
    rfl
  · obtain ⟨c, n, z, rfl, hl, hW⟩ := h
    have l2 : ∀ a b : Fct, [a, b].length ≤ 100000 := fun _ _ => by show 2 ≤ 100000; decide
    by_cases hc : 0 < n ∧ z ∈ c.ins
    · have e : thingOf c.ins c.outs n z = (n - 1, c.outs.getD (c.ins.idxOf z) "") := if_pos hc
      rw [e] at hW
      obtain ⟨i1, i2⟩ := idx_at hc.2
      have ho : c.outs[c.ins.idxOf z]? = some (c.outs.getD (c.ins.idxOf z) "") := by
        have hlt : c.ins.idxOf z < c.outs.length := by rw [hl]; exact (List.getElem?_eq_some_iff.mp i1).1
        rw [List.getD_eq_getElem?_getD, List.getElem?_eq_getElem hlt]
        rfl
      refine d_cons (p_if (b_w (w_and (b_cmp op_gt (v_var 1 ⟨_, rfl, v_int ⟨true, ?_, iteT ?_⟩⟩)))))
      · have := o2_I0 (g := fun i j => .bl (decide (j < i))) (i := n) (j := 0)
        rw [decide_eq_true hc.1] at this
        exact this
      refine w_and1 (b_cmp op_in_seq (v_var 2 ⟨_, rfl, v_fld E.ins.cl E.n2 (v_var 0 ⟨_, rfl, _, _, rfl, rfl, true, ?_, iteT ?_⟩)⟩))
      · exact fun v v' F H ex p p' Q q => in_yes K hc.2 v v' F H ex p (fTupN_tup p') Q q
      refine d_one (p_ret (v_tup (a_cons (v_op op_sub (v_var 1 ⟨_, rfl, v_int ⟨_, o2_I0, ?_⟩⟩)))))
      refine a_cons (v_ix ix_tup (v_fld E.ins.cl E.n4 (v_var 0 ⟨_, rfl, _, _, rfl, rfl, ?_⟩)))
      refine v_mG tytn_ok PySem.F.plainAttrs_tuple PySem.F.slot_tuple_index PySem.F.type_tuple_index mt_ixTup (v_fld E.ins.cl E.n2 (v_var 0 ⟨_, rfl, _, _, rfl, rfl, f_tytn, a_cons (v_var 2 ⟨_, rfl, a_nil ⟨_, om_ixTupN i1 i2, ?_⟩⟩)⟩))
      refine ⟨_, o2_ixT (R := fStr (c.outs.getD (c.ins.idxOf z) "")) (at_nat ?_), a_nil ⟨l2 _ _, hW⟩⟩
      rw [List.getElem?_map, ho]
      rfl
    · have e : thingOf c.ins c.outs n z = (n, z) := if_neg hc
      rw [e] at hW
      have rest : PD (cxOf CX0 P w K mg base ["cell", "number", "name"] "thing_of" (defScope s_thing_of) f cdv A0 outer s H E0).nox ((defBody s_thing_of).drop 1) [.fz (fCell K CK CC c), .fz (fInt n), .fz (fStr z)] { nx := fun _ => W fNon, rt := W } :=
        d_one (p_ret (v_tup (a_cons (v_var 1 ⟨_, rfl, a_cons (v_var 2 ⟨_, rfl, a_nil ⟨l2 _ _, hW⟩⟩)⟩))))
      by_cases h0 : 0 < n
      · refine d_cons (p_no (b_w (w_and (b_cmp op_gt (v_var 1 ⟨_, rfl, v_int ⟨true, ?_, iteT ?_⟩⟩)))))
        · have := o2_I0 (g := fun i j => .bl (decide (j < i))) (i := n) (j := 0)
          rw [decide_eq_true h0] at this
          exact this
        refine w_and1 (b_cmp op_in_seq (v_var 2 ⟨_, rfl, v_fld E.ins.cl E.n2 (v_var 0 ⟨_, rfl, _, _, rfl, rfl, false, ?_, rfl, rest⟩)⟩))
        exact fun v v' F H ex p p' Q q => in_no K (fun z => hc ⟨h0, z⟩) v v' F H ex p (fTupN_tup p') Q q
      · refine d_cons (p_no (b_w (w_and (b_cmp op_gt (v_var 1 ⟨_, rfl, v_int ⟨false, ?_, iteF ⟨rfl, rest⟩⟩⟩)))))
        have := o2_I0 (g := fun i j => .bl (decide (j < i))) (i := n) (j := 0)
        rw [decide_eq_false h0] at this
        exact this
end
end TB

/-! TB5: chains, kept things, checks of sides and rows. -/
namespace TB
open PySem L2 PyProof.Rows DL
def chain (ins outs : List Str) (rows : List Row) (n : Nat) : List Triple := rows.flatMap fun r => (List.range n).map fun i => tripleOf ins outs (i : Nat) r
def keptOf (c : Cl) (n : Nat) (lost : List Thing) : List Thing := ((List.range n).flatMap fun i : Nat => (c.stored.filter fun z => !decide ((((i : Nat) : Int), z) ∈ lost)).map fun z => (((i : Nat) : Int), z)) ++ c.begn.map (fun z => ((0 : Int), z)) ++ c.endd.map (fun z => ((n : Int) - 1, z))
theorem lkF_nil {k : NestedKey} : lkF [] k = none := rfl
theorem lkF_cons {x : KF} {l : List KF} {k : NestedKey} : lkF (x :: l) k = if x.1 = k then some x.2 else lkF l k := by
  unfold lkF
  by_cases h : x.1 = k
  · rw [List.find?_cons_of_pos (by simpa using h), if_pos h]
    rfl
  · rw [List.find?_cons_of_neg (by simpa using h), if_neg h]
theorem lkF_map {k k' : NestedKey} {R : Fct} : ∀ l : List KF, lkF (l.map fun x => if x.1 = k then (x.1, R) else x) k' = if k' = k then (lkF l k).map (fun _ => R) else lkF l k'
  | [] => by
    rw [List.map_nil, lkF_nil, lkF_nil]
    split <;> rfl
  | x :: l => by
    rw [List.map_cons, lkF_cons, lkF_map l, lkF_cons, lkF_cons]
    by_cases h : x.1 = k
    · subst h
      simp only [if_true]
      by_cases h2 : k' = x.1
      · subst h2
        simp
      · simp [h2, Ne.symm h2]
    · simp only [if_neg h]
      by_cases h2 : k' = k
      · subst h2
        simp [h]
      · simp [h2]
theorem lkF_snoc {k k' : NestedKey} {R : Fct} : ∀ l : List KF, lkF (l ++ [(k, R)]) k' = (lkF l k').or (if k' = k then some R else none)
  | [] => by
    rw [List.nil_append, lkF_cons, lkF_nil]
    by_cases h : k = k'
    · subst h
      simp
    · simp [h, Ne.symm h]
  | x :: l => by
    rw [List.cons_append, lkF_cons, lkF_snoc l, lkF_cons]
    split
    · rfl
    · rfl
theorem lkF_ptF {kvs : List KF} {k k' : NestedKey} {R : Fct} : lkF (ptF kvs k R) k' = if k' = k then some R else lkF kvs k' := by
  unfold ptF
  cases h : lkF kvs k with
  | none =>
    rw [if_neg (by simp), lkF_snoc]
    by_cases e : k' = k
    · subst e
      rw [h, if_pos rfl]
      rfl
    · rw [if_neg e, if_neg e, Option.or_none]
  | some R0 =>
    rw [if_pos (by rfl), lkF_map, h]
    rfl
theorem lk_true {l : List Thing} {t : Thing} {R : Fct} : (lkF (l.foldl (fun kvs x => ptF kvs (kThing x) R) []) (kThing t)).isSome = decide (t ∈ l) := by
  have gen : ∀ (l : List Thing) (kvs : List KF), (lkF (l.foldl (fun kvs x => ptF kvs (kThing x) R) kvs) (kThing t)).isSome = ((lkF kvs (kThing t)).isSome || decide (t ∈ l)) := by
    intro l
    induction l with
    | nil => intro kvs; simp
    | cons a l ih =>
      intro kvs
      rw [List.foldl_cons, ih, lkF_ptF]
      by_cases h : t = a
      · subst h
        simp
      · have h2 : ¬ kThing t = kThing a := fun z => h (kThing_inj z)
        simp [h, h2]
  rw [gen]
  rfl
section
variable {P : Program} {w : World} {K : PySem.W.Frag} {mg : Str → Option Value} {base : Heap} {CK CC dL : Addr}
section
variable {X : Cx} {Γ : DL.Ctx} {pos : Pos} {W : Fct → DL.Ctx → Prop}
theorem v_varT (i : Nat) {x : Str} (h : ∃ Ps, Γ[i]? = some (.fz (fTupN X.K Ps)) ∧ W (fTup X.K Ps) Γ) (hN : X.N[i]? = some x := by rfl) (hv : Vis X.env.scope x := by first | exact Or.inl rfl | exact Or.inr (Or.inl rfl) | exact Or.inr (Or.inr rfl)) (hd : (x == ("__debug__" : Str)) = false := by decide) (hcd : (x == ("__classdict__" : Str)) = false := by decide) : PV X (.Name x pos) Γ W := by
  obtain ⟨Ps, h1, h2⟩ := h
  exact PV.cast (v_var i ⟨_, h1, _, fun _ _ => fTupN_tup, h2⟩ hN hv hd hcd)
end
/-! ### copies_of -/
abbrev s_copies_of : Stmt := top 44
def d_copies_of (K : PySem.W.Frag) (CK CC : Addr) : DSp := fun Ps W => ∃ c n r, Ps = [fCell K CK CC c, fInt (n : Nat), fRow K r] ∧ c.outs.length = c.ins.length ∧ n ≤ 200 ∧ W (fLst K (((List.range n).map fun i => tripleOf c.ins c.outs (i : Nat) r).map (fTriple K)))
abbrev N_copies : List Str := ["cell", "count", "triple", "number", "name"]
theorem sc_copies_of : FnScope N_copies ["cell", "count", "triple"] (defScope s_copies_of) := ⟨rfl, rfl, rfl, by decide +kernel, rfl, by decide +kernel, by decide +kernel⟩
theorem ok_copies_of (B : Free mg) (C : Cal P w K mg base 1 "thing_of" [] (d_thing_of K CK CC)) (h : HasF K mg "copies_of" s_copies_of []) : Cal P w K mg base 2 "copies_of" [] (d_copies_of K CK CC) := by
  refine cal_of h (ps := ["cell", "count", "triple"]) (fun _ _ _ _ _ _ us hl => match us, hl with | [_, _, _], _ => rfl) fun f fd F => ?_
  refine fn_d F sc_copies_of (fun Ps W h => ?_) fun cdv A0 outer s H E0 Ps W hr h => ?_
  · obtain ⟨c, n, r, rfl, _⟩ := h
    rfl
  · obtain ⟨c, n, r, rfl, hl, hn, hW⟩ := h
    refine d_one (p_ret (v_lc (own := [("number", 3)]) (j := 3) (blkOk_by (N := N_copies) (sc := defScope s_copies_of) (by decide +kernel)) sc_copies_of.nd (by decide) (fun _ _ _ _ _ => pgn 3 sc_copies_of.nd) (i_range B.range (v_var 1 ⟨_, rfl, (n : Nat), rfl, by omega, by omega, ?_⟩))))
    rw [Int.toNat_natCast]
    refine lcw_map (j := 3) (by decide) (List.range n) (fun i => fInt (i : Nat)) (fun i => fTriple K (tripleOf c.ins c.outs (i : Nat) r)) (by rw [List.length_range]; omega) (fun i hi s H C1 cl fp => ?_) ?_
    · refine v_callTy call_tpl B.tuple (a_cons (v_lc (own := [("name", 4)]) (j := 4) (blkOk_by (N := N_copies) (by kernel_rfl)) sc_copies_of.nd (by decide) (fun _ _ _ _ _ => pgn 4 sc_copies_of.nd) (i_tup (v_var 2 ⟨_, rfl, _, rfl, ?_⟩))))
      refine lcw_map (j := 4) (by decide) (rowL r) fStr (fun z => fThing K (thingOf c.ins c.outs (i : Nat) z)) (by show 3 ≤ 50000; decide) (fun z hz s H C2 cl fp => ?_) ?_
      · exact v_call C hr (a_cons (v_var 0 ⟨_, rfl, a_cons (v_var 3 ⟨_, rfl, a_cons (v_var 4 ⟨_, rfl, a_nil ⟨c, _, z, rfl, hl, rfl, rfl⟩⟩)⟩)⟩))
      · exact a_nil ⟨_, oc_tuple, rfl, rfl⟩
    · rw [List.map_map] at hW
      exact hW
/-! ### chain_triples -/
abbrev s_chain_triples : Stmt := top 45
def d_chain_triples (K : PySem.W.Frag) (CK CC : Addr) : DSp := fun Ps W => ∃ c n, Ps = [fCell K CK CC c, fInt (n : Nat)] ∧ c.outs.length = c.ins.length ∧ n ≤ 200 ∧ c.rows.length ≤ 200 ∧ W (fLst K ((chain c.ins c.outs c.rows n).map (fTriple K)))
abbrev N_chain : List Str := ["cell", "count", "triple", "copy"]
theorem sc_chain_triples : FnScope N_chain ["cell", "count"] (defScope s_chain_triples) := ⟨rfl, rfl, rfl, by decide +kernel, rfl, by decide +kernel, by decide +kernel⟩
theorem res2_all {α β : Type} (ys : α → List β) (g : β → Fct) (l : List α) : res2 ys (fun _ _ => true) (fun _ y => g y) l = (l.flatMap ys).map g := by
  unfold res2
  rw [List.map_flatMap]
  congr 1
  funext x
  rw [List.filter_eq_self.mpr fun _ _ => rfl]
theorem ok_chain_triples (E : CellE K mg CC) (C : Cal P w K mg base 2 "copies_of" [] (d_copies_of K CK CC)) (h : HasF K mg "chain_triples" s_chain_triples []) : Cal P w K mg base 3 "chain_triples" [] (d_chain_triples K CK CC) := by
  refine cal_of h (ps := ["cell", "count"]) (fun _ _ _ _ _ _ us hl => match us, hl with | [_, _], _ => rfl) fun f fd F => ?_
  refine fn_d F sc_chain_triples (fun Ps W h => ?_) fun cdv A0 outer s H E0 Ps W hr h => ?_
  · obtain ⟨c, n, rfl, _⟩ := h
    rfl
  · obtain ⟨c, n, rfl, hl, hn, hrl, hW⟩ := h
    refine d_one (p_ret (v_lc2 (α := Row) (β := Triple) (own := [("triple", 2), ("copy", 3)]) (vs1 := [3]) (j := 2) (j1 := 3) (blkOk_by (N := N_chain) (sc := defScope s_chain_triples) (by decide +kernel)) sc_chain_triples.nd (by decide) (by decide) (by decide) (fun _ _ _ _ _ => pgn 2 sc_chain_triples.nd) (fun _ _ _ _ _ => pgn 3 sc_chain_triples.nd) (i_tup (v_fld E.ins.cl E.n5 (v_var 0 ⟨_, rfl, _, _, rfl, rfl, _, rfl, ?_⟩)))))
    refine ⟨c.rows, fRow K, fun r => (List.range n).map fun i => tripleOf c.ins c.outs (i : Nat) r, fun _ => fTriple K, fun _ _ => true, fun _ => fTriple K, rfl, ⟨hrl, fun r hr => by rw [List.length_map, List.length_range]; exact hn, fun r hr0 s H C1 cl fp => ?_⟩, ?_⟩
    · refine i_list (v_call C hr (a_cons (v_var 0 ⟨_, rfl, a_cons (v_var 1 ⟨_, rfl, a_cons (v_var 2 ⟨_, rfl, a_nil ⟨c, n, r, rfl, hl, hn, _, rfl, rfl, rfl, fun t ht => ⟨rfl, rfl, fun _ s H C2 cl fp => v_var 3 ⟨_, rfl, rfl, rfl⟩⟩⟩⟩)⟩)⟩)))
    · rw [res2_all]
      exact hW
end
end TB

/-! TB6: kept things, checks of sides and rows. -/
namespace TB
open PySem L2 PyProof.Rows DL
section
variable {P : Program} {w : World} {K : PySem.W.Frag} {mg : Str → Option Value} {base : Heap} {CK CC dL : Addr}
abbrev s_kept : Stmt := top 47
def d_kept (K : PySem.W.Frag) (CK CC : Addr) : DSp := fun Ps W => ∃ c n lost, Ps = [fCell K CK CC c, fInt (n : Nat), fTup K (lost.map (fThing K))] ∧ n ≤ 200 ∧ c.stored.length ≤ 200 ∧ c.begn.length ≤ 200 ∧ c.endd.length ≤ 200 ∧ lost.length ≤ 200 ∧ W (fLst K ((keptOf c n lost).map (fThing K)))
abbrev N_kept : List Str := ["cell", "count", "lost", "gone", "things", "thing", "number", "name"]
theorem sc_kept : FnScope N_kept ["cell", "count", "lost"] (defScope s_kept) := ⟨rfl, rfl, rfl, by decide +kernel, rfl, by decide +kernel, by decide +kernel⟩
theorem ok_kept (B : Free mg) (E : CellE K mg CC) (h : HasF K mg "kept_things" s_kept []) : Cal P w K mg base 1 "kept_things" [] (d_kept K CK CC) := by
  refine cal_of h (ps := ["cell", "count", "lost"]) (fun _ _ _ _ _ _ us hl => match us, hl with | [_, _, _], _ => rfl) fun f fd F => ?_
  refine fn_d F sc_kept (fun Ps W h => ?_) fun cdv A0 outer s H E0 Ps W hr h => ?_
  · obtain ⟨c, n, lost, rfl, _⟩ := h
    rfl
  · obtain ⟨c, n, lost, rfl, hn, h1, h2, h3, h4, hW⟩ := h
    refine d_cons (p_asgO (i := 3) (n_dc (α := Thing) (own := [("thing", 5)]) (j := 5) hr (blkOk_by (N := N_kept) (sc := defScope s_kept) (by decide +kernel)) sc_kept.nd (by decide) (fun _ _ _ _ _ => pgn 5 sc_kept.nd) (i_tup (v_var 2 ⟨_, rfl, _, rfl, ?_⟩))) sc_kept.nd)
    refine ⟨lost, fThing K, kThing, fun _ => fBl true, rfl, by omega, fun t ht s H C1 cl fp => v_var 5 ⟨_, rfl, keyF_thing, rfl, fun s H C2 cl fp => v_bl ⟨rfl, rfl⟩⟩, ?_⟩
    show PD _ _ [.fz (fCell K CK CC c), .fz (fInt (n : Nat)), .fz (fTup K (lost.map (fThing K))), .ow (oDN P w K (lost.foldl (fun kvs x => ptF kvs (kThing x) (fBl true)) [])), .no, .no, .no, .no] _
    generalize hk : lost.foldl (fun kvs x => ptF kvs (kThing x) (fBl true)) [] = kvs
    have hin : ∀ t : Thing, (lkF kvs (kThing t)).isSome = decide (t ∈ lost) := fun t => by rw [← hk]; exact lk_true
    refine d_cons (p_setLc2 (α := Nat) (β := Str) (i := 4) (own := [("number", 6), ("name", 7)]) (vs1 := [7]) (j := 6) (j1 := 7) (blkOk_by (N := N_kept) (sc := defScope s_kept) (by decide +kernel)) sc_kept.nd (by decide) (by decide) (by decide) (fun _ _ _ _ _ => pgn 6 sc_kept.nd) (fun _ _ _ _ _ => pgn 7 sc_kept.nd) rfl (i_range B.range (v_var 1 ⟨_, rfl, (n : Nat), rfl, by omega, by omega, ?_⟩)))
    rw [Int.toNat_natCast]
    refine ⟨List.range n, fun i => fInt (i : Nat), fun _ => c.stored, fun _ => fStr, fun i z => !decide (((i : Int), z) ∈ lost), fun i z => fThing K ((i : Int), z), rfl, ⟨by rw [List.length_range]; exact hn, fun _ _ => h1, fun i hi s H C1 cl fp => ?_⟩, ?_⟩
    · refine i_tup (v_fld E.ins.cl E.n6 (v_var 0 ⟨_, rfl, _, _, rfl, rfl, _, rfl, rfl, rfl, fun z hz s H C2 cl fp => ?_⟩))
      refine b_inO 3 (op_notInN hr) (v_tup (a_cons (v_var 6 ⟨_, rfl, a_cons (v_var 7 ⟨_, rfl, a_nil ⟨(by show 2 ≤ 100000; decide), kThing ((i : Int), z), kvs, keyF_thing, rfl, ?_⟩⟩)⟩)))
      refine ⟨by rw [if_pos rfl, hin], rfl, fun _ s H C2 cl fp => ?_⟩
      exact v_tup (a_cons (v_var 6 ⟨_, rfl, a_cons (v_var 7 ⟨_, rfl, a_nil ⟨(by show 2 ≤ 100000; decide), rfl, rfl⟩⟩)⟩))
    show PD _ _ [.fz (fCell K CK CC c), .fz (fInt (n : Nat)), .fz (fTup K (lost.map (fThing K))), .ow (oDN P w K kvs), .fz (fLst K (res2 (fun _ => c.stored) (fun (i : Nat) z => !decide ((((i : Nat) : Int), z) ∈ lost)) (fun (i : Nat) z => fThing K (((i : Nat) : Int), z)) (List.range n))), .no, .no, .no] _
    have er : res2 (fun _ => c.stored) (fun (i : Nat) z => !decide ((((i : Nat) : Int), z) ∈ lost)) (fun (i : Nat) z => fThing K (((i : Nat) : Int), z)) (List.range n) = ((List.range n).flatMap fun i : Nat => (c.stored.filter fun z => !decide ((((i : Nat) : Int), z) ∈ lost)).map fun z => (((i : Nat) : Int), z)).map (fThing K) := by
      unfold res2
      rw [List.map_flatMap]
      congr 1
      funext i
      rw [List.map_map]
      rfl
    rw [er]
    have lb : ((List.range n).flatMap fun i : Nat => (c.stored.filter fun z => !decide ((((i : Nat) : Int), z) ∈ lost)).map fun z => (((i : Nat) : Int), z)).length ≤ 40000 := by
      have key : ∀ l : List Nat, (l.flatMap fun i : Nat => (c.stored.filter fun z => !decide ((((i : Nat) : Int), z) ∈ lost)).map fun z => (((i : Nat) : Int), z)).length ≤ l.length * 200 := by
        intro l
        induction l with
        | nil => simp
        | cons a l ih =>
          rw [List.flatMap_cons, List.length_append, List.length_map, List.length_cons, Nat.succ_mul]
          have := List.length_filter_le (fun z => !decide (((a : Int), z) ∈ lost)) c.stored
          omega
      have h5 := key (List.range n)
      rw [List.length_range] at h5
      have h6 : n * 200 ≤ 200 * 200 := Nat.mul_le_mul_right _ hn
      omega
    refine d_one (p_ret (v_op op_cat (v_op op_cat (v_var 4 ⟨_, rfl, ?_⟩))))
    refine v_lc (own := [("name", 7)]) (j := 7) (blkOk_by (N := N_kept) (sc := defScope s_kept) (by decide +kernel)) sc_kept.nd (by decide) (fun _ _ _ _ _ => pgn 7 sc_kept.nd) (i_tup (v_fld E.ins.cl E.n8 (v_var 0 ⟨_, rfl, _, _, rfl, rfl, _, rfl, ?_⟩)))
    refine lcw_map (j := 7) (by decide) c.begn fStr (fun z => fThing K ((0 : Int), z)) (by omega) (fun z hz s H C1 cl fp => v_tup (a_cons (v_int (a_cons (v_var 7 ⟨_, rfl, a_nil ⟨(by show 2 ≤ 100000; decide), rfl, rfl⟩⟩))))) ?_
    refine ⟨_, o2_catL (by rw [List.length_map, List.length_map]; omega), ?_⟩
    refine v_lc (own := [("name", 7)]) (j := 7) (blkOk_by (N := N_kept) (sc := defScope s_kept) (by decide +kernel)) sc_kept.nd (by decide) (fun _ _ _ _ _ => pgn 7 sc_kept.nd) (i_tup (v_fld E.ins.cl E.n9 (v_var 0 ⟨_, rfl, _, _, rfl, rfl, _, rfl, ?_⟩)))
    refine lcw_map (j := 7) (by decide) c.endd fStr (fun z => fThing K ((n : Int) - 1, z)) (by omega) (fun z hz s H C1 cl fp => v_tup (a_cons (v_op op_sub (v_var 1 ⟨_, rfl, v_int ⟨_, o2_I0, a_cons (v_var 7 ⟨_, rfl, a_nil ⟨(by show 2 ≤ 100000; decide), rfl, rfl⟩⟩)⟩⟩)))) ?_
    refine ⟨_, o2_catL (by rw [List.length_append, List.length_map, List.length_map, List.length_map]; omega), ?_⟩
    unfold keptOf at hW
    rw [List.map_append, List.map_append, List.map_map (l := c.begn), List.map_map (l := c.endd)] at hW
    exact hW
end
end TB

/-! TB7: check_sides, check_cell_triples, check_lost. -/
namespace TB
open PySem L2 PyProof.Rows DL
def thD (t : Thing) : PyData := .tuple [.int t.1, .str t.2]
def thLt (t u : Thing) : Prop := PySem.W.dataLt (thD t) (thD u) = true
theorem dat_thing {K : PySem.W.Frag} {t : Thing} : DatF K (fThing K t) (thD t) := dat_tup (.cons dat_int (.cons dat_str .nil))
theorem thD_alike (t u : Thing) : PySem.W.alike (thD t) (thD u) = true := rfl
theorem thD_small (t u : Thing) : small8 (thD t) (thD u) := by
  unfold small8
  have : (thD t).depth ≤ 8 := by
    unfold thD
    simp [PyData.depth, PyData.depthAll]
  omega
section
variable {P : Program} {w : World} {K : PySem.W.Frag} {mg : Str → Option Value} {base : Heap} {CK CC dL : Addr}
/-- what check_names may be called with -/
structure CNs (P : Program) (w : World) (K : PySem.W.Frag) (mg : Str → Option Value) (base : Heap) : Prop where
  c2 : Cal P w K mg base 2 "check_names" [fNon, fTup K []] (d_check_names K)
  c3 : Cal P w K mg base 2 "check_names" [fTup K []] (d_check_names K)
  c4 : Cal P w K mg base 2 "check_names" [] (d_check_names K)
theorem cns_of {e : Addr} (B : Free mg) (C : Cal P w K mg base 1 "is_name" [] d_is_name) (h : HasF K mg "check_names" s_check_names [.non, .ref e]) (he : ∀ F, (fTup K []).p (.ref e) F) : CNs P w K mg base := by
  obtain ⟨f, fd, h1, F⟩ := h
  have G := fn_check_names (base := base) (P := P) (w := w) B C F
  obtain ⟨d2, v2, b2⟩ := F.binds1 (ps := ["names", "most", "allowed", "barred"]) 2 0 (by simp) (by rfl) (fun T kV doc pm an cdv ct us its h1 h2 => match us, its, h1, h2 with | [_, _], [_, _], _, _ => ⟨_, rfl, rfl⟩)
  obtain ⟨d3, v3, b3⟩ := F.binds1 (ps := ["names", "most", "allowed", "barred"]) 3 1 (by simp) (by rfl) (fun T kV doc pm an cdv ct us its h1 h2 => match us, its, h1, h2 with | [_, _, _], [_, _], _, _ => ⟨_, rfl, rfl⟩)
  obtain ⟨d4, v4, b4⟩ := F.binds1 (ps := ["names", "most", "allowed", "barred"]) 4 2 (by simp) (by rfl) (fun T kV doc pm an cdv ct us its h1 h2 => match us, its, h1, h2 with | [_, _, _, _], [_, _], _, _ => ⟨_, rfl, rfl⟩)
  refine ⟨⟨f, fd, _, _, d2, h1, F.kp, b2, v2, fun F => .cons rfl (.cons (he F) .nil), G⟩, ⟨f, fd, _, _, d3, h1, F.kp, b3, v3, fun F => .cons (he F) .nil, G⟩, ⟨f, fd, _, _, d4, h1, F.kp, b4, v4, fun F => .nil, G⟩⟩
/-! ### check_sides -/
abbrev s_check_sides : Stmt := top 39
def d_check_sides (K : PySem.W.Frag) : DSp := fun Ps W => ∃ c, Ps = [fNames K c.ins, fNames K c.inner, fNames K c.outs] ∧ Sides c ∧ W fNon
theorem sc_check_sides : FnScope ["ins", "inner", "outs"] ["ins", "inner", "outs"] (defScope s_check_sides) := ⟨rfl, rfl, rfl, by decide +kernel, rfl, by decide +kernel, by decide +kernel⟩
theorem ok_check_sides (B : Free mg) (C : CNs P w K mg base) (h3 : ∃ t, mg "MOST_SIDE" = some (.int 3 t)) (h6 : ∃ t, mg "MOST_INNER" = some (.int 6 t)) (h : HasF K mg "check_sides" s_check_sides []) : Cal P w K mg base 3 "check_sides" [] (d_check_sides K) := by
  refine cal_of h (ps := ["ins", "inner", "outs"]) (fun _ _ _ _ _ _ us hl => match us, hl with | [_, _, _], _ => rfl) fun f fd F => ?_
  refine fn_d F sc_check_sides (fun Ps W h => ?_) fun cdv A0 outer s H E0 Ps W hr h => ?_
  · obtain ⟨c, rfl, _⟩ := h
    rfl
  · obtain ⟨c, rfl, S, hW⟩ := h
    have nd1 := List.nodup_append.mp S.nd
    have nd2 := List.nodup_append.mp nd1.1
    have m1 : ∀ x ∈ c.ins, x ∈ c.ins ++ c.inner ++ c.outs := fun x hx => List.mem_append_left _ (List.mem_append_left _ hx)
    have m2 : ∀ x ∈ c.inner, x ∈ c.ins ++ c.inner ++ c.outs := fun x hx => List.mem_append_left _ (List.mem_append_right _ hx)
    have m3 : ∀ x ∈ c.outs, x ∈ c.ins ++ c.inner ++ c.outs := fun x hx => List.mem_append_right _ hx
    refine d_cons (p_expr (v_call C.c2 hr (a_cons (v_var 0 ⟨_, rfl, a_cons (v_gint (a_nil ⟨c.ins, _, _, [], rfl, fun x hx => S.nm x (m1 x hx), nd2.1, .inr ⟨3, rfl, by have := S.li; omega⟩, .inl rfl, fun x _ z => (by cases z), ?_⟩) h3)⟩))))
    refine d_cons (p_expr (v_call C.c4 hr (a_cons (v_var 1 ⟨_, rfl, a_cons (v_gint (a_cons (v_non (a_cons (v_var 0 ⟨_, rfl, a_nil ⟨c.inner, _, _, c.ins, rfl, fun x hx => S.nm x (m2 x hx), nd2.2.1, .inr ⟨6, rfl, by have := S.ln; omega⟩, .inl rfl, fun x hx z => nd2.2.2 x z x hx rfl, ?_⟩⟩)))) h6)⟩))))
    refine d_cons (p_no (b_w (w_or (b_not (b_val (v_callB call_isi B.isi (a_cons (v_var 2 ⟨_, rfl, a_cons (v_bty (n := "tuple") (a_nil ⟨_, oc_isi ty_tup (by decide +kernel), true, rfl, iteF ?_⟩) B.tuple)⟩)))))))) 
    refine w_or1 (b_cmp op_ne (v_callB call_ln B.len (a_cons (v_var 2 ⟨_, rfl, a_nil ⟨_, oc_lenT, v_callB call_ln B.len (a_cons (v_var 0 ⟨_, rfl, a_nil ⟨_, oc_lenT, false, ?_, rfl, ?_⟩⟩))⟩⟩))))
    · have := o2_ne (x := .int ((c.outs.map fStr).length : Nat)) (y := .int ((c.ins.map fStr).length : Nat)) rfl
      rw [decide_eq_true (by rw [List.length_map, List.length_map, S.lo])] at this
      exact this
    refine d_one (p_expr (v_call C.c4 hr (a_cons (v_var 2 ⟨_, rfl, a_cons (v_non (a_cons (v_non (a_cons (v_op op_catA (v_var 0 ⟨_, rfl, v_var 1 ⟨_, rfl, fNames K (c.ins ++ c.inner), ?_, a_nil ⟨c.outs, _, _, c.ins ++ c.inner, rfl, fun x hx => S.nm x (m3 x hx), nd1.2.1, .inl rfl, .inl rfl, fun x hx z => nd1.2.2 x z x hx rfl, hW⟩⟩⟩))))))⟩))))
    unfold fNames
    rw [List.map_append]
    exact o2_catT (by rw [List.length_map, List.length_map]; have := S.li; have := S.ln; omega)
/-! ### check_cell_triples -/
abbrev s_check_ct : Stmt := top 40
def d_check_ct (K : PySem.W.Frag) : DSp := fun Ps W => ∃ (rows : List Row) (names : List Str), Ps = [fTup K (rows.map (fRow K)), fNames K names] ∧ rows.length ≤ 8 ∧ (∀ r ∈ rows, ∀ x ∈ rowL r, x ∈ names) ∧ W fNon
abbrev N_ct : List Str := ["triples", "names", "index", "triple", "name"]
theorem sc_check_ct : FnScope N_ct ["triples", "names"] (defScope s_check_ct) := ⟨rfl, rfl, rfl, by decide +kernel, rfl, by decide +kernel, by decide +kernel⟩
theorem ok_check_ct (B : Free mg) (C : Cal P w K mg base 1 "is_row" [] (d_is_row (K := K))) (h8 : ∃ t, mg "MOST_TRIPLES" = some (.int 8 t)) (h : HasF K mg "check_cell_triples" s_check_ct []) : Cal P w K mg base 2 "check_cell_triples" [] (d_check_ct K) := by
  refine cal_of h (ps := ["triples", "names"]) (fun _ _ _ _ _ _ us hl => match us, hl with | [_, _], _ => rfl) fun f fd F => ?_
  refine fn_d F sc_check_ct (fun Ps W h => ?_) fun cdv A0 outer s H E0 Ps W hr h => ?_
  · obtain ⟨rows, names, rfl, _⟩ := h
    rfl
  · obtain ⟨rows, names, rfl, hl, hin, hW⟩ := h
    refine d_cons (p_no (b_not (b_val (v_callB call_isi B.isi (a_cons (v_var 0 ⟨_, rfl, a_cons (v_bty (n := "tuple") (a_nil ⟨_, oc_isi ty_tup (by decide +kernel), true, rfl, rfl, ?_⟩) B.tuple)⟩))))))
    refine d_one (p_for (pg_tup rfl (pgs_cons (pgn 2 sc_check_ct.nd) (pgs_cons (pgn 3 sc_check_ct.nd) pgs_nil))) (i_enumT B.enu (v_var 0 ⟨_, rfl, _, rfl, ?_⟩)))
    refine ⟨fun i Γ => ∃ s4 s5, Γ = [.fz (fTup K (rows.map (fRow K))), .fz (fNames K names), s4, s5, .no], ⟨_, _, rfl⟩, ?_, fun Γn _ => hW⟩
    rintro i P0 Γi hP ⟨s4, s5, rfl⟩
    obtain ⟨R, hR, rfl⟩ := enumF_at hP
    obtain ⟨r, hr0, rfl⟩ := map_at hR
    have hrm : r ∈ rows := List.mem_of_getElem? hr0
    have hil : i < rows.length := (List.getElem?_eq_some_iff.mp hr0).1
    refine dt_tup rfl (dts_cons (dt_name (dts_cons (dt_name (dts_nil ?_)))))
    show PD _ _ [.fz (fTup K (rows.map (fRow K))), .fz (fNames K names), .fz (fInt (i : Nat)), .fz (fRow K r), .no] _
    refine d_cons (p_no (b_w (w_or (b_cmp op_eq (v_var 2 ⟨_, rfl, v_gint ⟨false, ?_, iteF ?_⟩ h8⟩)))))
    · have := o2_eq (x := .int (i : Nat)) (y := .int 8) rfl
      rw [decide_eq_false (fun z => by injection z with z; omega)] at this
      exact this
    refine w_or1 (b_not (b_val (v_call C hr (a_cons (v_var 3 ⟨_, rfl, a_cons (v_int (a_nil ⟨_, 3, rfl, rfl, true, rfl, rfl, ?_⟩))⟩)))))
    refine d_one (p_no (b_not (b_val (v_callB (cr_all rfl) B.all (a_cons (v_lc (own := [("name", 4)]) (j := 4) (blkOk_by (N := N_ct) (sc := defScope s_check_ct) (by decide +kernel)) sc_check_ct.nd (by decide) (fun _ _ _ _ _ => pgn 4 sc_check_ct.nd) (i_tup (v_var 3 ⟨_, rfl, _, rfl, ?_⟩))))))))
    refine lcw_map (j := 4) (by decide) (rowL r) fStr (fun _ => fBl true) (by show 3 ≤ 50000; decide) (fun x hx s H C1 cl fp => ?_) ?_
    · refine v_and (v_callB call_isi B.isi (a_cons (v_var 4 ⟨_, rfl, a_cons (v_bty (n := "str") (a_nil ⟨_, oc_isi ty_str (by decide +kernel), true, rfl, iteT ?_⟩) B.str)⟩)))
      exact v_one (v_cmp op_in_seq (v_var 4 ⟨_, rfl, v_var 1 ⟨_, rfl, _, in_yes K (hin r hrm x hx), rfl, rfl⟩⟩))
    · exact a_nil ⟨_, oc_all (K := K) (bs := [true, true, true]), true, rfl, rfl, _, _, rfl⟩
/-! ### check_lost -/
abbrev s_check_lost : Stmt := top 49
def d_check_lost (K : PySem.W.Frag) (CK CC : Addr) : DSp := fun Ps W => ∃ (c : Cl) (n : Int) (lost : List Thing), Ps = [fCell K CK CC c, fInt n, fTup K (lost.map (fThing K))] ∧ (∀ t ∈ lost, 0 ≤ t.1 ∧ t.1 ≤ n - 1 ∧ t.2 ∈ c.stored) ∧ lost.Pairwise thLt ∧ W fNon
abbrev N_lost : List Str := ["cell", "count", "lost", "index", "thing"]
theorem sc_check_lost : FnScope N_lost ["cell", "count", "lost"] (defScope s_check_lost) := ⟨rfl, rfl, rfl, by decide +kernel, rfl, by decide +kernel, by decide +kernel⟩
theorem ok_check_lost (B : Free mg) (E : CellE K mg CC) (C : Cal P w K mg base 1 "is_row" [] (d_is_row (K := K))) (CW : Cal P w K mg base 2 "is_within" [] d_is_within) (h : HasF K mg "check_lost" s_check_lost []) : Cal P w K mg base 3 "check_lost" [] (d_check_lost K CK CC) := by
  refine cal_of h (ps := ["cell", "count", "lost"]) (fun _ _ _ _ _ _ us hl => match us, hl with | [_, _, _], _ => rfl) fun f fd F => ?_
  refine fn_d F sc_check_lost (fun Ps W h => ?_) fun cdv A0 outer s H E0 Ps W hr h => ?_
  · obtain ⟨c, n, lost, rfl, _⟩ := h
    rfl
  · obtain ⟨c, n, lost, rfl, hl, hp, hW⟩ := h
    refine d_cons (p_no (b_not (b_val (v_callB call_isi B.isi (a_cons (v_var 2 ⟨_, rfl, a_cons (v_bty (n := "tuple") (a_nil ⟨_, oc_isi ty_tup (by decide +kernel), true, rfl, rfl, ?_⟩) B.tuple)⟩))))))
    refine d_one (p_for (pg_tup rfl (pgs_cons (pgn 3 sc_check_lost.nd) (pgs_cons (pgn 4 sc_check_lost.nd) pgs_nil))) (i_enumT B.enu (v_var 2 ⟨_, rfl, _, rfl, ?_⟩)))
    refine ⟨fun i Γ => ∃ s4 s5, Γ = [.fz (fCell K CK CC c), .fz (fInt n), .fz (fTup K (lost.map (fThing K))), s4, s5], ⟨_, _, rfl⟩, ?_, fun Γn _ => hW⟩
    rintro i P0 Γi hP ⟨s4, s5, rfl⟩
    obtain ⟨R, hR, rfl⟩ := enumF_at hP
    obtain ⟨t, ht, rfl⟩ := map_at hR
    have htm : t ∈ lost := List.mem_of_getElem? ht
    obtain ⟨t1, t2, t3⟩ := hl t htm
    refine dt_tup rfl (dts_cons (dt_name (dts_cons (dt_name (dts_nil ?_)))))
    show PD _ _ [.fz (fCell K CK CC c), .fz (fInt n), .fz (fTup K (lost.map (fThing K))), .fz (fInt (i : Nat)), .fz (fThing K t)] _
    refine d_cons (p_no (b_w (w_or (b_not (b_val (v_call C hr (a_cons (v_var 4 ⟨_, rfl, a_cons (v_int (a_nil ⟨_, 2, rfl, rfl, true, rfl, iteF ?_⟩))⟩)))))))) 
    refine w_or1 (b_not (b_val (v_call CW hr (a_cons (v_ix ix_tup (v_var 4 ⟨_, rfl, v_int ⟨fInt t.1, o2_ixT rfl, ?_⟩⟩))))))
    refine a_cons (v_int (a_cons (v_op op_sub (v_var 1 ⟨_, rfl, v_int ⟨_, o2_I0, a_nil ⟨t.1, 0, n - 1, rfl, t1, t2, true, rfl, rfl, ?_⟩⟩⟩))))
    refine d_cons (p_no (b_w (w_or (b_not (b_val (v_callB call_isi B.isi (a_cons (v_ix ix_tup (v_var 4 ⟨_, rfl, v_int ⟨fStr t.2, o2_ixT rfl, ?_⟩⟩)))))))))
    refine a_cons (v_bty (n := "str") (a_nil ⟨_, oc_isi ty_str (by decide +kernel), true, rfl, iteF ?_⟩) B.str)
    refine w_or1 (b_cmp op_notIn_seq (v_ix ix_tup (v_var 4 ⟨_, rfl, v_int ⟨fStr t.2, o2_ixT rfl, v_fld E.ins.cl E.n6 (v_var 0 ⟨_, rfl, _, _, rfl, rfl, false, notin_no K t3, rfl, ?_⟩)⟩⟩)))
    refine d_one (p_no (b_w (w_and (b_cmp op_gt (v_var 3 ⟨_, rfl, v_int ⟨decide ((0 : Int) < (i : Nat)), o2_I0, if_both ⟨rfl, _, _, rfl⟩ fun hk r => ?_⟩⟩)))))
    have h0 : (0 : Int) < (i : Nat) := of_decide_eq_true hk
    have hi : i < lost.length := (List.getElem?_eq_some_iff.mp ht).1
    have hu : lost[i - 1]? = some lost[i - 1] := List.getElem?_eq_getElem (by omega)
    generalize lost[i - 1] = u at hu
    have lt : thLt u t := by
      have h5 := List.pairwise_iff_getElem.mp hp (i - 1) i (by omega) hi (by omega)
      rw [(List.getElem?_eq_some_iff.mp hu).2, (List.getElem?_eq_some_iff.mp ht).2] at h5
      exact h5
    refine w_and1 (b_cmp (op_geD hr) (v_ix ix_tup (v_var 2 ⟨_, rfl, v_op op_sub (v_var 3 ⟨_, rfl, v_int ⟨_, o2_I0, fThing K u, o2_ixT ?_, v_var 4 ⟨_, rfl, false, ?_, r⟩⟩⟩)⟩)))
    · have e : ((i : Nat) : Int) - 1 = ((i - 1 : Nat) : Int) := by omega
      rw [e]
      refine at_nat ?_
      rw [List.getElem?_map, hu]
      rfl
    · have := o2_geD (K := K) (dat_thing (t := u)) (dat_thing (t := t)) (thD_alike u t) (fun z => nomatch z) (thD_small u t)
      rw [show PySem.W.dataLt (thD u) (thD t) = true from lt] at this
      exact this
end
end TB

/-! TB8: table_of. -/
namespace TB
open PySem L2 PyProof.Rows DL
def kv3 (x : I3) : List (I3 × Int) := [((0, x.2.1, x.2.2), x.1), ((1, x.1, x.2.2), x.2.1), ((2, x.1, x.2.1), x.2.2)]
def k3 (p : I3) : NestedKey := .tup [.num p.1, .num p.2.1, .num p.2.2]
theorem k3_inj {p q : I3} (h : k3 p = k3 q) : p = q := by
  unfold k3 at h
  injection h with h
  injection h with h1 h
  injection h with h2 h
  injection h with h3 _
  injection h1 with h1
  injection h2 with h2
  injection h3 with h3
  exact Prod.ext h1 (Prod.ext h2 h3)
theorem keyF_t3 {K : PySem.W.Frag} {p : I3} : KeyF K (fT3 K p) (k3 p) := by
  refine ⟨?_, fun v F h => ?_⟩
  · unfold k3
    simp [NestedKey.depth, NestedKey.depthAll]
  · obtain ⟨a, xs, rfl, h2, h3⟩ := h
    have e : xs = [.int p.1, .int p.2.1, .int p.2.2] := allP_fV (ys := [.int p.1, .int p.2.1, .int p.2.2]) h3
    subst e
    exact ⟨.tup h2 (.cons (.int _) (.cons (.int _) (.cons (.int _) .nil))), a, rfl⟩
/-- a relation between images is a partial rule at each place -/
def Func (D : I3 → Prop) : Prop := ∀ x y, D x → D y → ∀ p ∈ kv3 x, ∀ q ∈ kv3 y, p.1 = q.1 → p.2 = q.2
def TInv (D : I3 → Prop) (kvs : List KF) : Prop := ∀ k R, lkF kvs k = some R → ∃ x, D x ∧ ∃ p ∈ kv3 x, k = k3 p.1 ∧ R = fInt p.2
theorem TInv.nil {D : I3 → Prop} : TInv D [] := fun k R h => by cases h
theorem TInv.get {D : I3 → Prop} {kvs : List KF} (T : TInv D kvs) (hf : Func D) {x : I3} (hx : D x) {p : I3 × Int} (hp : p ∈ kv3 x) : (lkF kvs (k3 p.1)).getD (fInt p.2) = fInt p.2 := by
  cases h : lkF kvs (k3 p.1) with
  | none => rfl
  | some R =>
    obtain ⟨y, hy, q, hq, e1, e2⟩ := T _ _ h
    have := hf x y hx hy p hp q hq (k3_inj e1)
    show R = fInt p.2
    rw [e2, this]
theorem TInv.put {D : I3 → Prop} {kvs : List KF} (T : TInv D kvs) {x : I3} (hx : D x) {p : I3 × Int} (hp : p ∈ kv3 x) : TInv D (ptF kvs (k3 p.1) (fInt p.2)) := fun k R h => by
  rw [lkF_ptF] at h
  split at h
  · rename_i e
    cases h
    exact ⟨x, hx, p, hp, e, rfl⟩
  · exact T k R h
theorem ptF_len (kvs : List KF) (k : NestedKey) (R : Fct) : (ptF kvs k R).length ≤ kvs.length + 1 := by
  unfold ptF
  split
  · rw [List.length_map]
    omega
  · rw [List.length_append, List.length_singleton]
    omega
/-- all images -/
def AllImg (z : Str) (c : Bool) (n : Nat) (ts : List I3) (x : I3) : Prop := (c = true ∧ ∃ i, i < n ∧ x = ((i : Int), (i : Int), (i : Int))) ∨ ∃ t ∈ ts, x ∈ imgs z t
def Bd3 (t : I3) : Prop := (0 ≤ t.1 ∧ t.1 < 64) ∧ (0 ≤ t.2.1 ∧ t.2.1 < 64) ∧ (0 ≤ t.2.2 ∧ t.2.2 < 64)
section
variable {P : Program} {w : World} {K : PySem.W.Frag} {mg : Str → Option Value} {base : Heap} {CK CC dL : Addr}
abbrev s_table_of : Stmt := top 35
def d_table_of (K : PySem.W.Frag) (CK : Addr) : DSp := fun Ps W => ∃ (z : Str) (c : Bool) (n : Nat) (ts : List I3), Ps = [fKind CK z c, fInt (n : Nat), fLst K (ts.map (fT3 K))] ∧ z ∈ words ∧ n ≤ 64 ∧ ts.length ≤ 200 ∧ (∀ t ∈ ts, Bd3 t) ∧ Func (AllImg z c n ts) ∧ ∀ R, W (fTup K [R, fNon])
abbrev N_table : List Str := ["kind", "size", "triples", "table", "thing", "key", "worth", "index", "triple", "image"]
theorem sc_table_of : FnScope N_table ["kind", "size", "triples"] (defScope s_table_of) := ⟨rfl, rfl, rfl, by decide +kernel, rfl, by decide +kernel, by decide +kernel⟩
theorem kv3_list {K : PySem.W.Frag} (x : I3) : [fKeyW K 0 x.2.1 x.2.2 x.1, fKeyW K 1 x.1 x.2.2 x.2.1, fKeyW K 2 x.1 x.2.1 x.2.2] = (kv3 x).map fun p => fTup K [fT3 K p.1, fInt p.2] := rfl
theorem ok_table_of (B : Free mg) (E : KindE w K mg CK dL) (CO : Cal P w K mg base 1 "keys_of" [] (d_keys_of K)) (CM : CalM P w K mg base 3 CK "images" (d_k_images K CK)) (h : HasF K mg "table_of" s_table_of []) : Cal P w K mg base 4 "table_of" [] (d_table_of K CK) := by
  refine cal_of h (ps := ["kind", "size", "triples"]) (fun _ _ _ _ _ _ us hl => match us, hl with | [_, _, _], _ => rfl) fun f fd F => ?_
  refine fn_d F sc_table_of (fun Ps W h => ?_) fun cdv A0 outer s H E0 Ps W hr h => ?_
  · obtain ⟨z, c, n, ts, rfl, _⟩ := h
    rfl
  · obtain ⟨z, c, n, ts, rfl, hz, hn, htl, hb, hf, hW⟩ := h
    obtain ⟨fm, fdm, psm, hm, hbm, Gm⟩ := CM
    generalize hD : AllImg z c n ts = DD at hf
    have rest : ∀ (s4 s5 s6 : DL.Slot) (kvs : List KF), TInv DD kvs → kvs.length ≤ 192 → PD (cxOf CX0 P w K mg base N_table "table_of" (defScope s_table_of) f cdv A0 outer s H E0).nox ((defBody s_table_of).drop 2)
        [.fz (fKind CK z c), .fz (fInt (n : Nat)), .fz (fLst K (ts.map (fT3 K))), .ow (oDN P w K kvs), s4, s5, s6, .no, .no, .no] { nx := fun _ => W fNon, rt := W } := by
      intro s4 s5 s6 kvs0 T0 l0
      refine d_cons (p_for (pg_tup rfl (pgs_cons (pgn 7 sc_table_of.nd) (pgs_cons (pgn 8 sc_table_of.nd) pgs_nil))) (i_enumL B.enu (v_var 2 ⟨_, rfl, _, rfl, ?_⟩)))
      refine ⟨fun i Γ => ∃ s4 s5 s6 s7 s8 s9 kvs, Γ = [.fz (fKind CK z c), .fz (fInt (n : Nat)), .fz (fLst K (ts.map (fT3 K))), .ow (oDN P w K kvs), s4, s5, s6, s7, s8, s9] ∧ TInv DD kvs ∧ kvs.length ≤ 192 + 192 * i, ⟨_, _, _, _, _, _, kvs0, rfl, T0, l0⟩, ?_, ?_⟩
      · rintro i P0 Γi hP ⟨s4, s5, s6, s7, s8, s9, kvs, rfl, T, l⟩
        obtain ⟨R, hR, rfl⟩ := enumF_at hP
        obtain ⟨t, ht, rfl⟩ := map_at hR
        have htm : t ∈ ts := List.mem_of_getElem? ht
        have hil : i < ts.length := (List.getElem?_eq_some_iff.mp ht).1
        obtain ⟨b1, b2, b3⟩ := hb t htm
        refine dt_tup rfl (dts_cons (dt_name (dts_cons (dt_name (dts_nil ?_)))))
        show PD _ _ [.fz (fKind CK z c), .fz (fInt (n : Nat)), .fz (fLst K (ts.map (fT3 K))), .ow (oDN P w K kvs), s4, s5, s6, .fz (fInt (i : Nat)), .fz (fT3 K t), s9] _
        refine d_one (p_for (pgn 9 sc_table_of.nd) (i_tup (v_meth E.ins.cl hm Gm hbm hr (v_var 0 ⟨_, rfl, _, rfl, rfl, a_cons (v_var 8 ⟨_, rfl, a_nil ⟨z, c, t, rfl, hz, b1, b2, b3, fun li hl hll => ⟨_, rfl, ?_⟩⟩⟩)⟩))))
        refine ⟨fun j Γ => ∃ s4 s5 s6 s9 kvs, Γ = [.fz (fKind CK z c), .fz (fInt (n : Nat)), .fz (fLst K (ts.map (fT3 K))), .ow (oDN P w K kvs), s4, s5, s6, .fz (fInt (i : Nat)), .fz (fT3 K t), s9] ∧ TInv DD kvs ∧ kvs.length ≤ 192 + 192 * i + 3 * j, ⟨_, _, _, _, kvs, rfl, T, by omega⟩, ?_, ?_⟩
        · rintro j P1 Γj hP1 ⟨s4, s5, s6, s9, kvs, rfl, T, l⟩
          obtain ⟨x, hx, rfl⟩ := map_at hP1
          have hxm : x ∈ li := List.mem_of_getElem? hx
          have hjl : j < li.length := (List.getElem?_eq_some_iff.mp hx).1
          have hxD : DD x := by rw [← hD]; exact .inr ⟨t, htm, (hl x).mp hxm⟩
          refine dt_name ?_
          show PD _ _ [.fz (fKind CK z c), .fz (fInt (n : Nat)), .fz (fLst K (ts.map (fT3 K))), .ow (oDN P w K kvs), s4, s5, s6, .fz (fInt (i : Nat)), .fz (fT3 K t), .fz (fT3 K x)] _
          refine d_one (p_for (pg_tup rfl (pgs_cons (pgn 5 sc_table_of.nd) (pgs_cons (pgn 6 sc_table_of.nd) pgs_nil))) (i_list (v_call CO hr (a_cons (v_var 9 ⟨_, rfl, a_nil ⟨x, rfl, _, rfl, ?_⟩⟩)))))
          rw [kv3_list]
          refine ⟨fun m Γ => ∃ s5 s6 kvs, Γ = [.fz (fKind CK z c), .fz (fInt (n : Nat)), .fz (fLst K (ts.map (fT3 K))), .ow (oDN P w K kvs), s4, s5, s6, .fz (fInt (i : Nat)), .fz (fT3 K t), .fz (fT3 K x)] ∧ TInv DD kvs ∧ kvs.length ≤ 192 + 192 * i + 3 * j + m, ⟨_, _, kvs, rfl, T, by omega⟩, ?_, ?_⟩
          · rintro m P2 Γm hP2 ⟨s5, s6, kvs, rfl, T, l⟩
            obtain ⟨p, hp, rfl⟩ := map_at hP2
            have hpm : p ∈ kv3 x := List.mem_of_getElem? hp
            have hml : m < 3 := (List.getElem?_eq_some_iff.mp hp).1
            refine dt_tup rfl (dts_cons (dt_name (dts_cons (dt_name (dts_nil ?_)))))
            show PD _ _ [.fz (fKind CK z c), .fz (fInt (n : Nat)), .fz (fLst K (ts.map (fT3 K))), .ow (oDN P w K kvs), s4, .fz (fT3 K p.1), .fz (fInt p.2), .fz (fInt (i : Nat)), .fz (fT3 K t), .fz (fT3 K x)] _
            refine d_cons (p_no (b_cmp op_ne (v_mO 3 ty_N PySem.F.plainAttrs_dict PySem.F.slot_dict_get PySem.F.type_dict_get (mt_get2N hr) rfl own_ty_N (a_cons (v_var 5 ⟨_, rfl, a_cons (v_var 6 ⟨_, rfl, a_nil ⟨_, rfl, own_get2N keyF_t3 ?_⟩⟩)⟩)))))
            rw [T.get hf hxD hpm]
            refine v_var 6 ⟨_, rfl, false, ?_, rfl, ?_⟩
            · have := o2_ne (x := .int p.2) (y := .int p.2) rfl
              rw [decide_eq_true rfl] at this
              exact this
            refine d_one (p_setO 3 hr (v_var 6 ⟨_, rfl, kvs, rfl, by omega, v_var 5 ⟨_, rfl, k3 p.1, keyF_t3, rfl, ?_⟩⟩))
            have := ptF_len kvs (k3 p.1) (fInt p.2)
            exact ⟨_, _, _, rfl, T.put hxD hpm, by omega⟩
          · rintro Γn ⟨s5, s6, kvs, rfl, T, l⟩
            exact ⟨_, _, _, _, kvs, rfl, T, by have : (List.map (fun p => fTup K [fT3 K p.1, fInt p.2]) (kv3 x)).length = 3 := rfl; omega⟩
        · rintro Γn ⟨s4, s5, s6, s9, kvs, rfl, T, l⟩
          rw [List.length_map] at l
          exact ⟨_, _, _, _, _, _, kvs, rfl, T, by omega⟩
      · rintro Γn ⟨s4, s5, s6, s7, s8, s9, kvs, rfl, T, l⟩
        refine PD.freeze (i := 3) rfl (d_one (p_ret (v_tup (a_cons (v_var 3 ⟨_, rfl, a_cons (v_non (a_nil ⟨(by show 2 ≤ 100000; decide), hW _⟩))⟩)))))
    refine d_cons (p_asgO (i := 3) (n_dnew ?_) sc_table_of.nd)
    refine d_cons (p_if (b_val (v_fld E.ins.cl E.naC (v_var 0 ⟨_, rfl, _, _, rfl, rfl, c, rfl, ?_⟩))))
    cases c with
    | false => exact iteF (d_nil (rest _ _ _ [] TInv.nil (Nat.zero_le _)))
    | true =>
      refine iteT (d_one (p_for (pgn 4 sc_table_of.nd) (i_range B.range (v_var 1 ⟨_, rfl, (n : Nat), rfl, by omega, by omega, ?_⟩))))
      rw [Int.toNat_natCast]
      refine ⟨fun i Γ => ∃ s4 s5 s6 kvs, Γ = [.fz (fKind CK z true), .fz (fInt (n : Nat)), .fz (fLst K (ts.map (fT3 K))), .ow (oDN P w K kvs), s4, s5, s6, .no, .no, .no] ∧ TInv DD kvs ∧ kvs.length ≤ 3 * i, ⟨_, _, _, [], rfl, TInv.nil, Nat.zero_le _⟩, ?_, ?_⟩
      · rintro i P0 Γi hP ⟨s4, s5, s6, kvs, rfl, T, l⟩
        obtain ⟨i', hi', rfl⟩ := map_at hP
        obtain ⟨hin, ei⟩ := List.getElem?_eq_some_iff.mp hi'
        rw [List.getElem_range] at ei
        subst ei
        rw [List.length_range] at hin
        have hxD : DD ((i : Int), (i : Int), (i : Int)) := by rw [← hD]; exact .inl ⟨rfl, i, hin, rfl⟩
        generalize hx0 : (((i : Int), (i : Int), (i : Int)) : I3) = x at hxD
        refine dt_name ?_
        show PD _ _ [.fz (fKind CK z true), .fz (fInt (n : Nat)), .fz (fLst K (ts.map (fT3 K))), .ow (oDN P w K kvs), .fz (fInt (i : Nat)), s5, s6, .no, .no, .no] _
        refine d_one (p_for (pg_tup rfl (pgs_cons (pgn 5 sc_table_of.nd) (pgs_cons (pgn 6 sc_table_of.nd) pgs_nil))) (i_list (v_call CO hr (a_cons (v_tup ?_)))))
        refine a_cons (v_var 4 ⟨_, rfl, a_cons (v_var 4 ⟨_, rfl, a_cons (v_var 4 ⟨_, rfl, a_nil ⟨(by show 3 ≤ 100000; decide), a_nil ⟨x, ?_, _, rfl, ?_⟩⟩⟩)⟩)⟩)
        · rw [← hx0]
          rfl
        rw [kv3_list]
        refine ⟨fun m Γ => ∃ s5 s6 kvs, Γ = [.fz (fKind CK z true), .fz (fInt (n : Nat)), .fz (fLst K (ts.map (fT3 K))), .ow (oDN P w K kvs), .fz (fInt (i : Nat)), s5, s6, .no, .no, .no] ∧ TInv DD kvs ∧ kvs.length ≤ 3 * i + m, ⟨_, _, kvs, rfl, T, by omega⟩, ?_, ?_⟩
        · rintro m P2 Γm hP2 ⟨s5, s6, kvs, rfl, T, l⟩
          obtain ⟨p, hp, rfl⟩ := map_at hP2
          have hpm : p ∈ kv3 x := List.mem_of_getElem? hp
          have hml : m < 3 := (List.getElem?_eq_some_iff.mp hp).1
          refine dt_tup rfl (dts_cons (dt_name (dts_cons (dt_name (dts_nil ?_)))))
          show PD _ _ [.fz (fKind CK z true), .fz (fInt (n : Nat)), .fz (fLst K (ts.map (fT3 K))), .ow (oDN P w K kvs), .fz (fInt (i : Nat)), .fz (fT3 K p.1), .fz (fInt p.2), .no, .no, .no] _
          refine d_one (p_setO 3 hr (v_var 6 ⟨_, rfl, kvs, rfl, by omega, v_var 5 ⟨_, rfl, k3 p.1, keyF_t3, rfl, ?_⟩⟩))
          have := ptF_len kvs (k3 p.1) (fInt p.2)
          exact ⟨_, _, _, rfl, T.put hxD hpm, by omega⟩
        · rintro Γn ⟨s5, s6, kvs, rfl, T, l⟩
          exact ⟨_, _, _, kvs, rfl, T, by have : (List.map (fun p => fTup K [fT3 K p.1, fInt p.2]) (kv3 x)).length = 3 := rfl; omega⟩
      · rintro Γn ⟨s4, s5, s6, kvs, rfl, T, l⟩
        rw [List.length_map, List.length_range] at l
        exact rest _ _ _ kvs T (by omega)
end
end TB

/-! TB9: check_clash. -/
namespace TB
open PySem L2 PyProof.Rows DL
def pickT (t : Triple) (i : Int) : Thing := if i = 0 then t.1 else if i = 1 then t.2.1 else t.2.2
def imgT (t : Triple) (x : I3) : Triple := (pickT t x.1, pickT t x.2.1, pickT t x.2.2)
/-- all images of things -/
def AllImgT (z : Str) (c : Bool) (ch : List Triple) (x : Triple) : Prop := (c = true ∧ ∃ t ∈ ch, ∃ a ∈ t.things, x = (a, a, a)) ∨ ∃ t ∈ ch, ∃ y ∈ turnsOf z, x = imgT t y
def FuncT (D : Triple → Prop) : Prop := ∀ x y, D x → D y → (x.2.1 = y.2.1 → x.2.2 = y.2.2 → x.1 = y.1) ∧ (x.1 = y.1 → x.2.2 = y.2.2 → x.2.1 = y.2.1) ∧ (x.1 = y.1 → x.2.1 = y.2.1 → x.2.2 = y.2.2)
def NoClash (z : Str) (c : Bool) (ch : List Triple) : Prop := FuncT (AllImgT z c ch)
/-! ### numbering -/
def num (ths : List Thing) (t : Thing) : Int := (ths.idxOf t : Nat)
def num3 (ths : List Thing) (t : Triple) : I3 := (num ths t.1, num ths t.2.1, num ths t.2.2)
theorem ix_cons {a u : Thing} {l : List Thing} : (a :: l).idxOf u = if a = u then 0 else l.idxOf u + 1 := by
  rw [List.idxOf_cons]
  by_cases e : a = u
  · subst e
    simp
  · have : (a == u) = false := by simpa using e
    rw [this, if_neg e]
    rfl
theorem ix_app {t u : Thing} : ∀ {ths : List Thing}, t ∈ ths → (ths ++ [u]).idxOf t = ths.idxOf t
  | [], h => by cases h
  | a :: l, h => by
    rw [List.cons_append, ix_cons, ix_cons]
    by_cases e : a = t
    · rw [if_pos e, if_pos e]
    · rw [if_neg e, if_neg e]
      have hm : t ∈ l := by
        rcases List.mem_cons.mp h with q | q
        · exact absurd q.symm e
        · exact q
      rw [ix_app hm]
theorem ix_new {u : Thing} : ∀ {ths : List Thing}, u ∉ ths → (ths ++ [u]).idxOf u = ths.length
  | [], _ => by simp
  | a :: l, h => by
    rw [List.cons_append, ix_cons]
    have e : ¬ a = u := fun z => h (z ▸ List.mem_cons_self)
    rw [if_neg e, ix_new fun z => h (List.mem_cons_of_mem _ z)]
    rfl
theorem ix_at {z : Thing} : ∀ {l : List Thing}, z ∈ l → l[l.idxOf z]? = some z
  | [], h => by cases h
  | a :: l, h => by
    rw [ix_cons]
    by_cases e : a = z
    · rw [if_pos e, e]
      rfl
    · have hm : z ∈ l := by
        rcases List.mem_cons.mp h with q | q
        · exact absurd q.symm e
        · exact q
      rw [if_neg e]
      simpa using ix_at hm
theorem num_app {ths : List Thing} {t u : Thing} (h : t ∈ ths) : num (ths ++ [u]) t = num ths t := by
  unfold num
  rw [ix_app h]
theorem num_new {ths : List Thing} {u : Thing} (h : u ∉ ths) : num (ths ++ [u]) u = (ths.length : Nat) := by
  unfold num
  rw [ix_new h]
theorem num_inj {ths : List Thing} {t u : Thing} (ht : t ∈ ths) (hu : u ∈ ths) (h : num ths t = num ths u) : t = u := by
  unfold num at h
  have e : ths.idxOf t = ths.idxOf u := by omega
  have h1 := ix_at ht
  have h2 := ix_at hu
  rw [e, h2] at h1
  exact (Option.some.inj h1).symm
theorem num_bd {ths : List Thing} {t : Thing} (h : t ∈ ths) : 0 ≤ num ths t ∧ num ths t < (ths.length : Nat) := by
  unfold num
  have := (List.getElem?_eq_some_iff.mp (ix_at h)).1
  omega
theorem func_of {z : Str} {c : Bool} {ch : List Triple} {ths : List Thing} (h1 : ∀ t ∈ ch, ∀ a ∈ t.things, a ∈ ths) (h2 : ∀ a ∈ ths, ∃ t ∈ ch, a ∈ t.things) (nd : ths.Nodup) (hf : NoClash z c ch) : Func (AllImg z c ths.length (ch.map (num3 ths))) := by
  -- each image of numbers comes from one of things
  have back : ∀ x, AllImg z c ths.length (ch.map (num3 ths)) x → ∃ y, AllImgT z c ch y ∧ x = num3 ths y ∧ (y.1 ∈ ths ∧ y.2.1 ∈ ths ∧ y.2.2 ∈ ths) := by
    rintro x (⟨hc, i, hi, rfl⟩ | ⟨t, ht, hx⟩)
    · obtain ⟨t, ht, ha⟩ := h2 ths[i] (List.getElem_mem hi)
      have e : num ths ths[i] = (i : Int) := by
        unfold num
        have h5 := ix_at (List.getElem_mem hi)
        obtain ⟨h6, h7⟩ := List.getElem?_eq_some_iff.mp h5
        have := (List.getElem_inj (h₀ := h6) (h₁ := hi) nd).mp h7
        omega
      refine ⟨(ths[i], ths[i], ths[i]), .inl ⟨hc, t, ht, _, ha, rfl⟩, ?_, List.getElem_mem hi, List.getElem_mem hi, List.getElem_mem hi⟩
      unfold num3
      rw [e]
    · obtain ⟨u, hu, rfl⟩ := List.mem_map.mp ht
      obtain ⟨y, hy, rfl⟩ := List.mem_map.mp hx
      have pk : ∀ i, pick (num3 ths u) i = num ths (pickT u i) ∧ pickT u i ∈ ths := fun i => by
        unfold pick pickT num3
        have u1 := h1 u hu u.1 (by unfold Triple.things; simp)
        have u2 := h1 u hu u.2.1 (by unfold Triple.things; simp)
        have u3 := h1 u hu u.2.2 (by unfold Triple.things; simp)
        split
        · exact ⟨rfl, u1⟩
        · split
          · exact ⟨rfl, u2⟩
          · exact ⟨rfl, u3⟩
      refine ⟨imgT u y, .inr ⟨u, hu, y, hy, rfl⟩, ?_, (pk _).2, (pk _).2, (pk _).2⟩
      unfold img imgT num3
      rw [← (pk _).1, ← (pk _).1, ← (pk _).1]
      rfl
  intro x y hx hy p hp q hq e
  obtain ⟨x', dx, rfl, x1, x2, x3⟩ := back x hx
  obtain ⟨y', dy, rfl, y1, y2, y3⟩ := back y hy
  obtain ⟨f1, f2, f3⟩ := hf x' y' dx dy
  unfold kv3 at hp hq
  have n01 : (0 : Int) ≠ 1 := by decide
  have n02 : (0 : Int) ≠ 2 := by decide
  have n12 : (1 : Int) ≠ 2 := by decide
  rcases List.mem_cons.mp hp with rfl | hp
  · rcases List.mem_cons.mp hq with rfl | hq
    · have e1 : num ths x'.2.1 = num ths y'.2.1 := congrArg (fun p : I3 => p.2.1) e
      have e2 : num ths x'.2.2 = num ths y'.2.2 := congrArg (fun p : I3 => p.2.2) e
      show num ths x'.1 = num ths y'.1
      rw [f1 (num_inj x2 y2 e1) (num_inj x3 y3 e2)]
    · rcases List.mem_cons.mp hq with rfl | hq
      · exact absurd (congrArg (fun p : I3 => p.1) e) n01
      · rw [List.mem_singleton.mp hq] at e
        exact absurd (congrArg (fun p : I3 => p.1) e) n02
  · rcases List.mem_cons.mp hp with rfl | hp
    · rcases List.mem_cons.mp hq with rfl | hq
      · exact absurd (congrArg (fun p : I3 => p.1) e).symm n01
      · rcases List.mem_cons.mp hq with rfl | hq
        · have e1 : num ths x'.1 = num ths y'.1 := congrArg (fun p : I3 => p.2.1) e
          have e2 : num ths x'.2.2 = num ths y'.2.2 := congrArg (fun p : I3 => p.2.2) e
          show num ths x'.2.1 = num ths y'.2.1
          rw [f2 (num_inj x1 y1 e1) (num_inj x3 y3 e2)]
        · rw [List.mem_singleton.mp hq] at e
          exact absurd (congrArg (fun p : I3 => p.1) e) n12
    · rw [List.mem_singleton.mp hp] at e ⊢
      rcases List.mem_cons.mp hq with rfl | hq
      · exact absurd (congrArg (fun p : I3 => p.1) e).symm n02
      · rcases List.mem_cons.mp hq with rfl | hq
        · exact absurd (congrArg (fun p : I3 => p.1) e).symm n12
        · rw [List.mem_singleton.mp hq] at e ⊢
          have e1 : num ths x'.1 = num ths y'.1 := congrArg (fun p : I3 => p.2.1) e
          have e2 : num ths x'.2.1 = num ths y'.2.1 := congrArg (fun p : I3 => p.2.2) e
          show num ths x'.2.2 = num ths y'.2.2
          rw [f3 (num_inj x1 y1 e1) (num_inj x2 y2 e2)]
/-- the dict of numbers -/
def kvN (ths : List Thing) : List KF := ths.zipIdx.map fun p => (kThing p.1, fInt (p.2 : Nat))
theorem kvN_len (ths : List Thing) : (kvN ths).length = ths.length := by
  unfold kvN
  rw [List.length_map, List.length_zipIdx]
theorem kvN_snoc (ths : List Thing) (u : Thing) : kvN (ths ++ [u]) = kvN ths ++ [(kThing u, fInt (ths.length : Nat))] := by
  unfold kvN
  rw [List.zipIdx_append, List.map_append]
  simp
theorem lk_kvN {u : Thing} : ∀ ths : List Thing, lkF (kvN ths) (kThing u) = if u ∈ ths then some (fInt (num ths u)) else none := by
  intro ths
  have gen : ∀ (ths : List Thing) (n : Nat), lkF ((ths.zipIdx n).map fun p => (kThing p.1, fInt (p.2 : Nat))) (kThing u) = if u ∈ ths then some (fInt ((n + ths.idxOf u : Nat) : Int)) else none := by
    intro ths
    induction ths with
    | nil =>
      intro n
      rfl
    | cons a ths ih =>
      intro n
      rw [List.zipIdx_cons, List.map_cons, lkF_cons]
      by_cases e : a = u
      · subst e
        simp
      · have e2 : ¬ kThing a = kThing u := fun z => e (kThing_inj z)
        rw [if_neg e2, ih (n + 1)]
        have e3 : (u ∈ a :: ths) ↔ u ∈ ths := by
          rw [List.mem_cons]
          exact ⟨fun h => h.resolve_left fun q => e q.symm, Or.inr⟩
        have e4 : (a == u) = false := by simpa using e
        by_cases hm : u ∈ ths
        · rw [if_pos hm, if_pos (e3.mpr hm), ix_cons, if_neg e]
          have e5 : n + 1 + ths.idxOf u = n + (ths.idxOf u + 1) := by omega
          rw [e5]
        · rw [if_neg hm, if_neg fun z => hm (e3.mp z)]
  have := gen ths 0
  unfold kvN num
  rw [this]
  simp
theorem pifb_nil {X : Cx} {scope : Scope} {Γ : DL.Ctx} {A B : DL.Ctx → Prop} (h : A Γ) : PIfb X scope [] Γ (fun b Γ2 => if b = true then A Γ2 else B Γ2) := (if_pos rfl : (if true = true then A Γ else B Γ) = A Γ).mpr h
theorem pt_kvN {ths : List Thing} {u : Thing} (h : u ∉ ths) : ptF (kvN ths) (kThing u) (fInt (ths.length : Nat)) = kvN (ths ++ [u]) := by
  unfold ptF
  rw [lk_kvN, if_neg h, kvN_snoc]
  rfl
theorem chain_len (ins outs : List Str) (rows : List Row) (n : Nat) : (chain ins outs rows n).length = rows.length * n := by
  unfold chain
  induction rows with
  | nil => simp
  | cons r rows ih => rw [List.flatMap_cons, List.length_append, ih, List.length_map, List.length_range, List.length_cons, Nat.succ_mul, Nat.add_comm]
section
variable {P : Program} {w : World} {K : PySem.W.Frag} {mg : Str → Option Value} {base : Heap} {CK CC dL : Addr}
abbrev s_check_clash : Stmt := top 46
def d_check_clash (K : PySem.W.Frag) (CK CC : Addr) : DSp := fun Ps W => ∃ c, Ps = [fCell K CK CC c] ∧ c.word ∈ words ∧ c.rows.length ≤ 8 ∧ c.outs.length = c.ins.length ∧ NoClash c.word c.calm (chain c.ins c.outs c.rows 2) ∧ W fNon
abbrev N_clash : List Str := ["cell", "numbers", "triples", "triple", "table", "index", "thing"]
theorem sc_check_clash : FnScope N_clash ["cell"] (defScope s_check_clash) := ⟨rfl, rfl, rfl, by decide +kernel, rfl, by decide +kernel, by decide +kernel⟩
theorem ok_check_clash (B : Free mg) (E : CellE K mg CC) (CH : Cal P w K mg base 3 "chain_triples" [] (d_chain_triples K CK CC)) (CT : Cal P w K mg base 4 "table_of" [] (d_table_of K CK)) (h : HasF K mg "check_clash" s_check_clash []) : Cal P w K mg base 5 "check_clash" [] (d_check_clash K CK CC) := by
  refine cal_of h (ps := ["cell"]) (fun _ _ _ _ _ _ us hl => match us, hl with | [_], _ => rfl) fun f fd F => ?_
  refine fn_d F sc_check_clash (fun Ps W h => ?_) fun cdv A0 outer s H E0 Ps W hr h => ?_
  · obtain ⟨c, rfl, _⟩ := h
    rfl
  · obtain ⟨c, rfl, hwd, hrl, hlo, hnc, hW⟩ := h
    refine d_cons (p_asgO (i := 1) (n_dnew ?_) sc_check_clash.nd)
    refine d_cons (p_asgO (i := 2) (n_lst (a_nil ⟨Nat.zero_le _, ?_⟩)) sc_check_clash.nd)
    have hcl := chain_len c.ins c.outs c.rows 2
    refine d_cons (p_for (pgn 3 sc_check_clash.nd) (i_list (v_call CH hr (a_cons (v_var 0 ⟨_, rfl, a_cons (v_int (a_nil ⟨c, 2, rfl, hlo, by decide, by omega, _, rfl, ?_⟩))⟩)))))
    generalize chain c.ins c.outs c.rows 2 = ch at hnc hcl
    refine ⟨fun i Γ => ∃ s3 ths, Γ = [.fz (fCell K CK CC c), .ow (oDN P w K (kvN ths)), .ow (oLst ((ch.take i).map fun t => fT3 K (num3 ths t))), s3, .no, .no, .no] ∧ ths.Nodup ∧ (∀ t ∈ ch.take i, ∀ a ∈ t.things, a ∈ ths) ∧ (∀ a ∈ ths, ∃ t ∈ ch, a ∈ t.things) ∧ ths.length ≤ 3 * i,
      ⟨_, [], rfl, List.nodup_nil, fun t ht => (by simp at ht), fun a ha => (by cases ha), Nat.zero_le _⟩, ?_, ?_⟩
    · rintro i P0 Γi hP ⟨s3, ths, rfl, nd, a1, a2, a3⟩
      obtain ⟨t, ht, rfl⟩ := map_at hP
      have htm : t ∈ ch := List.mem_of_getElem? ht
      have hil : i < ch.length := (List.getElem?_eq_some_iff.mp ht).1
      have et : ch.take (i + 1) = ch.take i ++ [t] := by
        rw [List.take_add_one, ht]
        rfl
      refine dt_name ?_
      generalize hL : (ch.take i).map (fun t => fT3 K (num3 ths t)) = L
      show PD _ _ [.fz (fCell K CK CC c), .ow (oDN P w K (kvN ths)), .ow (oLst L), .fz (fTriple K t), .no, .no, .no] _
      refine d_one (p_append 2 rfl (v_callTy call_tpl B.tuple (a_cons ?_)))
      refine v_lc (own := [("thing", 6)]) (j := 6) (blkOk_by (N := N_clash) (sc := defScope s_check_clash) (by decide +kernel)) sc_check_clash.nd (by decide) (fun _ _ _ _ _ => pgn 6 sc_check_clash.nd) (i_tup (v_var 3 ⟨_, rfl, _, rfl, ?_⟩))
      refine ⟨fun j acc Γ => ∃ ths', Γ = [.fz (fCell K CK CC c), .ow (oDN P w K (kvN ths')), .ow (oLst L), .fz (fTriple K t), .no, .no, .no] ∧ ths'.Nodup ∧ (∀ a ∈ ths, a ∈ ths' ∧ num ths' a = num ths a) ∧ (∀ a ∈ t.things.take j, a ∈ ths') ∧ (∀ a ∈ ths', ∃ t ∈ ch, a ∈ t.things) ∧ ths'.length ≤ ths.length + j ∧ acc = (t.things.take j).map fun a => fInt (num ths' a),
        by show 3 ≤ 50000; decide, ⟨ths, rfl, nd, fun a ha => ⟨ha, rfl⟩, fun a ha => (by simp at ha), a2, Nat.le_refl _, rfl⟩, ?_, ?_⟩
      · rintro j P1 acc Γj hP1 ⟨ths', rfl, nd', b1, b2, b3, b4, rfl⟩
        obtain ⟨u, hu, rfl⟩ := map_at hP1
        have hum : u ∈ t.things := List.mem_of_getElem? hu
        have hj3 : j < 3 := (List.getElem?_eq_some_iff.mp hu).1
        have eu : t.things.take (j + 1) = t.things.take j ++ [u] := by
          rw [List.take_add_one, hu]
          rfl
        refine pifb_nil fun s H C1 cl fp => ?_
        refine v_mO 1 ty_N PySem.F.plainAttrs_dict PySem.F.slot_dict_setdefault PySem.F.type_dict_setdefault (mt_setdN hr) rfl own_ty_N (a_cons (v_var 6 ⟨_, rfl, a_cons (v_lenO 1 (ln := "") (kvs := kvN ths') B.len rfl (a_nil ⟨_, rfl, own_setdN keyF_thing (by rw [kvN_len]; omega) (fun R' hR' => ?_) (fun hno => ?_)⟩))⟩))
        · rw [lk_kvN] at hR'
          split at hR'
          · rename_i hin
            cases hR'
            refine ⟨ths', rfl, nd', b1, fun a ha => ?_, b3, by omega, ?_⟩
            · rw [eu] at ha
              rcases List.mem_append.mp ha with ha | ha
              · exact b2 a ha
              · rw [List.mem_singleton.mp ha]
                exact hin
            · rw [eu, List.map_append]
              rfl
          · cases hR'
        · rw [lk_kvN] at hno
          split at hno
          · cases hno
          · rename_i hin
            rw [kvN_len, pt_kvN hin]
            refine ⟨ths' ++ [u], rfl, ?_, fun a ha => ⟨List.mem_append_left _ (b1 a ha).1, (num_app (b1 a ha).1).trans (b1 a ha).2⟩, fun a ha => ?_, fun a ha => ?_, by rw [List.length_append, List.length_singleton]; omega, ?_⟩
            · exact List.nodup_append.mpr ⟨nd', by simp, fun a ha b hb z => hin (by rw [List.mem_singleton.mp hb] at z; exact z ▸ ha)⟩
            · rw [eu] at ha
              rcases List.mem_append.mp ha with ha | ha
              · exact List.mem_append_left _ (b2 a ha)
              · exact List.mem_append_right _ ha
            · rcases List.mem_append.mp ha with ha | ha
              · exact b3 a ha
              · rw [List.mem_singleton.mp ha]
                exact ⟨t, htm, hum⟩
            · rw [eu, List.map_append, List.map_cons, num_new hin]
              congr 1
              apply List.map_congr_left
              intro a ha
              rw [num_app (b2 a ha)]
      · rintro acc Γn ⟨ths', rfl, nd', b1, b2, b3, b4, rfl⟩
        have t3 : t.things.length = 3 := rfl
        rw [List.length_map, t3] at b2 b4 ⊢
        have et3 : t.things.take 3 = t.things := rfl
        rw [et3] at b2 ⊢
        refine a_nil ⟨_, oc_tuple, L, rfl, ?_, .fz (fTriple K t), ths', ?_, nd', fun t0 ht0 a ha => ?_, b3, by omega⟩
        · rw [← hL, List.length_map, List.length_take]
          omega
        · have e1 : fTup K (t.things.map fun a => fInt (num ths' a)) = fT3 K (num3 ths' t) := rfl
          have e2 : (ch.take (i + 1)).map (fun t => fT3 K (num3 ths' t)) = L ++ [fT3 K (num3 ths' t)] := by
            rw [et, List.map_append, ← hL]
            congr 1
            apply List.map_congr_left
            intro t0 ht0
            have n1 : ∀ a ∈ t0.things, num ths' a = num ths a := fun a ha => (b1 a (a1 t0 ht0 a ha)).2
            unfold num3
            rw [n1 t0.1 (by unfold Triple.things; simp), n1 t0.2.1 (by unfold Triple.things; simp), n1 t0.2.2 (by unfold Triple.things; simp)]
          rw [e2, ← e1]
          rfl
        · rw [et] at ht0
          rcases List.mem_append.mp ht0 with ht0 | ht0
          · exact (b1 a (a1 t0 ht0 a ha)).1
          · rw [List.mem_singleton.mp ht0] at ha
            exact b2 a ha
    · rintro Γn ⟨s3, ths, rfl, nd, a1, a2, a3⟩
      rw [List.length_map] at a3 a1 ⊢
      rw [List.take_length] at a1 ⊢
      refine PD.freeze (i := 2) rfl ?_
      have hbd : ∀ t ∈ ch.map (num3 ths), Bd3 t := fun t ht => by
        obtain ⟨u, hu, rfl⟩ := List.mem_map.mp ht
        have b := fun a ha => num_bd (a1 u hu a ha)
        have c1 := b u.1 (by unfold Triple.things; simp)
        have c2 := b u.2.1 (by unfold Triple.things; simp)
        have c3 := b u.2.2 (by unfold Triple.things; simp)
        unfold Bd3 num3
        show (0 ≤ num ths u.1 ∧ num ths u.1 < 64) ∧ (0 ≤ num ths u.2.1 ∧ num ths u.2.1 < 64) ∧ (0 ≤ num ths u.2.2 ∧ num ths u.2.2 < 64)
        omega
      refine d_cons (p_asgT (pg_tup rfl (pgs_cons (pgn 4 sc_check_clash.nd) (pgs_cons (pgn 5 sc_check_clash.nd) pgs_nil))) (v_call CT hr (a_cons (v_fld E.ins.cl E.n1 (v_var 0 ⟨_, rfl, _, _, rfl, rfl, ?_⟩)))))
      refine a_cons (v_lenO 1 (ln := "") (kvs := kvN ths) B.len rfl (a_cons (PV.cast (v_var 2 ⟨_, rfl, fLst K (ch.map fun t => fT3 K (num3 ths t)), fun v F => oLst_fz, a_nil ⟨c.word, c.calm, ths.length, ch.map (num3 ths), ?_, hwd, by omega, by rw [List.length_map]; omega, hbd, func_of a1 a2 nd hnc, fun R => ?_⟩⟩))))
      · rw [kvN_len, List.map_map]
        rfl
      · refine dt_tup rfl (dts_cons (dt_name (dts_cons (dt_name (dts_nil ?_)))))
        exact d_one (p_no (b_cmp op_notn (v_var 5 ⟨_, rfl, v_non ⟨false, o2_notNon, rfl, hW⟩⟩)))
end
end TB

/-! TB10: got_things. -/
namespace TB
open PySem L2 PyProof.Rows DL
/-- what can be told -/
inductive Told (T : List Triple) (S : List Thing) : Thing → Prop
  | base {t : Thing} : t ∈ S → Told T S t
  | step {tr : Triple} {x : Thing} : tr ∈ T → tr.things.filter (fun y => decide (y = x)) = [x] → (∀ y ∈ tr.things, y ≠ x → Told T S y) → Told T S x
def kvG (ths : List Thing) : List KF := ths.map fun t => (kThing t, fBl true)
theorem lk_kvG {u : Thing} : ∀ ths : List Thing, lkF (kvG ths) (kThing u) = if u ∈ ths then some (fBl true) else none
  | [] => rfl
  | a :: ths => by
    show lkF ((kThing a, fBl true) :: kvG ths) (kThing u) = _
    rw [lkF_cons, lk_kvG ths]
    by_cases e : a = u
    · subst e
      simp
    · have e2 : ¬ kThing a = kThing u := fun z => e (kThing_inj z)
      have e3 : (u ∈ a :: ths) ↔ u ∈ ths := by
        rw [List.mem_cons]
        exact ⟨fun h => h.resolve_left fun q => e q.symm, Or.inr⟩
      rw [if_neg e2]
      by_cases hm : u ∈ ths
      · rw [if_pos hm, if_pos (e3.mpr hm)]
      · rw [if_neg hm, if_neg fun z => hm (e3.mp z)]
theorem pt_kvG {ths : List Thing} {u : Thing} (h : u ∉ ths) : ptF (kvG ths) (kThing u) (fBl true) = kvG (ths ++ [u]) := by
  unfold ptF
  rw [lk_kvG, if_neg h]
  unfold kvG
  rw [List.map_append]
  rfl
theorem pt_kvG2 {ths : List Thing} {u : Thing} (h : u ∈ ths) : ptF (kvG ths) (kThing u) (fBl true) = kvG ths := by
  unfold ptF
  rw [lk_kvG, if_pos h]
  rw [if_pos (by rfl)]
  unfold kvG
  rw [List.map_map]
  apply List.map_congr_left
  intro a _
  show (if kThing a = kThing u then (kThing a, fBl true) else (kThing a, fBl true)) = _
  split <;> rfl
theorem fold_kvG : ∀ (l ths : List Thing), ∃ ths', l.foldl (fun kvs x => ptF kvs (kThing x) (fBl true)) (kvG ths) = kvG ths' ∧ (∀ t, t ∈ ths' → t ∈ ths ∨ t ∈ l) ∧ ths'.length ≤ ths.length + l.length
  | [], ths => ⟨ths, rfl, fun t h => .inl h, Nat.le_refl _⟩
  | a :: l, ths => by
    rw [List.foldl_cons]
    by_cases h : a ∈ ths
    · rw [pt_kvG2 h]
      obtain ⟨ths', e, h1, h2⟩ := fold_kvG l ths
      exact ⟨ths', e, fun t ht => (h1 t ht).imp id (List.mem_cons_of_mem _), by rw [List.length_cons]; omega⟩
    · rw [pt_kvG h]
      obtain ⟨ths', e, h1, h2⟩ := fold_kvG l (ths ++ [a])
      refine ⟨ths', e, fun t ht => ?_, by rw [List.length_append, List.length_singleton] at h2; rw [List.length_cons]; omega⟩
      rcases h1 t ht with h | h
      · rcases List.mem_append.mp h with h | h
        · exact .inl h
        · rw [List.mem_singleton.mp h]
          exact .inr List.mem_cons_self
      · exact .inr (List.mem_cons_of_mem _ h)
/-- how many things of the rows are not known yet -/
def unk (T : List Triple) (ths : List Thing) : Nat := ((T.flatMap Triple.things).filter fun a => !decide (a ∈ ths)).length
theorem unk_le (T : List Triple) (ths : List Thing) : unk T ths ≤ T.length * 3 := by
  unfold unk
  refine Nat.le_trans (List.length_filter_le _ _) ?_
  induction T with
  | nil => simp
  | cons t T ih =>
    rw [List.flatMap_cons, List.length_append, List.length_cons, Nat.succ_mul]
    have : t.things.length = 3 := rfl
    omega
theorem unk_dec {T : List Triple} {ths : List Thing} {x : Thing} (hx : x ∈ T.flatMap Triple.things) (h : x ∉ ths) : unk T (ths ++ [x]) + 1 ≤ unk T ths := by
  unfold unk
  generalize T.flatMap Triple.things = U at hx
  induction U with
  | nil => cases hx
  | cons a U ih =>
    have sub : ∀ U : List Thing, (U.filter fun a => !decide (a ∈ ths ++ [x])).length ≤ (U.filter fun a => !decide (a ∈ ths)).length := by
      intro U
      induction U with
      | nil => exact Nat.le_refl _
      | cons b U ih =>
        by_cases hb : b ∈ ths
        · have hb2 : b ∈ ths ++ [x] := List.mem_append_left _ hb
          rw [List.filter_cons_of_neg (by simp [hb]), List.filter_cons_of_neg (by simp [hb])]
          exact ih
        · rw [List.filter_cons_of_pos (p := fun a => !decide (a ∈ ths)) (by simp [hb])]
          rw [List.length_cons]
          by_cases hb2 : b ∈ ths ++ [x]
          · rw [List.filter_cons_of_neg (by show ¬ (!decide (b ∈ ths ++ [x])) = true; rw [decide_eq_true hb2]; decide)]
            omega
          · rw [List.filter_cons_of_pos (by show (!decide (b ∈ ths ++ [x])) = true; rw [decide_eq_false hb2]; rfl), List.length_cons]
            omega
    by_cases e : a = x
    · subst e
      rw [List.filter_cons_of_neg (by simp), List.filter_cons_of_pos (p := fun a => !decide (a ∈ ths)) (by simp [h]), List.length_cons]
      have := sub U
      omega
    · have hm : x ∈ U := by
        rcases List.mem_cons.mp hx with q | q
        · exact absurd q.symm e
        · exact q
      have := ih hm
      by_cases ha : a ∈ ths
      · rw [List.filter_cons_of_neg (by simp [ha]), List.filter_cons_of_neg (by simp [ha])]
        exact this
      · rw [List.filter_cons_of_pos (by simp [ha, e]), List.filter_cons_of_pos (p := fun a => !decide (a ∈ ths)) (by simp [ha]), List.length_cons, List.length_cons]
        omega
section
variable {P : Program} {w : World} {K : PySem.W.Frag} {mg : Str → Option Value} {base : Heap} {CK CC dL : Addr}
abbrev s_got : Stmt := top 37
def d_got (P : Program) (w : World) (K : PySem.W.Frag) : DSp := fun Ps W => ∃ (T : List Triple) (S : List Thing), Ps = [fLst K (T.map (fTriple K)), fLst K (S.map (fThing K))] ∧ T.length ≤ 1000 ∧ S.length ≤ 1000 ∧ ∀ ths : List Thing, (∀ t ∈ ths, Told T S t) → W (fDN P w K (kvG ths))
abbrev N_got : List Str := ["triples", "things", "known", "users", "triple", "waiting", "lacking", "thing"]
theorem sc_got : FnScope N_got ["triples", "things"] (defScope s_got) := ⟨rfl, rfl, rfl, by decide +kernel, rfl, by decide +kernel, by decide +kernel⟩
theorem filter_one {l : List Thing} {k : Thing → Bool} {x : Thing} (h : l.filter k = [x]) : x ∈ l ∧ k x = true ∧ ∀ y ∈ l, y ≠ x → k y = false := by
  have hx : x ∈ l.filter k := by rw [h]; exact List.mem_cons_self
  refine ⟨(List.mem_filter.mp hx).1, (List.mem_filter.mp hx).2, fun y hy hne => ?_⟩
  cases hk : k y with
  | false => rfl
  | true =>
    have := List.mem_filter.mpr ⟨hy, hk⟩
    rw [h] at this
    exact absurd (List.mem_singleton.mp this) hne
theorem ok_got (B : Free mg) (h : HasF K mg "got_things" s_got []) : Cal P w K mg base 1 "got_things" [] (d_got P w K) := by
  refine cal_of h (ps := ["triples", "things"]) (fun _ _ _ _ _ _ us hl => match us, hl with | [_, _], _ => rfl) fun f fd F => ?_
  refine fn_d F sc_got (fun Ps W h => ?_) fun cdv A0 outer s H E0 Ps W hr h => ?_
  · obtain ⟨T, S, rfl, _⟩ := h
    rfl
  · obtain ⟨T, S, rfl, hT, hS, hW⟩ := h
    refine d_cons (p_asgO (i := 2) (n_dc (α := Thing) (own := [("thing", 7)]) (j := 7) hr (blkOk_by (N := N_got) (sc := defScope s_got) (by decide +kernel)) sc_got.nd (by decide) (fun _ _ _ _ _ => pgn 7 sc_got.nd) (i_list (v_var 1 ⟨_, rfl, _, rfl, ?_⟩))) sc_got.nd)
    refine ⟨S, fThing K, kThing, fun _ => fBl true, rfl, by omega, fun t ht s H C1 cl fp => v_var 7 ⟨_, rfl, keyF_thing, rfl, fun s H C2 cl fp => v_bl ⟨rfl, rfl⟩⟩, ?_⟩
    obtain ⟨ths0, e0, g0, l0⟩ := fold_kvG S []
    have e0 : S.foldl (fun kvs x => ptF kvs (kThing x) (fBl true)) [] = kvG ths0 := e0
    rw [e0]
    have t0 : ∀ t ∈ ths0, Told T S t := fun t ht => by
      rcases g0 t ht with h | h
      · cases h
      · exact .base h
    refine d_cons (p_asgO (i := 3) (n_dnew ?_) sc_got.nd)
    show PD _ _ [.fz (fLst K (T.map (fTriple K))), .fz (fLst K (S.map (fThing K))), .ow (oDN P w K (kvG ths0)), .ow (oDN P w K []), .no, .no, .no, .no] _
    refine d_cons (p_users (iT := 0) (iu := 3) (it := 4) (ih := 7) hr sc_got.nd rfl rfl hT (fun us => ?_) (by show 4 < 8; decide) (by show 7 < 8; decide))
    show PD _ _ [.fz (fLst K (T.map (fTriple K))), .fz (fLst K (S.map (fThing K))), .ow (oDN P w K (kvG ths0)), .ow (oDN P w K (us.map fun x => (x.1, fUse K T))), .no, .no, .no, .no] _
    refine d_cons (p_asgO (i := 5) (n_listO 2 B.list rfl rfl ?_) sc_got.nd)
    have ek : ∀ ths : List Thing, ((kvG ths).map fun kv => fKey K kv.1) = ths.map (fThing K) := fun ths => by
      unfold kvG
      rw [List.map_map]
      apply List.map_congr_left
      intro t _
      exact fThing_key.symm
    have ek0 := ek ths0
    refine d_cons (p_while (fun m Γ => ∃ (ths wl : List Thing) (s4 s6 s7 : DL.Slot), Γ = [.fz (fLst K (T.map (fTriple K))), .fz (fLst K (S.map (fThing K))), .ow (oDN P w K (kvG ths)), .ow (oDN P w K (us.map fun x => (x.1, fUse K T))), s4, .ow (oLst (wl.map (fThing K))), s6, s7] ∧ (∀ t ∈ ths, Told T S t) ∧ m = 2 * unk T ths + wl.length ∧ m ≤ 10000 ∧ ths.length + unk T ths ≤ 10000) (2 * unk T ths0 + ths0.length) ?_ ?_)
    · refine ⟨ths0, ths0, .no, .no, .no, ?_, t0, rfl, ?_, ?_⟩
      · rw [← ek0]
        rfl
      · have := unk_le T ths0
        simp at l0
        omega
      · have := unk_le T ths0
        simp at l0
        omega
    · rintro m Γ ⟨ths, wl, s4, s6, s7, rfl, ht, rfl, hm, hb⟩
      refine b_truO 5 rfl ?_
      rcases List.eq_nil_or_concat wl with rfl | ⟨wl0, t, rfl⟩
      · refine iteF ?_
        exact PD.freeze (i := 2) rfl (d_one (p_ret (v_var 2 ⟨_, rfl, hW ths ht⟩)))
      · rw [List.concat_eq_append] at *
        have ne : (!((wl0 ++ [t]).map (fThing K)).isEmpty) = true := by
          rw [List.map_append]
          cases wl0 <;> rfl
        rw [ne]
        refine iteT ?_
        rw [List.length_append, List.length_singleton] at hm ⊢
        refine d_one (p_for (pgn 4 sc_got.nd) (i_list (PV.ex (PV.cast (v_mO 3 ty_N PySem.F.plainAttrs_dict PySem.F.slot_dict_get PySem.F.type_dict_get (mt_get2N hr) rfl own_ty_N (a_cons (v_mO0 5 tyl_ok PySem.F.plainAttrs_list PySem.F.slot_list_pop PySem.F.type_list_pop mt_pop rfl own_tyl (own_pop (R := fThing K t) ?_ (a_cons (v_lst (a_nil ⟨Nat.zero_le _, a_nil ⟨_, rfl, own_get2N keyF_thing ⟨fUse K T, ?_, _, _, rfl, fun l => ⟨_, rfl, ?_⟩⟩⟩⟩)))))))))))
        · rw [List.map_append, List.length_append, List.length_map]
          simp
        · intro v F hp
          cases hl : lkF (us.map fun x => (x.1, fUse K T)) (kThing t) with
          | none =>
            rw [hl] at hp
            exact ⟨⟨[], fun x hx => (by cases hx)⟩, hp⟩
          | some R =>
            rw [hl] at hp
            have : R = fUse K T := by
              unfold lkF at hl
              obtain ⟨y, y1, y2⟩ := Option.map_eq_some_iff.mp hl
              obtain ⟨kv, hkv, e6⟩ := List.mem_map.mp (List.mem_of_find?_eq_some y1)
              subst e6
              exact y2.symm
            rw [this] at hp
            exact hp
        have edl : ((wl0 ++ [t]).map (fThing K)).dropLast = wl0.map (fThing K) := by rw [List.map_append]; simp
        rw [edl]
        obtain ⟨l, hlT⟩ := l
        generalize hM0 : 2 * unk T ths + wl0.length = M0
        refine ⟨fun i Γ => ∃ (ths wl' : List Thing) (s4 s6 s7 : DL.Slot), Γ = [.fz (fLst K (T.map (fTriple K))), .fz (fLst K (S.map (fThing K))), .ow (oDN P w K (kvG ths)), .ow (oDN P w K (us.map fun x => (x.1, fUse K T))), s4, .ow (oLst (wl'.map (fThing K))), s6, s7] ∧ (∀ t ∈ ths, Told T S t) ∧ 2 * unk T ths + wl'.length ≤ M0 ∧ ths.length + unk T ths ≤ 10000, ⟨ths, wl0, _, _, _, rfl, ht, by omega, hb⟩, ?_, ?_⟩
        · rintro i P0 Γi hP ⟨ths, wl', s4, s6, s7, rfl, ht, hm', hb⟩
          obtain ⟨tr, htr, rfl⟩ := map_at hP
          have hT2 : tr ∈ T := hlT tr (List.mem_of_getElem? htr)
          refine dt_name ?_
          show PD _ _ [.fz (fLst K (T.map (fTriple K))), .fz (fLst K (S.map (fThing K))), .ow (oDN P w K (kvG ths)), .ow (oDN P w K (us.map fun x => (x.1, fUse K T))), .fz (fTriple K tr), .ow (oLst (wl'.map (fThing K))), s6, s7] _
          refine d_cons (p_setLc (i := 6) (own := [("thing", 7)]) (j := 7) (blkOk_by (N := N_got) (sc := defScope s_got) (by decide +kernel)) sc_got.nd (by decide) (fun _ _ _ _ _ => pgn 7 sc_got.nd) rfl (i_tup (v_var 4 ⟨_, rfl, _, rfl, ?_⟩)))
          refine lcw_filter (j := 7) (by decide) tr.things (fThing K) (fThing K) (fun a => !decide (a ∈ ths)) (by show 3 ≤ 50000; decide) (fun x hx s H C1 cl fp => ?_) (fun x hx _ s H C1 cl fp => v_var 7 ⟨_, rfl, rfl, rfl⟩) ?_
          · refine b_inO 2 (op_notInN hr) (v_var 7 ⟨_, rfl, kThing x, kvG ths, keyF_thing, rfl, ?_⟩)
            refine ⟨?_, rfl⟩
            rw [if_pos rfl, lk_kvG]
            by_cases hx : x ∈ ths
            · rw [if_pos hx, decide_eq_true hx]
              rfl
            · rw [if_neg hx, decide_eq_false hx]
              rfl
          show PD _ _ [.fz (fLst K (T.map (fTriple K))), .fz (fLst K (S.map (fThing K))), .ow (oDN P w K (kvG ths)), .ow (oDN P w K (us.map fun x => (x.1, fUse K T))), .fz (fTriple K tr), .ow (oLst (wl'.map (fThing K))), .fz (fLst K ((tr.things.filter fun a => !decide (a ∈ ths)).map (fThing K))), .no] _
          refine d_one (p_if (b_cmp op_eq (v_callB call_ln B.len (a_cons (v_var 6 ⟨_, rfl, a_nil ⟨_, oc_lenL, v_int ⟨_, o2_eq rfl, ?_⟩⟩⟩)))))
          by_cases h1 : (tr.things.filter fun a => !decide (a ∈ ths)).length = 1
          · obtain ⟨x, hx⟩ := List.length_eq_one_iff.mp h1
            obtain ⟨x1, x2, x3⟩ := filter_one hx
            have hxn : x ∉ ths := fun z => by
              rw [decide_eq_true z] at x2
              cases x2
            have once : tr.things.filter (fun y => decide (y = x)) = [x] := by
              have e : tr.things.filter (fun y => decide (y = x)) = (tr.things.filter fun a => !decide (a ∈ ths)).filter (fun y => decide (y = x)) := by
                rw [List.filter_filter]
                apply List.filter_congr
                intro y _
                by_cases h : y = x
                · subst h
                  simp [hxn]
                · simp [h]
              rw [e, hx]
              simp
            have xt : Told T S x := .step hT2 once fun y hy hne => by
              have := x3 y hy hne
              by_cases hy2 : y ∈ ths
              · exact ht y hy2
              · rw [decide_eq_false hy2] at this
                cases this
            rw [hx]
            have ed : decide (V.int ((([x] : List Thing).map (fThing K)).length : Nat) = V.int 1) = true := decide_eq_true rfl
            rw [ed]
            have xU : x ∈ T.flatMap Triple.things := List.mem_flatMap.mpr ⟨tr, hT2, x1⟩
            have hd := unk_dec xU hxn
            refine iteT (d_cons (p_setO 2 hr (v_bl ⟨kvG ths, rfl, ?_, v_ix ix_list (v_var 6 ⟨_, rfl, v_int ⟨fThing K x, o2_ixL rfl, kThing x, keyF_thing, rfl, ?_⟩⟩)⟩)))
            · unfold kvG
              rw [List.length_map]
              omega
            rw [pt_kvG hxn]
            refine d_one (p_append 5 rfl (v_ix ix_list (v_var 6 ⟨_, rfl, v_int ⟨fThing K x, o2_ixL rfl, wl'.map (fThing K), rfl, ?_, ths ++ [x], wl' ++ [x], .fz (fTriple K tr), .fz (fLst K ([x].map (fThing K))), .no, ?_, fun t' ht' => ?_, ?_, ?_⟩⟩)))
            · rw [List.length_map]
              omega
            · rw [List.map_append]
              rfl
            · rcases List.mem_append.mp ht' with h | h
              · exact ht t' h
              · rw [List.mem_singleton.mp h]
                exact xt
            · rw [List.length_append, List.length_singleton]
              omega
            · rw [List.length_append, List.length_singleton]
              omega
          · have ed : decide (V.int (((tr.things.filter fun a => !decide (a ∈ ths)).map (fThing K)).length : Nat) = V.int 1) = false := decide_eq_false fun z => by
              injection z with z
              rw [List.length_map] at z
              omega
            rw [ed]
            exact iteF (d_nil ⟨ths, wl', _, _, _, rfl, ht, hm', hb⟩)
        · rintro Γn ⟨ths', wl', s4, s6, s7, rfl, ht', hm', hb'⟩
          exact ⟨_, by omega, ths', wl', _, _, _, rfl, ht', rfl, by omega, hb'⟩
end
end TB

/-! TB11: Cell.__init__, untold. -/
namespace TB
open PySem L2 PyProof.Rows DL
section
variable {P : Program} {w : World} {K : PySem.W.Frag} {mg : Str → Option Value} {base : Heap} {CK CC dL : Addr}
abbrev s_c_init : Stmt := meth 41 0
abbrev psC : List Str := ["self", "kind", "ins", "inner", "outs", "triples", "stored", "wanted", "begin", "end"]
def d_c_init (K : PySem.W.Frag) (CK CC : Addr) : DSp := fun Ps W => ∃ c : Cl, Ps = [fKind CK c.word c.calm, fTupN K (c.ins.map fStr), fNames K c.inner, fNames K c.outs, fTup K (c.rows.map (fRow K)), fNames K c.stored, fNames K c.wanted, fNames K c.begn, fNames K c.endd] ∧
  Sides c ∧ NoClash c.word c.calm (chain c.ins c.outs c.rows 2) ∧ W (fCell K CK CC c)
theorem sc_c_init : FnScope psC psC (defScope s_c_init) := ⟨rfl, rfl, rfl, by decide +kernel, rfl, by decide +kernel, by decide +kernel⟩
theorem tyd_names {l : List Str} : TyD K (fNames K l) (PySem.W.Tup.mk l) := tyd_tup fun x => tyd_str x
theorem ok_c_init {b e : Addr} (B : Free mg) (E : CellE K mg CC) (CKd : Cal P w K mg base 1 "check_kind" [] (d_check_kind CK)) (CS : Cal P w K mg base 3 "check_sides" [] (d_check_sides K)) (CT : Cal P w K mg base 2 "check_cell_triples" [] (d_check_ct K)) (CN : CNs P w K mg base)
    (CX : Cal P w K mg base 5 "check_clash" [] (d_check_clash K CK CC)) (h6 : ∃ t, mg "MOST_STORED" = some (.int 6 t))
    (h : ∃ f fd, Mk K CC f ∧ FunD K "__init__" "Cell.__init__" (defArgs s_c_init) (defBody s_c_init) (defScope s_c_init) [] [("begin", .ref b), ("end", .ref e)] f fd) : CalI P w K mg base 6 CC 5 ["stored", "wanted", "begin", "end"] (d_c_init K CK CC) := by
  obtain ⟨f, fd, M, F⟩ := h
  obtain ⟨mv, hb⟩ := F.kbinds0 (ps := psC) 6 ["stored", "wanted", "begin", "end"] [] (fun {α} us _ ws => us ++ ws) (fun z => nomatch z) (by simp) (fun r1 _ r3 => r1.append r3) (fun D doc pm an cdv ct us mv ws l1 l2 l3 => match us, mv, ws, l1, l2, l3 with | [_, _, _, _, _, _], [], [_, _, _, _], _, _, _ => rfl)
  refine ⟨f, fd, psC, _, M, hb, ?_⟩
  refine fn_i F sc_c_init (fun Ps W h => ?_) fun cdv A0 outer s H E0 a Ps W hr h => ?_
  · obtain ⟨c, rfl, _⟩ := h
    rfl
  · obtain ⟨c, rfl, S, hnc, hW⟩ := h
    show PD _ _ [.ow (oIns a CC []), .fz (fKind CK c.word c.calm), .fz (fTupN K (c.ins.map fStr)), .fz (fNames K c.inner), .fz (fNames K c.outs), .fz (fTup K (c.rows.map (fRow K))), .fz (fNames K c.stored), .fz (fNames K c.wanted), .fz (fNames K c.begn), .fz (fNames K c.endd)] _
    have cat : ∀ (l m : List Str), l.length + m.length ≤ 100000 → Op2 (rCatA K) (fNames K l) (fNames K m) (fNames K (l ++ m)) := fun l m hl => by
      unfold fNames
      rw [List.map_append]
      exact o2_catT (by rw [List.length_map, List.length_map]; exact hl)
    have li := S.li
    have ln := S.ln
    have lo := S.lo
    refine d_cons (p_expr (v_call CKd hr (a_cons (v_var 1 ⟨_, rfl, a_nil ⟨c.word, c.calm, rfl, ?_⟩⟩))))
    refine d_cons (p_expr (v_call CS hr (a_cons (PV.cast (v_var 2 ⟨_, rfl, fNames K c.ins, fun v F => fTupN_tup, ?_⟩)))))
    refine a_cons (v_var 3 ⟨_, rfl, a_cons (v_var 4 ⟨_, rfl, a_nil ⟨c, rfl, S, ?_⟩⟩)⟩)
    refine d_cons (p_expr (v_call CT hr (a_cons (v_var 5 ⟨_, rfl, a_cons (v_op op_catA (v_op op_catA (PV.cast (v_var 2 ⟨_, rfl, fNames K c.ins, fun v F => fTupN_tup, ?_⟩)) ) )⟩))))
    refine v_var 3 ⟨_, rfl, _, cat _ _ (by omega), v_var 4 ⟨_, rfl, _, cat _ _ (by rw [List.length_append]; omega), a_nil ⟨c.rows, _, rfl, S.lr, S.rin, ?_⟩⟩⟩
    refine d_cons (p_expr (v_call CN.c3 hr (a_cons (v_var 6 ⟨_, rfl, a_cons (v_gint (a_cons (v_op op_catA (v_var 3 ⟨_, rfl, v_var 4 ⟨_, rfl, _, cat _ _ (by omega), a_nil ?_⟩⟩))) h6)⟩))))
    refine ⟨c.stored, _, _, [], rfl, fun x hx => S.nm x ?_, S.s2, .inr ⟨6, rfl, by have := S.s3; omega⟩, .inr ⟨_, rfl, S.s1⟩, fun x _ z => (by cases z), ?_⟩
    · have := S.s1 x hx
      rw [List.append_assoc]
      exact List.mem_append_right _ this
    refine d_cons (p_no (b_cmp (op_eqT (α := PySem.W.Tup Str) hr (by decide)) (v_var 7 ⟨_, rfl, v_tup (a_nil ⟨Nat.zero_le _, false, ?_, rfl, ?_⟩)⟩)))
    · have := o2_eqT (K := K) (tyd_names (K := K) (l := c.wanted)) (tyd_names (K := K) (l := []))
      rw [decide_eq_false (fun z => S.w3 (by injection z))] at this
      exact this
    refine d_cons (p_expr (v_call CN.c3 hr (a_cons (v_var 7 ⟨_, rfl, a_cons (v_non (a_cons (v_op op_catA (v_var 3 ⟨_, rfl, v_var 4 ⟨_, rfl, _, cat _ _ (by omega), a_nil ?_⟩⟩))))⟩))))
    refine ⟨c.wanted, _, _, [], rfl, fun x hx => S.nm x ?_, S.w2, .inl rfl, .inr ⟨_, rfl, S.w1⟩, fun x _ z => (by cases z), ?_⟩
    · have := S.w1 x hx
      rw [List.append_assoc]
      exact List.mem_append_right _ this
    refine d_cons (p_expr (v_call CN.c3 hr (a_cons (v_var 8 ⟨_, rfl, a_cons (v_non (a_cons (PV.cast (v_var 2 ⟨_, rfl, fNames K c.ins, fun v F => fTupN_tup, a_nil ?_⟩))))⟩))))
    refine ⟨c.begn, _, _, [], rfl, fun x hx => S.nm x ?_, S.b2, .inl rfl, .inr ⟨_, rfl, S.b1⟩, fun x _ z => (by cases z), ?_⟩
    · exact List.mem_append_left _ (List.mem_append_left _ (S.b1 x hx))
    refine d_cons (p_expr (v_call CN.c3 hr (a_cons (v_var 9 ⟨_, rfl, a_cons (v_non (a_cons (v_var 4 ⟨_, rfl, a_nil ?_⟩)))⟩))))
    refine ⟨c.endd, _, _, [], rfl, fun x hx => S.nm x ?_, S.e2, .inl rfl, .inr ⟨_, rfl, S.e1⟩, fun x _ z => (by cases z), ?_⟩
    · exact List.mem_append_right _ (S.e1 x hx)
    refine d_cons (p_fld 0 E.ins.cl E.n1 (v_var 1 ⟨_, rfl, _, rfl, by rfl, by decide, ?_⟩))
    refine d_cons (p_fld 0 E.ins.cl E.n2 (v_var 2 ⟨_, rfl, _, rfl, by rfl, (by show 1 < 1000; decide), ?_⟩))
    refine d_cons (p_fld 0 E.ins.cl E.n3 (v_var 3 ⟨_, rfl, _, rfl, by rfl, (by show 2 < 1000; decide), ?_⟩))
    refine d_cons (p_fld 0 E.ins.cl E.n4 (v_var 4 ⟨_, rfl, _, rfl, by rfl, (by show 3 < 1000; decide), ?_⟩))
    refine d_cons (p_fld 0 E.ins.cl E.n5 (v_var 5 ⟨_, rfl, _, rfl, by rfl, (by show 4 < 1000; decide), ?_⟩))
    refine d_cons (p_fld 0 E.ins.cl E.n6 (v_var 6 ⟨_, rfl, _, rfl, by rfl, (by show 5 < 1000; decide), ?_⟩))
    refine d_cons (p_fld 0 E.ins.cl E.n7 (v_var 7 ⟨_, rfl, _, rfl, by rfl, (by show 6 < 1000; decide), ?_⟩))
    refine d_cons (p_fld 0 E.ins.cl E.n8 (v_var 8 ⟨_, rfl, _, rfl, by rfl, (by show 7 < 1000; decide), ?_⟩))
    refine d_cons (p_fld 0 E.ins.cl E.n9 (v_var 9 ⟨_, rfl, _, rfl, by rfl, (by show 8 < 1000; decide), ?_⟩))
    refine PD.freeze (i := 0) rfl ?_
    refine d_one (p_expr (v_call CX hr (a_cons (PV.cast (v_var 0 ⟨_, rfl, fCell K CK CC c, fun v F h => (oIns_fct h).2, a_nil ⟨c, rfl, S.wd, S.lr, S.lo, hnc, ?_⟩⟩)))))
    exact ⟨_, .inr ⟨rfl, hW⟩⟩
end
end TB

/-! TB12: untold. -/
namespace TB
open PySem L2 PyProof.Rows DL
def goalsOf (wanted : List Str) (n : Nat) : List Thing := (List.range n).flatMap fun i : Nat => wanted.map fun z => (((i : Nat) : Int), z)
section
variable {P : Program} {w : World} {K : PySem.W.Frag} {mg : Str → Option Value} {base : Heap} {CK CC dL : Addr}
abbrev s_untold : Stmt := top 50
def d_untold (K : PySem.W.Frag) (CK CC : Addr) : DSp := fun Ps W => ∃ (c : Cl) (n : Nat) (lost : List Thing), Ps = [fCell K CK CC c, fInt (n : Nat), fTup K (lost.map (fThing K))] ∧ c.outs.length = c.ins.length ∧ c.rows.length ≤ 8 ∧ 1 ≤ n ∧ n ≤ 2 ∧ c.stored.length ≤ 100 ∧ c.begn.length ≤ 100 ∧ c.endd.length ≤ 100 ∧ c.wanted.length ≤ 100 ∧ lost.length ≤ 100 ∧
  (∀ t ∈ lost, 0 ≤ t.1 ∧ t.1 ≤ (n : Int) - 1 ∧ t.2 ∈ c.stored) ∧ lost.Pairwise thLt ∧
  ∀ l : List Thing, (∀ t ∈ l, t ∈ goalsOf c.wanted n) → l.length ≤ 200 → (∀ t ∈ goalsOf c.wanted n, t ∉ l → Told (chain c.ins c.outs c.rows n) (keptOf c n lost) t) → W (fTup K (l.map (fThing K)))
abbrev N_untold : List Str := ["cell", "count", "lost", "known", "wanted", "number", "name", "thing"]
theorem sc_untold : FnScope N_untold ["cell", "count", "lost"] (defScope s_untold) := ⟨rfl, rfl, rfl, by decide +kernel, rfl, by decide +kernel, by decide +kernel⟩
theorem flat_len {α β : Type} (f : α → List β) (m : Nat) : ∀ l : List α, (∀ x ∈ l, (f x).length ≤ m) → (l.flatMap f).length ≤ l.length * m
  | [], _ => by simp
  | a :: l, h => by
    rw [List.flatMap_cons, List.length_append, List.length_cons, Nat.succ_mul]
    have h1 := h a List.mem_cons_self
    have h2 := flat_len f m l fun x hx => h x (List.mem_cons_of_mem _ hx)
    omega
theorem ok_untold (B : Free mg) (E : CellE K mg CC) (C1 : Cal P w K mg base 1 "check_cell" [] (d_check_cell K CK CC)) (C2 : Cal P w K mg base 3 "check_count" [] d_check_count) (C3 : Cal P w K mg base 3 "check_lost" [] (d_check_lost K CK CC))
    (C4 : Cal P w K mg base 1 "got_things" [] (d_got P w K)) (C5 : Cal P w K mg base 3 "chain_triples" [] (d_chain_triples K CK CC)) (C6 : Cal P w K mg base 1 "kept_things" [] (d_kept K CK CC)) (h : HasF K mg "untold" s_untold []) : Cal P w K mg base 4 "untold" [] (d_untold K CK CC) := by
  refine cal_of h (ps := ["cell", "count", "lost"]) (fun _ _ _ _ _ _ us hl => match us, hl with | [_, _, _], _ => rfl) fun f fd F => ?_
  refine fn_d F sc_untold (fun Ps W h => ?_) fun cdv A0 outer s H E0 Ps W hr h => ?_
  · obtain ⟨c, n, lost, rfl, _⟩ := h
    rfl
  · obtain ⟨c, n, lost, rfl, ho, hrl, hn1, hn2, l1, l2, l3, l4, l5, hlo, hpw, hW⟩ := h
    refine d_cons (p_expr (v_call C1 hr (a_cons (v_var 0 ⟨_, rfl, a_nil ⟨c, rfl, ?_⟩⟩))))
    refine d_cons (p_expr (v_call C2 hr (a_cons (v_var 1 ⟨_, rfl, a_nil ⟨(n : Int), rfl, by omega, by omega, ?_⟩⟩))))
    refine d_cons (p_expr (v_call C3 hr (a_cons (v_var 0 ⟨_, rfl, a_cons (v_var 1 ⟨_, rfl, a_cons (v_var 2 ⟨_, rfl, a_nil ⟨c, (n : Int), lost, rfl, hlo, hpw, ?_⟩⟩)⟩)⟩))))
    have hkl : (keptOf c n lost).length ≤ 1000 := by
      unfold keptOf
      rw [List.length_append, List.length_append, List.length_map, List.length_map]
      have := flat_len (fun i : Nat => (c.stored.filter fun z => !decide ((((i : Nat) : Int), z) ∈ lost)).map fun z => (((i : Nat) : Int), z)) 100 (List.range n) fun x _ => by
        rw [List.length_map]
        exact Nat.le_trans (List.length_filter_le _ _) l1
      rw [List.length_range] at this
      omega
    refine d_cons (p_asg (i := 3) (v_call C4 hr (a_cons (v_call C5 hr (a_cons (v_var 0 ⟨_, rfl, a_cons (v_var 1 ⟨_, rfl, a_nil ⟨c, n, rfl, ho, by omega, by omega, ?_⟩⟩)⟩))))) sc_untold.nd)
    refine a_cons (v_call C6 hr (a_cons (v_var 0 ⟨_, rfl, a_cons (v_var 1 ⟨_, rfl, a_cons (v_var 2 ⟨_, rfl, a_nil ⟨c, n, lost, rfl, by omega, by omega, by omega, by omega, by omega, ?_⟩⟩)⟩)⟩)))
    refine a_nil ⟨_, _, rfl, by rw [chain_len]; have := Nat.mul_le_mul hrl hn2; omega, hkl, fun ths hths => ?_⟩
    show PD _ _ [.fz (fCell K CK CC c), .fz (fInt (n : Nat)), .fz (fTup K (lost.map (fThing K))), .fz (fDN P w K (kvG ths)), .no, .no, .no, .no] _
    refine d_cons (p_asg (i := 4) (PV.ex (v_callB cr_sortedPS B.sorted (a_cons ?_))) sc_untold.nd)
    refine v_lc2 (α := Nat) (β := Str) (own := [("number", 5), ("name", 6)]) (vs1 := [6]) (j := 5) (j1 := 6) (blkOk_by (N := N_untold) (sc := defScope s_untold) (by decide +kernel)) sc_untold.nd (by decide) (by decide) (by decide) (fun _ _ _ _ _ => pgn 5 sc_untold.nd) (fun _ _ _ _ _ => pgn 6 sc_untold.nd) (i_range B.range (v_var 1 ⟨_, rfl, (n : Nat), rfl, by omega, by omega, ?_⟩))
    rw [Int.toNat_natCast]
    refine ⟨List.range n, fun i => fInt (i : Nat), fun _ => c.wanted, fun _ => fStr, fun i z => true, fun i z => fThing K ((i : Int), z), rfl, ⟨by rw [List.length_range]; omega, fun _ _ => (by show c.wanted.length ≤ 200; omega), fun i hi s H C1 cl fp => ?_⟩, ?_⟩
    · refine i_tup (v_fld E.ins.cl E.n7 (v_var 0 ⟨_, rfl, _, _, rfl, rfl, _, rfl, rfl, rfl, fun z hz => ⟨rfl, rfl, fun _ s H C2 cl fp => ?_⟩⟩))
      exact v_tup (a_cons (v_var 5 ⟨_, rfl, a_cons (v_var 6 ⟨_, rfl, a_nil ⟨(by show 2 ≤ 100000; decide), rfl, rfl⟩⟩)⟩))
    have er : res2 (fun _ => c.wanted) (fun (_ : Nat) _ => true) (fun (i : Nat) z => fThing K (((i : Nat) : Int), z)) (List.range n) = (goalsOf c.wanted n).map (fThing K) := by
      unfold res2 goalsOf
      rw [List.map_flatMap]
      congr 1
      funext i
      rw [List.map_map, List.filter_eq_self.mpr fun _ _ => rfl]
      rfl
    rw [er]
    refine a_nil ⟨_, oc_sortedPS, _, _, rfl, fun l' => ?_⟩
    obtain ⟨l, hp⟩ := l'
    show PD _ _ [.fz (fCell K CK CC c), .fz (fInt (n : Nat)), .fz (fTup K (lost.map (fThing K))), .fz (fDN P w K (kvG ths)), .fz (fLst K (l.map (fThing K))), .no, .no, .no] _
    have hll : l.length ≤ 200 := by
      rw [hp.length_eq]
      have := flat_len (fun i : Nat => c.wanted.map fun z => (((i : Nat) : Int), z)) 100 (List.range n) fun x _ => by
        rw [List.length_map]
        exact l4
      rw [List.length_range] at this
      unfold goalsOf
      omega
    refine d_one (p_ret (v_callTy call_tpl B.tuple (a_cons ?_)))
    refine v_lc (own := [("thing", 7)]) (j := 7) (blkOk_by (N := N_untold) (sc := defScope s_untold) (by decide +kernel)) sc_untold.nd (by decide) (fun _ _ _ _ _ => pgn 7 sc_untold.nd) (i_list (v_var 4 ⟨_, rfl, _, rfl, ?_⟩))
    refine lcw_filter (j := 7) (by decide) l (fThing K) (fThing K) (fun t => !decide (t ∈ ths)) (by omega) (fun t ht s H C1 cl fp => ?_) (fun t ht hk s H C1 cl fp => v_var 7 ⟨_, rfl, rfl, rfl⟩) ?_
    · refine b_cmp (op_notInN hr) (v_var 7 ⟨_, rfl, v_var 3 ⟨_, rfl, _, o2_notInN keyF_thing, ?_, rfl⟩⟩)
      rw [lk_kvG]
      by_cases hm : t ∈ ths
      · rw [if_pos hm, decide_eq_true hm]
        rfl
      · rw [if_neg hm, decide_eq_false hm]
        rfl
    refine a_nil ⟨_, oc_tuple, hW _ (fun t ht => hp.mem_iff.mp (List.mem_filter.mp ht).1) (Nat.le_trans (List.length_filter_le _ _) hll) fun t ht hno => ?_⟩
    by_cases hm : t ∈ ths
    · exact hths t hm
    · exact absurd (List.mem_filter.mpr ⟨hp.mem_iff.mpr ht, by rw [decide_eq_false hm]; rfl⟩) hno
end
end TB

/-! TB13: _law_cell, _law_source, _law_draw. -/
namespace TB
open PySem L2 PyProof.Rows DL
/-- a list of ints, ours or handed to us -/
def fCells (K : PySem.W.Frag) (ns : List Int) : Fct := ⟨fun v H => ∃ a, v = .ref a ∧ SqL K H a (ns.map V.int), fun e h => by
  obtain ⟨a, h1, h2⟩ := h
  exact ⟨a, h1, Evl.ex_l e h2⟩⟩
theorem oc_lenC {K : PySem.W.Frag} {ns : List Int} : OpC (DL.rLen K) [fCells K ns] (fInt (ns.length : Nat)) := fun vs F H ex ps Q q => by
  cases ps with
  | cons p1 ps =>
    cases ps
    obtain ⟨a, rfl, h2⟩ := p1
    exact ⟨_, ns.length, rfl, .inl ⟨_, Evl.ex_l ex h2, by rw [List.length_map]⟩, q _ F H rfl (Grow.refl ex)⟩
theorem o2_ixC {K : PySem.W.Frag} {ns : List Int} {i : Int} {n : Int} (h : atI ns i = some n) : Op2 (rIxL K) (fCells K ns) (fInt i) (fInt n) := fun v v' F H ex p p' Q q => by
  obtain ⟨a, h1, h2⟩ := p
  refine ⟨a, _, i, .int n, h1, p', Evl.ex_l ex h2, ?_, q (.int n) F H rfl (Grow.refl ex)⟩
  unfold atI at h ⊢
  rw [List.length_map]
  cases e : ixN ns.length i with
  | none =>
    rw [e] at h
    cases h
  | some j =>
    rw [e] at h
    show (ns.map V.int)[j]? = _
    rw [List.getElem?_map]
    have h : ns[j]? = some n := h
    rw [h]
    rfl
theorem os_C {K : PySem.W.Frag} {ns : List Int} {lo hi : Option Int} : OpS (rSlL K) (fCells K ns) lo hi (fLst K ((cutF ns lo hi).map fInt)) := fun v F H ex p Q q => by
  obtain ⟨a, h1, h2⟩ := p
  refine ⟨a, _, h1, Evl.ex_l ex h2, fun p hp => ?_⟩
  have g := Grow.new (o := .lst (cutV (ns.map V.int) lo hi)) ex hp
  refine q _ _ _ ⟨p, _, rfl, upd_same, ?_⟩ g
  have e : cutV (ns.map V.int) lo hi = (cutF ns lo hi).map V.int := cutF_map V.int ns lo hi
  rw [e]
  have key : ∀ (l : List Int), AllP (l.map V.int) (l.map fInt) (upd F p (.lst ((cutF ns lo hi).map V.int))) := by
    intro l
    induction l with
    | nil => exact .nil
    | cons a l ih => exact .cons rfl ih
  exact key _
section
variable {P : Program} {w : World} {K : PySem.W.Frag} {mg : Str → Option Value} {base : Heap}
/-! ### _law_cell -/
abbrev s_cell : Stmt := top 52
def d_cell (K : PySem.W.Frag) : DSp := fun Ps W => ∃ (ns : List Int) (k : Nat), Ps = [fCells K ns, fInt (k : Nat)] ∧ k ≤ 10 ∧ ∀ i : Int, W (fInt i)
abbrev N_cell : List Str := ["_law_cells", "_law_k", "_law_seed", "_law_item"]
theorem sc_cell : FnScope N_cell ["_law_cells", "_law_k"] (defScope s_cell) := ⟨rfl, rfl, rfl, by decide +kernel, rfl, by decide +kernel, by decide +kernel⟩
theorem ok_cell (B : Free mg) (h : HasF K mg "_law_cell" s_cell []) : Cal P w K mg base 1 "_law_cell" [] (d_cell K) := by
  refine cal_of h (ps := ["_law_cells", "_law_k"]) (fun _ _ _ _ _ _ us hl => match us, hl with | [_, _], _ => rfl) fun f fd F => ?_
  refine fn_d F sc_cell (fun Ps W h => ?_) fun cdv A0 outer s H E0 Ps W hr h => ?_
  · obtain ⟨ns, k, rfl, _⟩ := h
    rfl
  · obtain ⟨ns, k, rfl, hk, hW⟩ := h
    have rest : PD (cxOf CX0 P w K mg base N_cell "_law_cell" (defScope s_cell) f cdv A0 outer s H E0).nox ((defBody s_cell).drop 1) [.fz (fCells K ns), .fz (fInt (k : Nat)), .no, .no] { nx := fun _ => W fNon, rt := W } := by
      refine d_cons (p_asg (i := 2) (v_op op_add (v_op op_add (v_int (v_op op_mul (v_op op_mul (v_int (v_var 1 ⟨_, rfl, _, o2_I (Or.inl ?_), ?_⟩))))))) sc_cell.nd)
      · exact ⟨by decide, by decide⟩
      refine v_var 1 ⟨_, rfl, _, o2_I (Or.inr ⟨by omega, by omega⟩), _, o2_I0, v_op op_mul (v_int (v_var 1 ⟨_, rfl, _, o2_I (Or.inl ?_), _, o2_I0, ?_⟩))⟩
      · exact ⟨by decide, by decide⟩
      refine d_cons (p_for (pgn 3 sc_cell.nd) (i_list (v_slice sl_list (v_var 0 ⟨_, rfl, v_int ⟨4, rfl, _, os_C, _, rfl, ?_⟩⟩))))
      refine ⟨fun i Γ => ∃ (z : Int) (s3 : Slot), Γ = [.fz (fCells K ns), .fz (fInt (k : Nat)), .fz (fInt z), s3], ⟨_, _, rfl⟩, ?_, ?_⟩
      · rintro i P0 Γi hP ⟨z, s3, rfl⟩
        obtain ⟨n, hn, rfl⟩ := map_at hP
        refine dt_name ?_
        show PD _ _ [.fz (fCells K ns), .fz (fInt (k : Nat)), .fz (fInt z), .fz (fInt n)] _
        refine d_one (p_asg (i := 2) (v_op op_mod (v_callTy call_i1 B.int (a_cons (v_op op_add (v_op op_mul (v_var 2 ⟨_, rfl, v_int ⟨_, o2_I (Or.inr ?_), v_var 3 ⟨_, rfl, _, o2_I0, a_nil ?_⟩⟩⟩)))))) sc_cell.nd)
        · exact ⟨by decide, by decide⟩
        refine ⟨_, oc_int, v_int ⟨_, o2_I ?_, _, _, rfl⟩⟩
        decide
      · rintro Γn ⟨z, s3, rfl⟩
        exact d_one (p_ret (v_var 2 ⟨_, rfl, hW _⟩))
    refine d_cons (p_if (b_cmp op_lt (v_var 1 ⟨_, rfl, v_callB call_ln B.len (a_cons (v_var 0 ⟨_, rfl, a_nil ⟨_, oc_lenC, decide (((k : Nat) : Int) < (ns.length : Nat)), o2_I0, ?_⟩⟩))⟩)))
    by_cases hlt : k < ns.length
    · rw [decide_eq_true (by omega : ((k : Nat) : Int) < (ns.length : Nat))]
      refine iteT ?_
      refine d_one <| p_ret <| v_callTy call_i1 B.int <| a_cons <| v_ix ix_list <| v_var 0 ⟨_, rfl, v_var 1 ⟨_, rfl, _, o2_ixC (n := ns[k]) (at_nat (List.getElem?_eq_getElem hlt)), a_nil ⟨_, oc_int, hW _⟩⟩⟩
    · rw [decide_eq_false (by omega : ¬ ((k : Nat) : Int) < (ns.length : Nat))]
      exact iteF (d_nil rest)
/-! ### _law_source -/
abbrev s_source : Stmt := top 53
def d_source : DSp := fun Ps W => ∃ i : Int, Ps = [fInt i] ∧ W fSrc
abbrev N_source : List Str := ["_law_item", "_law_great"]
theorem sc_source : FnScope N_source ["_law_item"] (defScope s_source) := ⟨rfl, rfl, rfl, by decide +kernel, rfl, by decide +kernel, by decide +kernel⟩
theorem ok_source (B : Free mg) (h : HasF K mg "_law_source" s_source []) : Cal P w K mg base 1 "_law_source" [] d_source := by
  refine cal_of h (ps := ["_law_item"]) (fun _ _ _ _ _ _ us hl => match us, hl with | [_], _ => rfl) fun f fd F => ?_
  refine fn_d F sc_source (fun Ps W h => ?_) fun cdv A0 outer s H E0 Ps W hr h => ?_
  · obtain ⟨i, rfl, _⟩ := h
    rfl
  · obtain ⟨i, rfl, hW⟩ := h
    have rest : ∀ g : Int, PD (cxOf CX0 P w K mg base N_source "_law_source" (defScope s_source) f cdv A0 outer s H E0).nox ((defBody s_source).drop 1) [.fz (fInt i), .fz (fInt g)] { nx := fun _ => W fNon, rt := W } := fun g => by
      refine d_one (p_ret (v_srcNew (a_cons (v_op op_mod (v_callTy call_i1 B.int (a_cons (v_var 0 ⟨_, rfl, a_nil ⟨_, oc_int, v_int ⟨_, o2_I ?_, ?_⟩⟩⟩)))))))
      · decide
      exact a_cons (v_var 1 ⟨_, rfl, a_cons (v_int (a_nil ⟨_, _, _, rfl, hW⟩))⟩)
    refine d_cons (p_asg (i := 1) (v_if (b_w (w_or (b_cmp op_lt (v_var 0 ⟨_, rfl, v_int ⟨decide (i < 0), o2_I0, ?_⟩⟩))))) sc_source.nd)
    by_cases h0 : i < 0
    · rw [decide_eq_true h0]
      exact iteT (iteT (v_callB call_ab B.abs (a_cons (v_var 0 ⟨_, rfl, a_nil ⟨_, oc_abs, rest _⟩⟩))))
    · rw [decide_eq_false h0]
      refine iteF (w_or1 (b_cmp op_ge (v_var 0 ⟨_, rfl, v_op op_pow (v_int (v_int ⟨_, o2_I ?_, decide ((10 : Int) ^ 18 ≤ i), o2_I0, ?_⟩))⟩)))
      · exact ⟨by decide, by decide, by decide⟩
      by_cases h1 : (10 : Int) ^ 18 ≤ i
      · rw [decide_eq_true h1]
        exact iteT (v_callB call_ab B.abs (a_cons (v_var 0 ⟨_, rfl, a_nil ⟨_, oc_abs, rest _⟩⟩)))
      · rw [decide_eq_false h1]
        exact iteF (v_int (rest _))
/-! ### _law_draw -/
abbrev s_draw : Stmt := top 54
def d_draw : DSp := fun Ps W => ∃ m : Int, Ps = [fSrc, fInt m] ∧ 0 < m ∧ m < 1000000 ∧ ∀ k : Int, 0 ≤ k → k < m → W (fInt k)
abbrev N_draw : List Str := ["_law_source_here", "_law_many", "_law_digit", "_law_state"]
theorem sc_draw : FnScope N_draw ["_law_source_here", "_law_many"] (defScope s_draw) := ⟨rfl, rfl, rfl, by decide +kernel, rfl, by decide +kernel, by decide +kernel⟩
theorem ok_draw (B : Free mg) (h : HasF K mg "_law_draw" s_draw []) : Cal P w K mg base 1 "_law_draw" [] d_draw := by
  refine cal_of h (ps := ["_law_source_here", "_law_many"]) (fun _ _ _ _ _ _ us hl => match us, hl with | [_, _], _ => rfl) fun f fd F => ?_
  refine fn_d F sc_draw (fun Ps W h => ?_) fun cdv A0 outer s H E0 Ps W hr h => ?_
  · obtain ⟨m, rfl, _⟩ := h
    rfl
  · obtain ⟨m, rfl, h0, h1, hW⟩ := h
    refine d_cons <| p_asgT (pg_src 0) <| v_op op_add <| PV.ex <| v_ix ix_src <| v_var 0 ⟨_, rfl, v_int ⟨_, o2_src (by decide) (by decide), _, _, rfl, fun i => v_int ⟨_, o2_I0, ?_⟩⟩⟩
    refine dt_src (by decide) (by decide) rfl ?_
    refine d_cons <| p_if <| b_cmp op_gt <| PV.ex <| v_ix ix_src <| v_var 0 ⟨_, rfl, v_int ⟨_, o2_src (by decide) (by decide), _, _, rfl, fun j => v_int ⟨decide (0 < j), o2_I0, ?_⟩⟩⟩
    have md : ∀ j : Int, 0 ≤ j % m ∧ j % m < m := fun j => ⟨Int.emod_nonneg _ (by omega), Int.emod_lt_of_pos _ h0⟩
    by_cases hj : 0 < j
    · rw [decide_eq_true hj]
      refine iteT ?_
      refine d_cons <| p_asgT (pg_tup rfl (pgs_cons (pg_src 0) (pgs_cons (pgn 2 sc_draw.nd) pgs_nil))) <| v_callB call_dm B.divmod <| a_cons <| PV.ex <| v_ix ix_src <| v_var 0 ⟨_, rfl, v_int ⟨_, o2_src (by decide) (by decide), _, _, rfl, fun q => ?_⟩⟩
      refine a_cons <| v_var 1 ⟨_, rfl, a_nil ⟨_, oc_divm ⟨h0, by omega⟩, dt_tup rfl (dts_cons (dt_src (by decide) (by decide) rfl (dts_cons (dt_name (dts_nil ?_)))))⟩⟩
      exact d_one <| p_ret <| v_var 2 ⟨_, rfl, hW _ (md q).1 (md q).2⟩
    · rw [decide_eq_false hj]
      refine iteF (d_nil ?_)
      refine d_cons <| p_asg (i := 3) (v_callTy call_i1 B.int <| a_cons <| PV.ex <| v_ix ix_src <| v_var 0 ⟨_, rfl, v_int ⟨_, o2_src (by decide) (by decide), _, _, rfl, fun q => a_nil ⟨_, oc_int, ?_⟩⟩⟩) sc_draw.nd
      refine d_cons <| p_asg (i := 3) (v_op op_mod <| v_callTy call_i1 B.int <| a_cons <| v_op op_add <| v_op op_add <| v_op op_mul <| v_var 3 ⟨_, rfl, ?_⟩) sc_draw.nd
      refine v_op op_add <| v_op op_mod <| v_callTy call_i1 B.int <| a_cons <| v_var 3 ⟨_, rfl, a_nil ⟨_, oc_int, v_int ⟨_, o2_I ?_, v_int ⟨_, o2_I0, _, o2_I (Or.inr ?_), ?_⟩⟩⟩⟩
      · decide
      · have h1 : 0 ≤ q % 40961 := Int.emod_nonneg _ (by decide)
        have h2 : q % 40961 < 40961 := Int.emod_lt_of_pos _ (by decide)
        omega
      refine v_op op_mul <| v_int <| PV.ex <| v_ix ix_src <| v_var 0 ⟨_, rfl, v_int ⟨_, o2_src (by decide) (by decide), _, _, rfl, fun r => ⟨_, o2_I (Or.inl ?_), _, o2_I0, ?_⟩⟩⟩
      · exact ⟨by decide, by decide⟩
      refine v_int ⟨_, o2_I0, a_nil ⟨_, oc_int, v_int ⟨_, o2_I ?_, ?_⟩⟩⟩
      · decide
      refine d_cons <| p_asgT (pg_src 0) <| v_var 3 ⟨_, rfl, dt_src (by decide) (by decide) rfl ?_⟩
      refine d_one <| p_ret <| v_op op_mod <| v_callTy call_i1 B.int <| a_cons <| v_op op_fdiv <| v_var 3 ⟨_, rfl, v_int ⟨_, o2_I ?_, a_nil ⟨_, oc_int, v_var 1 ⟨_, rfl, _, o2_I h0, hW _ (md _).1 (md _).2⟩⟩⟩⟩
      exact ⟨by decide, by decide⟩
end
end TB

/-! TB14: _law_names, _law_sort, _law_turns. -/
namespace TB
open PySem L2 PyProof.Rows DL
/-- the beginning of a name -/
def PTag (z : Str) (n : Nat) : Prop := (1 ≤ z.length ∧ z.length ≤ n + 1) ∧ (∃ c, z.cps.toList[0]? = some c ∧ c ∈ LET.cps.toList) ∧ ∀ c ∈ z.cps.toList, c ∈ SIG.cps.toList
theorem PTag.ok {z : Str} {n : Nat} (h : PTag z n) (hn : n ≤ 7) : NmOk z := ⟨⟨h.1.1, by have := h.1.2; omega⟩, h.2⟩
theorem str_len (z : Str) : z.length = z.cps.toList.length := by
  unfold Str.length
  rw [Array.length_toList]
theorem str_app (z u : Str) : (z ++ u).cps.toList = z.cps.toList ++ u.cps.toList := by
  show (z.cps ++ u.cps).toList = _
  rw [Array.toList_append]
theorem PTag.snoc {z : Str} {n c : Nat} (h : PTag z n) (hc : c ∈ SIG.cps.toList) : PTag (z ++ ⟨#[c]⟩) (n + 1) := by
  obtain ⟨⟨h1, h2⟩, ⟨a, ha, hb⟩, h3⟩ := h
  have e := str_app z ⟨#[c]⟩
  have e2 : (⟨#[c]⟩ : Str).cps.toList = [c] := rfl
  rw [e2] at e
  refine ⟨?_, ⟨a, ?_, hb⟩, ?_⟩
  · rw [str_len] at h1 h2 ⊢
    rw [e, List.length_append, List.length_singleton]
    omega
  · rw [e]
    exact List.getElem?_append_left (List.getElem?_eq_some_iff.mp ha).1 ▸ ha
  · rw [e]
    intro x hx
    rcases List.mem_append.mp hx with hx | hx
    · exact h3 x hx
    · rw [List.mem_singleton.mp hx]
      exact hc
theorem PTag.one {c : Nat} (h : c ∈ LET.cps.toList) : PTag ⟨#[c]⟩ 0 := by
  refine ⟨⟨Nat.le_refl _, Nat.le_refl _⟩, ⟨c, rfl, h⟩, fun x hx => ?_⟩
  have hx : x ∈ [c] := hx
  rw [List.mem_singleton.mp hx]
  have key : ∀ c ∈ LET.cps.toList, c ∈ SIG.cps.toList := by decide +kernel
  exact key c h
theorem let_at {k : Int} (h0 : 0 ≤ k) (h1 : k < 26) : ∃ c, atI LET.cps.toList k = some c ∧ c ∈ LET.cps.toList := by
  obtain ⟨n, rfl⟩ : ∃ n : Nat, k = n := ⟨k.toNat, by omega⟩
  have hl : LET.cps.toList.length = 26 := by decide +kernel
  have hn : n < LET.cps.toList.length := by omega
  exact ⟨_, at_nat (List.getElem?_eq_getElem hn), List.getElem_mem hn⟩
theorem sig_at {k : Int} (h0 : 0 ≤ k) (h1 : k < 36) : ∃ c, atI SIG.cps.toList k = some c ∧ c ∈ SIG.cps.toList := by
  obtain ⟨n, rfl⟩ : ∃ n : Nat, k = n := ⟨k.toNat, by omega⟩
  have hl : SIG.cps.toList.length = 36 := by decide +kernel
  have hn : n < SIG.cps.toList.length := by omega
  exact ⟨_, at_nat (List.getElem?_eq_getElem hn), List.getElem_mem hn⟩
/-- a spare name -/
def spw (j : Nat) : Str := "x" ++ (toString ((j : Nat) : Int) : String)
def nmB (z : Str) : Bool := decide (1 ≤ z.length) && decide (z.length ≤ 8) && (match z.cps.toList with | [] => false | c :: _ => decide (c ∈ LET.cps.toList)) && z.cps.toList.all fun c => decide (c ∈ SIG.cps.toList)
theorem nmB_ok {z : Str} (h : nmB z = true) : NmOk z := by
  unfold nmB at h
  rw [Bool.and_eq_true, Bool.and_eq_true, Bool.and_eq_true] at h
  obtain ⟨⟨⟨h1, h2⟩, h3⟩, h4⟩ := h
  refine ⟨⟨of_decide_eq_true h1, of_decide_eq_true h2⟩, ?_, fun c hc => of_decide_eq_true (List.all_eq_true.mp h4 c hc)⟩
  cases e : z.cps.toList with
  | nil =>
    rw [e] at h3
    cases h3
  | cons c l =>
    rw [e] at h3
    exact ⟨c, rfl, of_decide_eq_true h3⟩
theorem spw_ok : ∀ j ∈ List.range 33, nmB (spw j) = true := by decide +kernel
theorem spw_nd : ((List.range 33).map spw).Nodup := by decide +kernel
theorem spw_free {m : Nat} (hm : m ≤ 32) {l : List Str} (hl : l.length < m + 1) : ∃ z r, (((List.range (m + 1)).map spw).filter fun z => !decide (z ∈ l)) = z :: r ∧ NmOk z ∧ z ∉ l := by
  have sub : (List.range (m + 1)).Sublist (List.range 33) := List.range_sublist.mpr (by omega)
  have nd : ((List.range (m + 1)).map spw).Nodup := spw_nd.sublist (sub.map spw)
  cases e : (((List.range (m + 1)).map spw).filter fun z => !decide (z ∈ l)) with
  | nil =>
    exfalso
    have : ((List.range (m + 1)).map spw) ⊆ l := fun z hz => by
      by_cases hm : z ∈ l
      · exact hm
      · have := (List.mem_filter (p := fun z => !decide (z ∈ l))).mpr ⟨hz, by show (!decide (z ∈ l)) = true; rw [decide_eq_false hm]; rfl⟩
        rw [e] at this
        cases this
    have := nd.length_le_of_subset this
    rw [List.length_map, List.length_range] at this
    omega
  | cons z r =>
    have hz : z ∈ (((List.range (m + 1)).map spw).filter fun z => !decide (z ∈ l)) := by rw [e]; exact List.mem_cons_self
    obtain ⟨h1, h2⟩ := List.mem_filter.mp hz
    obtain ⟨j, hj, rfl⟩ := List.mem_map.mp h1
    exact ⟨_, r, rfl, nmB_ok (spw_ok j (sub.subset hj)), fun z => by simp [z] at h2⟩
section
variable {P : Program} {w : World} {K : PySem.W.Frag} {mg : Str → Option Value} {base : Heap}
/-! ### _law_names -/
abbrev s_names : Stmt := top 55
def d_names (K : PySem.W.Frag) : DSp := fun Ps W => ∃ m : Nat, Ps = [fSrc, fInt (m : Nat)] ∧ m ≤ 32 ∧ ∀ l : List Str, l.length = m → l.Nodup → (∀ x ∈ l, NmOk x) → W (fLst K (l.map fStr))
abbrev N_names : List Str := ["_law_source_here", "_law_many", "_law_found", "_law_k", "_law_tag", "_law_more", "_law_spare", "_law_j", "_law_word"]
theorem sc_names : FnScope N_names ["_law_source_here", "_law_many"] (defScope s_names) := ⟨rfl, rfl, rfl, by decide +kernel, rfl, by decide +kernel, by decide +kernel⟩
theorem ok_names (B : Free mg) (CD : Cal P w K mg base 1 "_law_draw" [] d_draw) (h : HasF K mg "_law_names" s_names []) : Cal P w K mg base 2 "_law_names" [] (d_names K) := by
  refine cal_of h (ps := ["_law_source_here", "_law_many"]) (fun _ _ _ _ _ _ us hl => match us, hl with | [_, _], _ => rfl) fun f fd F => ?_
  refine fn_d F sc_names (fun Ps W h => ?_) fun cdv A0 outer s H E0 Ps W hr h => ?_
  · obtain ⟨m, rfl, _⟩ := h
    rfl
  · obtain ⟨m, rfl, hm, hW⟩ := h
    refine d_cons <| p_asgO (i := 2) (n_lst (a_nil ⟨Nat.zero_le _, ?_⟩)) sc_names.nd
    refine d_cons <| p_for (pgn 3 sc_names.nd) <| i_range B.range <| v_var 1 ⟨_, rfl, (m : Nat), rfl, by omega, by omega, ?_⟩
    rw [Int.toNat_natCast]
    refine ⟨fun i Γ => ∃ (l : List Str) (s3 s4 s5 s6 : Slot), Γ = [.fz fSrc, .fz (fInt (m : Nat)), .ow (oLst (l.map fStr)), s3, s4, s5, s6, .no, .no] ∧ l.length = i ∧ l.Nodup ∧ ∀ x ∈ l, NmOk x, ⟨[], _, _, _, _, rfl, rfl, List.nodup_nil, fun x hx => nomatch hx⟩, ?_, ?_⟩
    · rintro i P0 Γi hP ⟨l, s3, s4, s5, s6, rfl, hl, nd, hok⟩
      obtain ⟨i', hi', rfl⟩ := map_at hP
      have him : i < m := by
        have := (List.getElem?_eq_some_iff.mp hi').1
        rw [List.length_range] at this
        exact this
      refine dt_name ?_
      show PD _ _ [.fz fSrc, .fz (fInt (m : Nat)), .ow (oLst (l.map fStr)), .fz (fInt (i' : Nat)), s4, s5, s6, .no, .no] _
      refine d_cons <| p_asg (i := 4) (v_ix ix_str <| v_str <| v_call CD hr <| a_cons <| v_var 0 ⟨_, rfl, a_cons <| v_int <| a_nil ⟨26, rfl, by decide, by decide, fun k k0 k1 => ?_⟩⟩) sc_names.nd
      obtain ⟨c, hc1, hc2⟩ := let_at k0 k1
      refine ⟨_, o2_ixS (z := LET) (by decide +kernel) hc1, ?_⟩
      refine d_cons <| p_for (pgn 5 sc_names.nd) <| i_range B.range <| v_call CD hr <| a_cons <| v_var 0 ⟨_, rfl, a_cons <| v_int <| a_nil ⟨8, rfl, by decide, by decide, fun q q0 q1 => ⟨q, rfl, by omega, by omega, ?_⟩⟩⟩
      have step : ∀ (t : Str) (s5 s6 : Slot), NmOk t → t ∉ l → ∃ (l' : List Str) (s3 s4 s5' s6' : Slot), ([Slot.fz fSrc, .fz (fInt (m : Nat)), .ow (oLst (l.map fStr ++ [fStr t])), .fz (fInt (i' : Nat)), .fz (fStr t), s5, s6, .no, .no] : DL.Ctx) = [.fz fSrc, .fz (fInt (m : Nat)), .ow (oLst (l'.map fStr)), s3, s4, s5', s6', .no, .no] ∧ l'.length = i + 1 ∧ l'.Nodup ∧ ∀ x ∈ l', NmOk x := fun t s5 s6 h1 h2 => by
        refine ⟨l ++ [t], _, _, _, _, by rw [List.map_append]; rfl, by rw [List.length_append, hl]; rfl, ?_, fun x hx => ?_⟩
        · exact List.nodup_append.mpr ⟨nd, by simp, fun a ha b hb z => h2 (by rw [List.mem_singleton.mp hb] at z; exact z ▸ ha)⟩
        · rcases List.mem_append.mp hx with hx | hx
          · exact hok x hx
          · rw [List.mem_singleton.mp hx]
            exact h1
      refine ⟨fun j Γ => ∃ (t : Str) (s5 : Slot), Γ = [.fz fSrc, .fz (fInt (m : Nat)), .ow (oLst (l.map fStr)), .fz (fInt (i' : Nat)), .fz (fStr t), s5, s6, .no, .no] ∧ PTag t j, ⟨_, _, rfl, PTag.one hc2⟩, ?_, ?_⟩
      · rintro j P1 Γj hP1 ⟨t, s5', rfl, ht⟩
        obtain ⟨j', hj', rfl⟩ := map_at hP1
        have hj8 : j < 8 := by
          have := (List.getElem?_eq_some_iff.mp hj').1
          rw [List.length_range] at this
          omega
        refine dt_name ?_
        show PD _ _ [.fz fSrc, .fz (fInt (m : Nat)), .ow (oLst (l.map fStr)), .fz (fInt (i' : Nat)), .fz (fStr t), .fz (fInt (j' : Nat)), s6, .no, .no] _
        refine d_one <| p_asg (i := 4) (v_op op_adds <| v_var 4 ⟨_, rfl, v_ix ix_str <| v_str <| v_call CD hr <| a_cons <| v_var 0 ⟨_, rfl, a_cons <| v_int <| a_nil ⟨36, rfl, by decide, by decide, fun k k0 k1 => ?_⟩⟩⟩) sc_names.nd
        obtain ⟨c, hc1, hc2⟩ := sig_at k0 k1
        refine ⟨_, o2_ixS (z := SIG) (by decide +kernel) hc1, _, o2_addS ?_, _, _, rfl, ht.snoc hc2⟩
        have := ht.1.2
        show t.length + 1 ≤ 100000
        omega
      · rintro Γn ⟨t, s5', rfl, ht⟩
        rw [List.length_map, List.length_range] at ht
        have htk : NmOk t := ht.ok (by omega)
        refine d_cons <| p_if <| b_inOL 2 op_in_seq <| v_var 4 ⟨_, rfl, t, l, rfl, rfl, ?_⟩
        show if decide (t ∈ l) = true then _ else _
        by_cases hin : t ∈ l
        · rw [decide_eq_true hin]
          refine iteT ?_
          refine d_cons <| p_setLc (own := [("_law_j", 7)]) (j := 7) (i := 6) (blkOk_by (N := N_names) (sc := defScope s_names) (by decide +kernel)) sc_names.nd (by decide) (fun _ _ _ _ _ => pgn 7 sc_names.nd) rfl <| i_range B.range <| v_op op_add <| v_var 1 ⟨_, rfl, v_int ⟨_, o2_I0, ((m : Nat) : Int) + 1, rfl, by omega, by omega, ?_⟩⟩
          have em : (((m : Nat) : Int) + 1).toNat = m + 1 := by omega
          rw [em]
          refine lcw_map (j := 7) (by decide) (List.range (m + 1)) (fun j => fInt (j : Nat)) (fun j => fStr (spw j)) (by rw [List.length_range]; omega) (fun j hj s H C1 cl fp => ?_) ?_
          · refine v_op op_adds <| v_str <| v_callTy call_si B.str <| a_cons <| v_var 7 ⟨_, rfl, a_nil ⟨_, oc_strI ?_, _, o2_addS ?_, rfl, rfl⟩⟩
            · have hj := List.mem_range.mp hj
              have : (((j : Nat) : Int).natAbs) = j := rfl
              rw [this]
              exact Nat.lt_of_le_of_lt (Nat.log2_le_self j) (by omega)
            · have hj := List.mem_range.mp hj
              have key := (nmB_ok (spw_ok j (List.mem_range.mpr (by omega)))).1.2
              have e : (spw j).length = ("x" : Str).length + (Str.ofString (toString ((j : Nat) : Int))).length := by
                show (("x" : Str) ++ Str.ofString (toString ((j : Nat) : Int))).length = _
                rw [str_len, str_app, List.length_append, ← str_len, ← str_len]
              omega
          have e0 : (List.range (m + 1)).map (fun j => fStr (spw j)) = ((List.range (m + 1)).map spw).map fStr := by rw [List.map_map]; rfl
          rw [e0]
          show PD _ _ [.fz fSrc, .fz (fInt (m : Nat)), .ow (oLst (l.map fStr)), .fz (fInt (i' : Nat)), .fz (fStr t), s5', .fz (fLst K (((List.range (m + 1)).map spw).map fStr)), .no, .no] _
          obtain ⟨z, r, e1, e2, e3⟩ := spw_free hm (l := l) (by omega)
          refine d_one <| p_asg (i := 4) (v_ix ix_list ?_) sc_names.nd
          refine v_lc (own := [("_law_word", 8)]) (j := 8) (blkOk_by (N := N_names) (sc := defScope s_names) (by decide +kernel)) sc_names.nd (by decide) (fun _ _ _ _ _ => pgn 8 sc_names.nd) (i_list <| v_var 6 ⟨_, rfl, _, rfl, ?_⟩)
          refine lcw_filter (j := 8) (by decide) ((List.range (m + 1)).map spw) fStr fStr (fun z => !decide (z ∈ l)) (by rw [List.length_map, List.length_range]; omega) (fun z hz s H C1 cl fp => ?_) (fun z hz hk s H C1 cl fp => v_var 8 ⟨_, rfl, rfl, rfl⟩) ?_
          · exact b_inOL 2 op_notIn_seq <| v_var 8 ⟨_, rfl, z, l, rfl, rfl, rfl, rfl⟩
          rw [e1]
          refine v_int ⟨fStr z, o2_ixL (at_nat (k := 0) rfl), ?_⟩
          exact d_one <| p_append 2 rfl <| v_var 4 ⟨_, rfl, l.map fStr, rfl, by rw [List.length_map]; omega, step z _ _ e2 e3⟩
        · rw [decide_eq_false hin]
          refine iteF (d_nil ?_)
          exact d_one <| p_append 2 rfl <| v_var 4 ⟨_, rfl, l.map fStr, rfl, by rw [List.length_map]; omega, step t _ _ htk hin⟩
    · rintro Γn ⟨l, s3, s4, s5, s6, rfl, hl, nd, hok⟩
      rw [List.length_map, List.length_range] at hl
      refine PD.freeze (i := 2) rfl ?_
      exact d_one <| p_ret <| PV.cast <| v_var 2 ⟨_, rfl, fLst K (l.map fStr), fun v F => oLst_fz, hW l hl nd hok⟩
/-! ### _law_sort -/
abbrev s_sort : Stmt := top 56
def fSort (K : PySem.W.Frag) (z : Str) (c : Bool) : Fct := fTup K [fStr z, fBl c]
def d_sort (K : PySem.W.Frag) : DSp := fun Ps W => Ps = [fSrc] ∧ ∀ z ∈ words, ∀ c : Bool, W (fSort K z c)
abbrev N_sort : List Str := ["_law_source_here", "_law_word"]
theorem sc_sort : FnScope N_sort ["_law_source_here"] (defScope s_sort) := ⟨rfl, rfl, rfl, by decide +kernel, rfl, by decide +kernel, by decide +kernel⟩
theorem words_at {k : Int} (h0 : 0 ≤ k) (h1 : k < 6) : ∃ z, atI (words.map fStr) k = some (fStr z) ∧ z ∈ words := by
  obtain ⟨n, rfl⟩ : ∃ n : Nat, k = n := ⟨k.toNat, by omega⟩
  have hn : n < words.length := by show n < 6; omega
  refine ⟨words[n], at_nat ?_, List.getElem_mem hn⟩
  rw [List.getElem?_map, List.getElem?_eq_getElem hn]
  rfl
theorem ok_sort (B : Free mg) (CD : Cal P w K mg base 1 "_law_draw" [] d_draw) (h : HasF K mg "_law_sort" s_sort []) : Cal P w K mg base 2 "_law_sort" [] (d_sort K) := by
  refine cal_of h (ps := ["_law_source_here"]) (fun _ _ _ _ _ _ us hl => match us, hl with | [_], _ => rfl) fun f fd F => ?_
  refine fn_d F sc_sort (fun Ps W h => ?_) fun cdv A0 outer s H E0 Ps W hr h => ?_
  · obtain ⟨rfl, _⟩ := h
    rfl
  · obtain ⟨rfl, hW⟩ := h
    refine d_cons <| p_asg (i := 1) (v_ix ix_list <| v_lst <| a_cons <| v_str <| a_cons <| v_str <| a_cons <| v_str <| a_cons <| v_str <| a_cons <| v_str <| a_cons <| v_str <| a_nil ⟨by show 6 ≤ 100000; decide, ?_⟩) sc_sort.nd
    refine v_call CD hr <| a_cons <| v_var 0 ⟨_, rfl, a_cons <| v_int <| a_nil ⟨6, rfl, by decide, by decide, fun k k0 k1 => ?_⟩⟩
    obtain ⟨z, e, hz⟩ := words_at k0 k1
    refine ⟨fStr z, o2_ixL e, ?_⟩
    refine d_one <| p_ret <| v_tup <| a_cons <| v_var 1 ⟨_, rfl, a_cons <| v_cmp op_eq <| v_call CD hr <| a_cons <| v_var 0 ⟨_, rfl, a_cons <| v_int <| a_nil ⟨3, rfl, by decide, by decide, fun k k0 k1 => ?_⟩⟩⟩
    exact v_int ⟨_, o2_eq rfl, a_nil ⟨by show 2 ≤ 100000; decide, hW z hz _⟩⟩
/-! ### _law_turns -/
abbrev s_turns : Stmt := top 57
def turnsL (z : Str) : List I3 :=
  if z = "plain" then [(0, 1, 2)] else if z = "sides" then [(0, 1, 2), (1, 0, 2)] else if z = "front" then [(0, 1, 2), (2, 1, 0)] else if z = "back" then [(0, 1, 2), (0, 2, 1)]
  else if z = "round" then [(0, 1, 2), (1, 2, 0), (2, 0, 1)] else [(0, 1, 2), (1, 2, 0), (2, 0, 1), (1, 0, 2), (2, 1, 0), (0, 2, 1)]
theorem turnsL_mem (z : Str) (x : I3) : x ∈ turnsL z ↔ x ∈ turnsOf z := by
  unfold turnsL turnsOf
  split
  · exact Iff.rfl
  · split
    · exact Iff.rfl
    · split
      · exact Iff.rfl
      · split
        · exact Iff.rfl
        · split
          · exact Iff.rfl
          · have k1 : ∀ x ∈ ([(0, 1, 2), (1, 2, 0), (2, 0, 1), (1, 0, 2), (2, 1, 0), (0, 2, 1)] : List I3), x ∈ ([(0, 1, 2), (0, 2, 1), (1, 0, 2), (1, 2, 0), (2, 0, 1), (2, 1, 0)] : List I3) := by decide
            have k2 : ∀ x ∈ ([(0, 1, 2), (0, 2, 1), (1, 0, 2), (1, 2, 0), (2, 0, 1), (2, 1, 0)] : List I3), x ∈ ([(0, 1, 2), (1, 2, 0), (2, 0, 1), (1, 0, 2), (2, 1, 0), (0, 2, 1)] : List I3) := by decide
            exact ⟨k1 x, k2 x⟩
end
/-- d[x], d a dict of our own, x a text -/
theorem v_dkOv {X : Cx} {Γ : DL.Ctx} {pos : Pos} {W : Fct → DL.Ctx → Prop} {jr : Nat} (i i2 : Nat) {x y : Str} {xpos ypos : Pos} {k : Str} {kvs : List KK} {R : Fct} (hr : Room jr X.A) (hO : Γ[i]? = some (.ow (oDK kvs))) (hk : Γ[i2]? = some (.fz (fStr k))) (l : lookK kvs (.inr k) = some R) (h : W R Γ)
    (hN : X.N[i]? = some x := by rfl) (hv : Vis X.env.scope x := by first | exact Or.inl rfl | exact Or.inr (Or.inl rfl) | exact Or.inr (Or.inr rfl)) (hd : (x == ("__debug__" : Str)) = false := by decide) (hcd : (x == ("__classdict__" : Str)) = false := by decide)
    (hN2 : X.N[i2]? = some y := by rfl) (hv2 : Vis X.env.scope y := by first | exact Or.inl rfl | exact Or.inr (Or.inl rfl) | exact Or.inr (Or.inr rfl)) (hd2 : (y == ("__debug__" : Str)) = false := by decide) (hcd2 : (y == ("__classdict__" : Str)) = false := by decide) (hs : NoSl (.Name y ypos) := by exact fun _ _ => rfl) : PV X (.Subscript (.Name x xpos) (.Name y ypos) pos) Γ W :=
  v_of (pe_dget (by have := hr.units; omega) (pe_var hN hv hd hcd) (pe_var hN2 hv2 hd2 hcd2) hs) fun B σ F H S => by
  obtain ⟨d, o, e1, e2, e3, e4, ws, h3, h4, h5⟩ := S.getO hO
  obtain ⟨u, e5, e6⟩ := S.get hk
  have e6 : u = .str k := e6
  subst h3 e6
  obtain ⟨z, q1, q2⟩ := dk_look (.inr k) (dk_paired h4 h5) l
  refine ⟨.ref d, e1, .str k, e5, d, z, rfl, ?_, F, R, Γ, h, q2, Evl.Ex.refl _, S⟩
  have g := DGet.k (k := .inr k) e4
  rw [q1] at g
  exact g
section
variable {P : Program} {w : World} {K : PySem.W.Frag} {mg : Str → Option Value} {base : Heap}
theorem sw_dict {ks : List (Option Expr)} {vs : List Expr} {p : Pos} {t : Option Expr} {l : Nat} {env : Env} : swapsWith (.Dict ks vs p) t l env = pure false := rfl
theorem n_disp1 (X : Cx) (Γ : DL.Ctx) (pos : Pos) (WO : Own → DL.Ctx → Prop) (keys : List (Option Expr)) (es : List Expr) (ks : List Str) (h1 : keys.all (·.isSome) = true ∧ keys.length = es.length ∧ keys ≠ [] ∧ es.length ≤ 15) (h2 : ks.Nodup) (h3 : ks.length = es.length) (hP : PPs X pos keys es (trsOf X ks es)) (h : PVl X es Γ fun Ps Γ1 => WO (oDK (mkKK ks Ps)) Γ1) : PN X (.Dict keys es pos) Γ WO :=
  n_disp ks hP h2 h3 h h1.2.2.2 h1.1 h1.2.1 h1.2.2.1
theorem p_asgO1 (X : Cx) (Γ : DL.Ctx) (D : DE) (i : Nat) (x : Str) (e : Expr) (p' pos : Pos) (hN : X.N.Nodup) (hi : X.N[i]? = some x) (hx : Loc X.env.scope x) (hf : X.env.scope.names.lookup x = some .local) (hs : swapsWith e (some (.Name x p')) pos.line X.env = pure false) (h : PN X e Γ fun O Γ1 => D.nx (Γ1.set i (.ow O))) : P1 X (.Assign [.Name x p'] e pos) Γ D := p_asgO h hN hi hx hs (.inr hf)
theorem mk_look {ks : List Str} {Ps : List Fct} {k : Str} {R : Fct} (n : Nat) (nd : ks.Nodup) (h1 : ks[n]? = some k) (h2 : Ps[n]? = some R) : lookK (mkKK ks Ps) (.inr k) = some R := by
  induction ks generalizing Ps n with
  | nil => cases h1
  | cons a ks ih =>
    cases Ps with
    | nil => cases h2
    | cons Q Ps =>
      show ((((Sum.inr a : Key), Q) :: mkKK ks Ps).find? fun kv => decide (kv.1 = .inr k)).map (·.2) = _
      cases n with
      | zero =>
        cases h1
        cases h2
        rw [List.find?_cons_of_pos (by simp)]
        rfl
      | succ n =>
        have hm : k ∈ ks := List.mem_of_getElem? (by simpa using h1)
        have hne : ¬ a = k := fun z => (List.nodup_cons.mp nd).1 (z ▸ hm)
        rw [List.find?_cons_of_neg (by simpa using hne)]
        exact ih n (List.nodup_cons.mp nd).2 (by simpa using h1) (by simpa using h2)
theorem mk_keys {ks : List Str} {Ps : List Fct} (hl : ks.length = Ps.length) : (mkKK ks Ps).map (·.1) = ks.map fun k => (Sum.inr k : Key) := by
  unfold mkKK
  rw [List.map_fst_zip (by rw [List.length_map]; omega)]
theorem mk_any {ks : List Str} {Ps : List Fct} {k : Str} (hl : ks.length = Ps.length) : ((mkKK ks Ps).any fun kv => decide (kv.1 = (.inr k : Key))) = decide (k ∈ ks) := by
  induction ks generalizing Ps with
  | nil => rfl
  | cons a ks ih =>
    cases Ps with
    | nil => cases hl
    | cons Q Ps =>
      show ((((Sum.inr a : Key), Q) :: mkKK ks Ps).any fun kv => decide (kv.1 = .inr k)) = _
      rw [List.any_cons, ih (Nat.succ.inj hl)]
      by_cases e : a = k
      · subst e
        simp
      · have : ¬ k = a := fun z => e z.symm
        simp [e, this]
theorem mk_put {ks : List Str} {Ps : List Fct} {k : Str} {R : Fct} (hl : ks.length = Ps.length) (h : k ∉ ks) : putKF (mkKK ks Ps) (.inr k) R = mkKK (ks ++ [k]) (Ps ++ [R]) := by
  unfold putKF
  rw [mk_any hl, decide_eq_false h, if_neg (by decide)]
  unfold mkKK
  rw [List.map_append, List.zip_append (by rw [List.length_map, hl])]
  rfl
theorem mk_put2 {ks : List Str} {Ps : List Fct} {k : Str} {R : Fct} (n : Nat) (nd : ks.Nodup) (hl : ks.length = Ps.length) (h : ks[n]? = some k) : putKF (mkKK ks Ps) (.inr k) R = mkKK ks (Ps.set n R) := by
  unfold putKF
  rw [mk_any hl, decide_eq_true (List.mem_of_getElem? h), if_pos rfl]
  induction ks generalizing Ps n with
  | nil => cases h
  | cons a ks ih =>
    cases Ps with
    | nil => cases hl
    | cons Q Ps =>
      have nd2 := List.nodup_cons.mp nd
      show (((Sum.inr a : Key), Q) :: mkKK ks Ps).map (fun kv => if kv.1 = (.inr k : Key) then (kv.1, R) else kv) = _
      rw [List.map_cons]
      cases n with
      | zero =>
        cases h
        rw [if_pos rfl]
        show _ :: _ = ((Sum.inr k : Key), R) :: mkKK ks Ps
        congr 1
        have key : ∀ x ∈ mkKK ks Ps, (if x.1 = (.inr k : Key) then (x.1, R) else x) = x := fun x hx => by
          have h1 : x.1 ∈ (mkKK ks Ps).map (·.1) := List.mem_map.mpr ⟨x, hx, rfl⟩
          rw [mk_keys (Nat.succ.inj hl)] at h1
          obtain ⟨b, hb, e⟩ := List.mem_map.mp h1
          refine if_neg fun z => ?_
          rw [← e] at z
          injection z with z
          exact nd2.1 (z ▸ hb)
        rw [List.map_congr_left key, List.map_id']
      | succ n =>
        have hm : k ∈ ks := List.mem_of_getElem? (by simpa using h)
        have hne : ¬ a = k := fun z => nd2.1 (z ▸ hm)
        rw [if_neg (by simpa using hne), ih n nd2.2 (Nat.succ.inj hl) (by simpa using h)]
        rfl
theorem mk_len {ks : List Str} {Ps : List Fct} : (mkKK ks Ps).length ≤ ks.length := by
  unfold mkKK
  rw [List.length_zip, List.length_map]
  omega
def d_turns (K : PySem.W.Frag) : DSp := fun Ps W => ∃ z, Ps = [fStr z] ∧ z ∈ words ∧ W (fLst K ((turnsL z).map (fT3 K)))
abbrev N_turns : List Str := ["_law_word", "_law_table_here"]
theorem sc_turns : FnScope N_turns ["_law_word"] (defScope s_turns) := ⟨rfl, rfl, rfl, by decide +kernel, rfl, by decide +kernel, by decide +kernel⟩
theorem v_t3 {X : Cx} {Γ : DL.Ctx} {W : Fct → DL.Ctx → Prop} {a b c : Int} {j1 j2 j3} {p1 p2 p3 pos : Pos} {kt} (h : W (fT3 X.K (a, b, c)) Γ) (h1 : starEach [.Constant (.int a) j1 p1, .Constant (.int b) j2 p2, .Constant (.int c) j3 p3] X.env = (false, eval (.Constant (.int a) j1 p1) X.env) :: starEach [.Constant (.int b) j2 p2, .Constant (.int c) j3 p3] X.env := by rfl) (h2 : starEach [.Constant (.int b) j2 p2, .Constant (.int c) j3 p3] X.env = (false, eval (.Constant (.int b) j2 p2) X.env) :: starEach [.Constant (.int c) j3 p3] X.env := by rfl) (h3 : starEach [.Constant (.int c) j3 p3] X.env = (false, eval (.Constant (.int c) j3 p3) X.env) :: starEach [] X.env := by rfl) :
    PV X (.Tuple [.Constant (.int a) j1 p1, .Constant (.int b) j2 p2, .Constant (.int c) j3 p3] kt pos) Γ W := v_tup (a_cons (v_int (a_cons (v_int (a_cons (v_int (a_nil ⟨by show 3 ≤ 100000; decide, h⟩)) h3)) h2)) h1)
end
section
variable {X : Cx} {Γ : DL.Ctx} {W : Fct → DL.Ctx → Prop} {D : DE} {jr : Nat} {pos : Pos}
theorem v_l1 {a1 b1 c1 : Int} {ja1 jb1 jc1 kt1} {pa1 pb1 pc1 pt1 : Pos} (h : W (fLst X.K (([(a1, b1, c1)] : List I3).map (fT3 X.K))) Γ) : PV X (.List [.Tuple [.Constant (.int a1) ja1 pa1, .Constant (.int b1) jb1 pb1, .Constant (.int c1) jc1 pc1] kt1 pt1] pos) Γ W := v_lst (a_cons (v_t3 (a_nil ⟨by show 1 ≤ 100000; decide, h⟩)))
theorem v_l2 {a1 b1 c1 a2 b2 c2 : Int} {ja1 jb1 jc1 kt1 ja2 jb2 jc2 kt2} {pa1 pb1 pc1 pt1 pa2 pb2 pc2 pt2 : Pos} (h : W (fLst X.K (([(a1, b1, c1), (a2, b2, c2)] : List I3).map (fT3 X.K))) Γ) : PV X (.List [.Tuple [.Constant (.int a1) ja1 pa1, .Constant (.int b1) jb1 pb1, .Constant (.int c1) jc1 pc1] kt1 pt1, .Tuple [.Constant (.int a2) ja2 pa2, .Constant (.int b2) jb2 pb2, .Constant (.int c2) jc2 pc2] kt2 pt2] pos) Γ W := v_lst (a_cons (v_t3 (a_cons (v_t3 (a_nil ⟨by show 2 ≤ 100000; decide, h⟩)))))
theorem v_l3 {a1 b1 c1 a2 b2 c2 a3 b3 c3 : Int} {ja1 jb1 jc1 kt1 ja2 jb2 jc2 kt2 ja3 jb3 jc3 kt3} {pa1 pb1 pc1 pt1 pa2 pb2 pc2 pt2 pa3 pb3 pc3 pt3 : Pos} (h : W (fLst X.K (([(a1, b1, c1), (a2, b2, c2), (a3, b3, c3)] : List I3).map (fT3 X.K))) Γ) : PV X (.List [.Tuple [.Constant (.int a1) ja1 pa1, .Constant (.int b1) jb1 pb1, .Constant (.int c1) jc1 pc1] kt1 pt1, .Tuple [.Constant (.int a2) ja2 pa2, .Constant (.int b2) jb2 pb2, .Constant (.int c2) jc2 pc2] kt2 pt2, .Tuple [.Constant (.int a3) ja3 pa3, .Constant (.int b3) jb3 pb3, .Constant (.int c3) jc3 pc3] kt3 pt3] pos) Γ W := v_lst (a_cons (v_t3 (a_cons (v_t3 (a_cons (v_t3 (a_nil ⟨by show 3 ≤ 100000; decide, h⟩)))))))
theorem p_dkOL (i : Nat) {x : Str} {xpos p' : Pos} {k : Str} {kj kp} (hr : Room jr X.A) {es : List Expr} {lp : Pos} (h : PV X (.List es lp) Γ fun R Γ1 => ∃ kvs, Γ1[i]? = some (.ow (oDK kvs)) ∧ kvs.length < 1000 ∧ D.nx (Γ1.set i (.ow (oDK (putKF kvs (.inr k) R))))) (hN : X.N[i]? = some x) (hv : Vis X.env.scope x) (hd : (x == ("__debug__" : Str)) = false) (hcd : (x == ("__classdict__" : Str)) = false) : P1 X (.Assign [.Subscript (.Name x xpos) (.Constant (.str k) kj kp) p'] (.List es lp) pos) Γ D := p_dkO i hr h (hN := hN) (hv := hv) (hd := hd) (hcd := hcd)
theorem p_dkOB (i : Nat) {x : Str} {xpos p' : Pos} {k : Str} {kj kp} (hr : Room jr X.A) {a b : Expr} {op : Operator} {lp : Pos} (h : PV X (.BinOp a op b lp) Γ fun R Γ1 => ∃ kvs, Γ1[i]? = some (.ow (oDK kvs)) ∧ kvs.length < 1000 ∧ D.nx (Γ1.set i (.ow (oDK (putKF kvs (.inr k) R))))) (hN : X.N[i]? = some x) (hv : Vis X.env.scope x) (hd : (x == ("__debug__" : Str)) = false) (hcd : (x == ("__classdict__" : Str)) = false) : P1 X (.Assign [.Subscript (.Name x xpos) (.Constant (.str k) kj kp) p'] (.BinOp a op b lp) pos) Γ D := p_dkO i hr h (hN := hN) (hv := hv) (hd := hd) (hcd := hcd)
theorem p_dkOS (i : Nat) {x : Str} {xpos p' : Pos} {k : Str} {kj kp} (hr : Room jr X.A) {a b : Expr} {lp : Pos} (h : PV X (.Subscript a b lp) Γ fun R Γ1 => ∃ kvs, Γ1[i]? = some (.ow (oDK kvs)) ∧ kvs.length < 1000 ∧ D.nx (Γ1.set i (.ow (oDK (putKF kvs (.inr k) R))))) (hN : X.N[i]? = some x) (hv : Vis X.env.scope x) (hd : (x == ("__debug__" : Str)) = false) (hcd : (x == ("__classdict__" : Str)) = false) : P1 X (.Assign [.Subscript (.Name x xpos) (.Constant (.str k) kj kp) p'] (.Subscript a b lp) pos) Γ D := p_dkO i hr h (hN := hN) (hv := hv) (hd := hd) (hcd := hcd)
theorem p_dkON (i : Nat) {x : Str} {xpos p' : Pos} {k : Str} {kj kp} (hr : Room jr X.A) {y : Str} {lp : Pos} (h : PV X (.Name y lp) Γ fun R Γ1 => ∃ kvs, Γ1[i]? = some (.ow (oDK kvs)) ∧ kvs.length < 1000 ∧ D.nx (Γ1.set i (.ow (oDK (putKF kvs (.inr k) R))))) (hN : X.N[i]? = some x) (hv : Vis X.env.scope x) (hd : (x == ("__debug__" : Str)) = false) (hcd : (x == ("__classdict__" : Str)) = false) : P1 X (.Assign [.Subscript (.Name x xpos) (.Constant (.str k) kj kp) p'] (.Name y lp) pos) Γ D := p_dkO i hr h (hN := hN) (hv := hv) (hd := hd) (hcd := hcd)
end
section
variable {P : Program} {w : World} {K : PySem.W.Frag} {mg : Str → Option Value} {base : Heap}
theorem ok_turns (h : HasF K mg "_law_turns" s_turns []) : Cal P w K mg base 1 "_law_turns" [] (d_turns K) := by
  refine cal_of h (ps := ["_law_word"]) (fun _ _ _ _ _ _ us hl => match us, hl with | [_], _ => rfl) fun f fd F => ?_
  refine fn_d F sc_turns (fun Ps W h => ?_) fun cdv A0 outer s H E0 Ps W hr h => ?_
  · obtain ⟨z, rfl, _⟩ := h
    rfl
  · obtain ⟨z, rfl, hz, hW⟩ := h
    have turn : ∀ (ks : List Str) (Ps : List Fct), ks.length < 900 → (mkKK ks Ps).length < 1000 := fun ks Ps h => by have := mk_len (ks := ks) (Ps := Ps); omega
    have kd : ∀ (pos : Pos) (WO : Own → DL.Ctx → Prop) (keys : List (Option Expr)) (es : List Expr) (h1 : keys.all (·.isSome) = true ∧ keys.length = es.length ∧ keys ≠ [] ∧ es.length ≤ 15) (h3 : 3 = es.length) (hP : PPs (cxOf CX0 P w K mg base N_turns "_law_turns" (defScope s_turns) f cdv A0 outer s H E0).nox pos keys es (trsOf (cxOf CX0 P w K mg base N_turns "_law_turns" (defScope s_turns) f cdv A0 outer s H E0).nox ["plain", "sides", "front"] es)) (h : PVl (cxOf CX0 P w K mg base N_turns "_law_turns" (defScope s_turns) f cdv A0 outer s H E0).nox es (startC N_turns [fStr z]) fun Ps Γ1 => WO (oDK (mkKK ["plain", "sides", "front"] Ps)) Γ1), PN (cxOf CX0 P w K mg base N_turns "_law_turns" (defScope s_turns) f cdv A0 outer s H E0).nox (.Dict keys es pos) (startC N_turns [fStr z]) WO :=
      fun pos WO keys es h1 h3 hP h => n_disp1 _ _ pos WO keys es ["plain", "sides", "front"] h1 (by decide +kernel) h3 hP h
    refine d_cons ?_
    refine p_asgO1 _ _ _ 1 _ _ _ _ ?_ ?_ ?_ ?_ ?_ ?_
    · exact sc_turns.nd
    · rfl
    · exact Or.inl rfl
    · rfl
    · exact sw_dict
    refine kd _ _ _ _ ?_ ?_ ?_ ?_
    · exact ⟨rfl, rfl, (fun z => nomatch z), (by show 3 ≤ 15; decide)⟩
    · rfl
    · exact pps_cons pe_str pe_wp <| pps_cons pe_str pe_wp <| pps_cons pe_str pe_wp pps_nil
    show PV _ _ _ _
    with_reducible refine v_l1 ?_
    show PV _ _ _ _
    with_reducible refine v_l2 ?_
    show PV _ _ _ _
    with_reducible refine v_l2 ?_
    show PD _ _ [.fz (fStr z), .ow (oDK (mkKK ["plain", "sides", "front"] [fLst K (([(0, 1, 2)] : List I3).map (fT3 K)), fLst K (([(0, 1, 2), (1, 0, 2)] : List I3).map (fT3 K)), fLst K (([(0, 1, 2), (2, 1, 0)] : List I3).map (fT3 K))]))] _
    with_reducible refine d_cons ?_
    with_reducible refine p_dkOL 1 hr ?_ ?_ ?_ ?_ ?_
    rotate_left
    · rfl
    · exact Or.inl rfl
    · decide
    · decide
    with_reducible refine v_l2 ?_
    refine ⟨_, rfl, turn _ _ (by decide), ?_⟩
    rw [mk_put rfl (by decide +kernel)]
    show PD _ _ [.fz (fStr z), .ow (oDK (mkKK ["plain", "sides", "front", "back"] [fLst K (([(0, 1, 2)] : List I3).map (fT3 K)), fLst K (([(0, 1, 2), (1, 0, 2)] : List I3).map (fT3 K)), fLst K (([(0, 1, 2), (2, 1, 0)] : List I3).map (fT3 K)), fLst K (([(0, 1, 2), (0, 2, 1)] : List I3).map (fT3 K))]))] _
    with_reducible refine d_cons ?_
    with_reducible refine p_dkOL 1 hr ?_ ?_ ?_ ?_ ?_
    rotate_left
    · rfl
    · exact Or.inl rfl
    · decide
    · decide
    with_reducible refine v_l3 ?_
    refine ⟨_, rfl, turn _ _ (by decide), ?_⟩
    rw [mk_put rfl (by decide +kernel)]
    show PD _ _ [.fz (fStr z), .ow (oDK (mkKK ["plain", "sides", "front", "back", "round"] [fLst K (([(0, 1, 2)] : List I3).map (fT3 K)), fLst K (([(0, 1, 2), (1, 0, 2)] : List I3).map (fT3 K)), fLst K (([(0, 1, 2), (2, 1, 0)] : List I3).map (fT3 K)), fLst K (([(0, 1, 2), (0, 2, 1)] : List I3).map (fT3 K)), fLst K (([(0, 1, 2), (1, 2, 0), (2, 0, 1)] : List I3).map (fT3 K))]))] _
    with_reducible refine d_cons ?_
    with_reducible refine p_dkOB 1 hr ?_ ?_ ?_ ?_ ?_
    rotate_left
    · rfl
    · exact Or.inl rfl
    · decide
    · decide
    with_reducible refine v_op op_cat ?_
    refine v_dkO 1 hr rfl (mk_look 4 (by decide +kernel) rfl rfl) ?_
    with_reducible refine v_l3 ?_
    refine ⟨fLst K (([(0, 1, 2), (1, 2, 0), (2, 0, 1), (1, 0, 2), (2, 1, 0), (0, 2, 1)] : List I3).map (fT3 K)), o2_catL (by show 3 + 3 ≤ 100000; decide), _, rfl, turn _ _ (by decide), ?_⟩
    rw [mk_put rfl (by decide +kernel)]
    show PD _ _ [.fz (fStr z), .ow (oDK (mkKK ["plain", "sides", "front", "back", "round", "all"] [fLst K (([(0, 1, 2)] : List I3).map (fT3 K)), fLst K (([(0, 1, 2), (1, 0, 2)] : List I3).map (fT3 K)), fLst K (([(0, 1, 2), (2, 1, 0)] : List I3).map (fT3 K)), fLst K (([(0, 1, 2), (0, 2, 1)] : List I3).map (fT3 K)), fLst K (([(0, 1, 2), (1, 2, 0), (2, 0, 1)] : List I3).map (fT3 K)), fLst K (([(0, 1, 2), (1, 2, 0), (2, 0, 1), (1, 0, 2), (2, 1, 0), (0, 2, 1)] : List I3).map (fT3 K))]))] _
    have nd6 : (["plain", "sides", "front", "back", "round", "all"] : List Str).Nodup := by decide +kernel
    have n1 : ¬ ("sides" : Str) = "plain" := by decide +kernel
    have n2 : ¬ ("front" : Str) = "plain" ∧ ¬ ("front" : Str) = "sides" := by decide +kernel
    have n3 : ¬ ("back" : Str) = "plain" ∧ ¬ ("back" : Str) = "sides" ∧ ¬ ("back" : Str) = "front" := by decide +kernel
    have n4 : ¬ ("round" : Str) = "plain" ∧ ¬ ("round" : Str) = "sides" ∧ ¬ ("round" : Str) = "front" ∧ ¬ ("round" : Str) = "back" := by decide +kernel
    have n5 : ¬ ("all" : Str) = "plain" ∧ ¬ ("all" : Str) = "sides" ∧ ¬ ("all" : Str) = "front" ∧ ¬ ("all" : Str) = "back" ∧ ¬ ("all" : Str) = "round" := by decide +kernel
    refine d_one <| p_ret <| v_dkOv 1 0 (R := fLst K ((turnsL z).map (fT3 K))) hr rfl rfl ?_ hW
    unfold words at hz
    rcases List.mem_cons.mp hz with rfl | hz
    · exact mk_look 0 nd6 rfl (by unfold turnsL; rw [if_pos rfl]; rfl)
    rcases List.mem_cons.mp hz with rfl | hz
    · exact mk_look 1 nd6 rfl (by unfold turnsL; rw [if_neg n1, if_pos rfl]; rfl)
    rcases List.mem_cons.mp hz with rfl | hz
    · exact mk_look 2 nd6 rfl (by unfold turnsL; rw [if_neg n2.1, if_neg n2.2, if_pos rfl]; rfl)
    rcases List.mem_cons.mp hz with rfl | hz
    · exact mk_look 3 nd6 rfl (by unfold turnsL; rw [if_neg n3.1, if_neg n3.2.1, if_neg n3.2.2, if_pos rfl]; rfl)
    rcases List.mem_cons.mp hz with rfl | hz
    · exact mk_look 4 nd6 rfl (by unfold turnsL; rw [if_neg n4.1, if_neg n4.2.1, if_neg n4.2.2.1, if_neg n4.2.2.2, if_pos rfl]; rfl)
    · rw [List.mem_singleton.mp hz]
      exact mk_look 5 nd6 rfl (by unfold turnsL; rw [if_neg n5.1, if_neg n5.2.1, if_neg n5.2.2.1, if_neg n5.2.2.2.1, if_neg n5.2.2.2.2]; rfl)
end
end TB

/-! TB15: _law_thing, _law_laid. -/
namespace TB
open PySem L2 PyProof.Rows DL
def fNmL (K : PySem.W.Frag) (l : List Str) : Fct := fLst K (l.map fStr)
def laidOf (ins outs : List Str) (rows : List Row) (n : Nat) : List Triple := (List.range n).flatMap fun i => rows.map fun r => tripleOf ins outs (i : Nat) r
theorem inL_no (K : PySem.W.Frag) {s : Str} {l : List Str} (h : s ∉ l) : Op2 (rIn K false) (fStr s) (fNmL K l) (fBl false) := by
  have := o2_inL (K := K) (neg := false) (s := s) (l := l)
  rw [if_neg (by decide), decide_eq_false h] at this
  exact this
theorem inL_yes (K : PySem.W.Frag) {s : Str} {l : List Str} (h : s ∈ l) : Op2 (rIn K false) (fStr s) (fNmL K l) (fBl true) := by
  have := o2_inL (K := K) (neg := false) (s := s) (l := l)
  rw [if_neg (by decide), decide_eq_true h] at this
  exact this
section
variable {P : Program} {w : World} {K : PySem.W.Frag} {mg : Str → Option Value} {base : Heap}
abbrev s_lthing : Stmt := top 58
def d_lthing (K : PySem.W.Frag) : DSp := fun Ps W => ∃ kvs ins outs n z, Ps = [fDK kvs, fInt n, fStr z] ∧ lookK kvs (.inr "ins") = some (fNmL K ins) ∧ lookK kvs (.inr "outs") = some (fNmL K outs) ∧ outs.length = ins.length ∧ W (fThing K (thingOf ins outs n z))
abbrev N_lthing : List Str := ["_law_plan_here", "_law_at", "_law_tag"]
theorem sc_lthing : FnScope N_lthing N_lthing (defScope s_lthing) := ⟨rfl, rfl, rfl, by decide +kernel, rfl, by decide +kernel, by decide +kernel⟩
theorem ok_lthing (h : HasF K mg "_law_thing" s_lthing []) : Cal P w K mg base 1 "_law_thing" [] (d_lthing K) := by
  refine cal_of h (ps := N_lthing) (fun _ _ _ _ _ _ us hl => match us, hl with | [_, _, _], _ => rfl) fun f fd F => ?_
  refine fn_d F sc_lthing (fun Ps W h => ?_) fun cdv A0 outer s H E0 Ps W hr h => ?_
  · obtain ⟨kvs, ins, outs, n, z, rfl, _⟩ := h
    rfl
  · obtain ⟨kvs, ins, outs, n, z, rfl, h1, h2, hl, hW⟩ := h
    have l2 : ∀ a b : Fct, [a, b].length ≤ 100000 := fun _ _ => by show 2 ≤ 100000; decide
    by_cases hc : 0 < n ∧ z ∈ ins
    · have e : thingOf ins outs n z = (n - 1, outs.getD (ins.idxOf z) "") := if_pos hc
      rw [e] at hW
      obtain ⟨i1, i2⟩ := idx_at hc.2
      have ho : outs[ins.idxOf z]? = some (outs.getD (ins.idxOf z) "") := by
        have hlt : ins.idxOf z < outs.length := by rw [hl]; exact (List.getElem?_eq_some_iff.mp i1).1
        rw [List.getD_eq_getElem?_getD, List.getElem?_eq_getElem hlt]
        rfl
      refine d_cons (p_if (b_w (w_and (b_cmp op_gt (v_var 1 ⟨_, rfl, v_int ⟨true, ?_, iteT ?_⟩⟩)))))
      · have := o2_I0 (g := fun i j => .bl (decide (j < i))) (i := n) (j := 0)
        rw [decide_eq_true hc.1] at this
        exact this
      refine w_and1 (b_cmp op_in_seq (v_var 2 ⟨_, rfl, v_dk hr (v_var 0 ⟨_, rfl, kvs, _, rfl, h1, true, inL_yes K hc.2, iteT ?_⟩)⟩))
      refine d_one (p_ret (v_tup (a_cons (v_op op_sub (v_var 1 ⟨_, rfl, v_int ⟨_, o2_I0, ?_⟩⟩)))))
      refine a_cons (v_ix ix_list (v_dk hr (v_var 0 ⟨_, rfl, kvs, _, rfl, h2, ?_⟩)))
      refine v_mG tyl_ok PySem.F.plainAttrs_list PySem.F.slot_list_index PySem.F.type_list_index mt_index (v_dk hr (v_var 0 ⟨_, rfl, kvs, _, rfl, h1, f_tyl, a_cons (v_var 2 ⟨_, rfl, a_nil ⟨_, om_ixLst i1 i2, ?_⟩⟩)⟩))
      refine ⟨_, o2_ixL (R := fStr (outs.getD (ins.idxOf z) "")) (at_nat ?_), a_nil ⟨l2 _ _, hW⟩⟩
      rw [List.getElem?_map, ho]
      rfl
    · have e : thingOf ins outs n z = (n, z) := if_neg hc
      rw [e] at hW
      have rest : PD (cxOf CX0 P w K mg base N_lthing "_law_thing" (defScope s_lthing) f cdv A0 outer s H E0).nox ((defBody s_lthing).drop 1) [.fz (fDK kvs), .fz (fInt n), .fz (fStr z)] { nx := fun _ => W fNon, rt := W } :=
        d_one (p_ret (v_tup (a_cons (v_var 1 ⟨_, rfl, a_cons (v_var 2 ⟨_, rfl, a_nil ⟨l2 _ _, hW⟩⟩)⟩))))
      by_cases h0 : 0 < n
      · refine d_cons (p_no (b_w (w_and (b_cmp op_gt (v_var 1 ⟨_, rfl, v_int ⟨true, ?_, iteT ?_⟩⟩)))))
        · have := o2_I0 (g := fun i j => .bl (decide (j < i))) (i := n) (j := 0)
          rw [decide_eq_true h0] at this
          exact this
        exact w_and1 (b_cmp op_in_seq (v_var 2 ⟨_, rfl, v_dk hr (v_var 0 ⟨_, rfl, kvs, _, rfl, h1, false, inL_no K (fun z => hc ⟨h0, z⟩), rfl, rest⟩)⟩))
      · refine d_cons (p_no (b_w (w_and (b_cmp op_gt (v_var 1 ⟨_, rfl, v_int ⟨false, ?_, iteF ⟨rfl, rest⟩⟩⟩)))))
        have := o2_I0 (g := fun i j => .bl (decide (j < i))) (i := n) (j := 0)
        rw [decide_eq_false h0] at this
        exact this
/-! ### _law_laid -/
abbrev s_laid : Stmt := top 59
def d_laid (K : PySem.W.Frag) : DSp := fun Ps W => ∃ kvs ins outs rows n, Ps = [fDK kvs, fInt (n : Nat)] ∧ lookK kvs (.inr "ins") = some (fNmL K ins) ∧ lookK kvs (.inr "outs") = some (fNmL K outs) ∧ lookK kvs (.inr "rows") = some (fLst K (rows.map (fRow K))) ∧ outs.length = ins.length ∧ n ≤ 2 ∧ rows.length ≤ 100 ∧ W (fLst K ((laidOf ins outs rows n).map (fTriple K)))
abbrev N_laid : List Str := ["_law_plan_here", "_law_many", "_law_found", "_law_at", "_law_row_here", "_law_tag"]
theorem sc_laid : FnScope N_laid ["_law_plan_here", "_law_many"] (defScope s_laid) := ⟨rfl, rfl, rfl, by decide +kernel, rfl, by decide +kernel, by decide +kernel⟩
theorem laid_len (ins outs : List Str) (rows : List Row) (n : Nat) : (laidOf ins outs rows n).length ≤ n * rows.length := by
  have := flat_len (fun i : Nat => rows.map fun r => tripleOf ins outs (i : Nat) r) rows.length (List.range n) fun x _ => by rw [List.length_map]; exact Nat.le_refl _
  rw [List.length_range] at this
  exact this
theorem ok_laid (B : Free mg) (C : Cal P w K mg base 1 "_law_thing" [] (d_lthing K)) (h : HasF K mg "_law_laid" s_laid []) : Cal P w K mg base 2 "_law_laid" [] (d_laid K) := by
  refine cal_of h (ps := ["_law_plan_here", "_law_many"]) (fun _ _ _ _ _ _ us hl => match us, hl with | [_, _], _ => rfl) fun f fd F => ?_
  refine fn_d F sc_laid (fun Ps W h => ?_) fun cdv A0 outer s H E0 Ps W hr h => ?_
  · obtain ⟨kvs, ins, outs, rows, n, rfl, _⟩ := h
    rfl
  · obtain ⟨kvs, ins, outs, rows, n, rfl, h1, h2, h3, hl, hn, hrl, hW⟩ := h
    refine d_cons <| p_asgO (i := 2) (n_lst (a_nil ⟨Nat.zero_le _, ?_⟩)) sc_laid.nd
    refine d_cons <| p_for (pgn 3 sc_laid.nd) <| i_range B.range <| v_var 1 ⟨_, rfl, (n : Nat), rfl, by omega, by omega, ?_⟩
    rw [Int.toNat_natCast]
    refine ⟨fun i Γ => ∃ s3 s4, Γ = [.fz (fDK kvs), .fz (fInt (n : Nat)), .ow (oLst ((laidOf ins outs rows i).map (fTriple K))), s3, s4, .no], ⟨_, _, rfl⟩, ?_, ?_⟩
    · rintro i P0 Γi hP ⟨s3, s4, rfl⟩
      obtain ⟨i', hi', rfl⟩ := map_at hP
      have hi2 := List.getElem?_eq_some_iff.mp hi'
      have hil : i < n := by
        have := hi2.1
        rw [List.length_range] at this
        exact this
      have ei : i' = i := by
        have := hi2.2
        rw [List.getElem_range] at this
        exact this.symm
      subst ei
      refine dt_name ?_
      have eL := laid_len ins outs rows i'
      have e1 : laidOf ins outs rows (i' + 1) = laidOf ins outs rows i' ++ rows.map (tripleOf ins outs (i' : Nat)) := by
        unfold laidOf
        rw [List.range_succ, List.flatMap_append]
        simp
      have hb : (laidOf ins outs rows i').length ≤ 200 := Nat.le_trans eL (Nat.mul_le_mul (by omega : i' ≤ 2) hrl)
      generalize hL : laidOf ins outs rows i' = L at hb e1
      show PD _ _ [.fz (fDK kvs), .fz (fInt (n : Nat)), .ow (oLst (L.map (fTriple K))), .fz (fInt (i' : Nat)), s4, .no] _
      refine d_one <| p_for (pgn 4 sc_laid.nd) <| i_list <| v_dk hr <| v_var 0 ⟨_, rfl, kvs, _, rfl, h3, _, rfl, ?_⟩
      refine ⟨fun j Γ => ∃ s4, Γ = [.fz (fDK kvs), .fz (fInt (n : Nat)), .ow (oLst ((L ++ (rows.take j).map (tripleOf ins outs (i' : Nat))).map (fTriple K))), .fz (fInt (i' : Nat)), s4, .no], ⟨s4, by simp⟩, ?_, ?_⟩
      · rintro j P1 Γj hP1 ⟨s4, rfl⟩
        obtain ⟨r, hr0, rfl⟩ := map_at hP1
        have hj := (List.getElem?_eq_some_iff.mp hr0).1
        have et : rows.take (j + 1) = rows.take j ++ [r] := by
          rw [List.take_add_one, hr0]
          rfl
        refine dt_name ?_
        have hb2 : (L ++ (rows.take j).map (tripleOf ins outs (i' : Nat))).length ≤ 300 := by
          rw [List.length_append, List.length_map, List.length_take]
          omega
        have eM : L ++ (rows.take (j + 1)).map (tripleOf ins outs (i' : Nat)) = (L ++ (rows.take j).map (tripleOf ins outs (i' : Nat))) ++ [tripleOf ins outs (i' : Nat) r] := by
          rw [et, List.map_append, ← List.append_assoc]
          rfl
        generalize L ++ (rows.take j).map (tripleOf ins outs (i' : Nat)) = M at hb2 eM
        show PD _ _ [.fz (fDK kvs), .fz (fInt (n : Nat)), .ow (oLst (M.map (fTriple K))), .fz (fInt (i' : Nat)), .fz (fRow K r), .no] _
        refine d_one (p_append 2 rfl (v_callTy call_tpl B.tuple (a_cons ?_)))
        refine v_lc (own := [("_law_tag", 5)]) (j := 5) (blkOk_by (N := N_laid) (sc := defScope s_laid) (by decide +kernel)) sc_laid.nd (by decide) (fun _ _ _ _ _ => pgn 5 sc_laid.nd) (i_tup (v_var 4 ⟨_, rfl, _, rfl, ?_⟩))
        refine lcw_map (j := 5) (by decide) (rowL r) fStr (fun z => fThing K (thingOf ins outs (i' : Nat) z)) (by show 3 ≤ 50000; decide) (fun z hz s H C1 cl fp => ?_) ?_
        · exact v_call C hr (a_cons (v_var 0 ⟨_, rfl, a_cons (v_var 3 ⟨_, rfl, a_cons (v_var 5 ⟨_, rfl, a_nil ⟨kvs, ins, outs, _, z, rfl, h1, h2, hl, rfl, rfl⟩⟩)⟩)⟩))
        · refine a_nil ⟨_, oc_tuple, M.map (fTriple K), rfl, by rw [List.length_map]; omega, .fz (fRow K r), ?_⟩
          rw [eM, List.map_append]
          rfl
      · rintro Γn ⟨s4, rfl⟩
        rw [List.length_map, List.take_length]
        refine ⟨.fz (fInt (i' : Nat)), s4, ?_⟩
        rw [e1]
    · rintro Γn ⟨s3, s4, rfl⟩
      rw [List.length_map, List.length_range]
      refine PD.freeze (i := 2) rfl ?_
      exact d_one <| p_ret <| PV.cast <| v_var 2 ⟨_, rfl, _, fun v F => oLst_fz, hW⟩
end
end TB

/-! TB16: _law_clashing. -/
namespace TB
open PySem L2 PyProof.Rows DL
theorem PD.cast {X : Cx} {Γ : DL.Ctx} {sts : List Stmt} {D : DE} {i : Nat} {P P' : Fct} (hO : Γ[i]? = some (.fz P)) (m : ∀ v F, P.p v F → P'.p v F) (h : PD X sts (Γ.set i (.fz P')) D) : PD X sts Γ D := by
  refine PD.weak ⟨by rw [List.length_set], fun j s' hs => ?_⟩ h
  by_cases e : i = j
  · subst e
    rw [List.getElem?_set_self (List.getElem?_eq_some_iff.mp hO).1] at hs
    cases hs
    exact .inr (.inr ⟨P, P', rfl, hO, m⟩)
  · rw [List.getElem?_set_ne e] at hs
    exact .inr (.inl hs)
/-! ### keys of images -/
def kTT (i : Int) (a b : Thing) : NestedKey := .tup [.num i, kThing a, kThing b]
def fTT (K : PySem.W.Frag) (i : Int) (a b : Thing) : Fct := fTup K [fInt i, fThing K a, fThing K b]
theorem keyF_tt {K : PySem.W.Frag} {i : Int} {a b : Thing} : KeyF K (fTT K i a b) (kTT i a b) := by
  refine ⟨?_, fun v F h => ?_⟩
  · unfold kTT kThing
    simp [NestedKey.depth, NestedKey.depthAll]
  · obtain ⟨p, xs, rfl, h2, h3⟩ := h
    cases h3 with
    | cons q1 h3 =>
      cases h3 with
      | cons q2 h3 =>
        cases h3 with
        | cons q3 h3 =>
          cases h3
          have q1 : _ = V.int i := q1
          subst q1
          exact ⟨.tup h2 (.cons (.int _) (.cons (keyF_thing.2 _ _ q2).1 (.cons (keyF_thing.2 _ _ q3).1 .nil))), _, rfl⟩
theorem kTT_inj {i j : Int} {a b c d : Thing} (h : kTT i a b = kTT j c d) : (i, a, b) = (j, c, d) := by
  unfold kTT at h
  injection h with h
  injection h with h1 h
  injection h with h2 h
  injection h with h3 _
  injection h1 with h1
  rw [h1, kThing_inj h2, kThing_inj h3]
abbrev TT3 := Int × Thing × Thing
abbrev Ent := TT3 × Thing
def kvC (K : PySem.W.Frag) (l : List Ent) : List KF := l.map fun e => (kTT e.1.1 e.1.2.1 e.1.2.2, fThing K e.2)
def lkP : List Ent → TT3 → Option Thing
  | [], _ => none
  | e :: l, k => if e.1 = k then some e.2 else lkP l k
theorem lk_kvC {K : PySem.W.Frag} {k : TT3} : ∀ l : List Ent, lkF (kvC K l) (kTT k.1 k.2.1 k.2.2) = (lkP l k).map (fThing K)
  | [] => rfl
  | e :: l => by
    show lkF ((kTT e.1.1 e.1.2.1 e.1.2.2, fThing K e.2) :: kvC K l) _ = _
    rw [lkF_cons, lk_kvC l]
    show _ = (if e.1 = k then some e.2 else lkP l k).map (fThing K)
    by_cases h : e.1 = k
    · rw [if_pos h, if_pos (by rw [h])]
      rfl
    · rw [if_neg h, if_neg fun z => h (kTT_inj z)]
theorem lkP_app {l : List Ent} {e : Ent} {k : TT3} {v : Thing} (h : lkP l k = some v) : lkP (l ++ [e]) k = some v := by
  induction l with
  | nil => cases h
  | cons a l ih =>
    show (if a.1 = k then some a.2 else lkP (l ++ [e]) k) = _
    have h : (if a.1 = k then some a.2 else lkP l k) = some v := h
    by_cases q : a.1 = k
    · rw [if_pos q] at h ⊢
      exact h
    · rw [if_neg q] at h ⊢
      exact ih h
theorem lkP_new {l : List Ent} {k : TT3} {v : Thing} (h : lkP l k = none) : lkP (l ++ [(k, v)]) k = some v := by
  induction l with
  | nil =>
    show (if k = k then some v else none) = _
    rw [if_pos rfl]
  | cons a l ih =>
    show (if a.1 = k then some a.2 else lkP (l ++ [(k, v)]) k) = _
    have h : (if a.1 = k then some a.2 else lkP l k) = none := h
    by_cases q : a.1 = k
    · rw [if_pos q] at h
      cases h
    · rw [if_neg q] at h ⊢
      exact ih h
theorem pt_kvC {K : PySem.W.Frag} {l : List Ent} {k : TT3} {v : Thing} (h : lkP l k = none) : ptF (kvC K l) (kTT k.1 k.2.1 k.2.2) (fThing K v) = kvC K (l ++ [(k, v)]) := by
  unfold ptF
  rw [lk_kvC, h]
  unfold kvC
  rw [List.map_append]
  rfl
/-- the key of a place of an image -/
def keyT (x : Triple) (i : Nat) : TT3 := if i = 0 then (0, x.2.1, x.2.2) else if i = 1 then (1, x.1, x.2.2) else (2, x.1, x.2.1)
theorem func_seen {l : List Ent} {I : List Triple} (h : ∀ x ∈ I, ∀ i, i < 3 → lkP l (keyT x i) = some (pickT x (i : Nat))) {D : Triple → Prop} (hD : ∀ x, D x → x ∈ I) : FuncT D := by
  intro x y hx hy
  have gx := h x (hD x hx)
  have gy := h y (hD y hy)
  refine ⟨fun e1 e2 => ?_, fun e1 e2 => ?_, fun e1 e2 => ?_⟩
  · have a := gx 0 (by decide)
    have b := gy 0 (by decide)
    have e : keyT x 0 = keyT y 0 := by show ((0 : Int), x.2.1, x.2.2) = (0, y.2.1, y.2.2); rw [e1, e2]
    rw [e, b] at a
    exact (Option.some.inj a).symm
  · have a := gx 1 (by decide)
    have b := gy 1 (by decide)
    have e : keyT x 1 = keyT y 1 := by show ((1 : Int), x.1, x.2.2) = (1, y.1, y.2.2); rw [e1, e2]
    rw [e, b] at a
    exact (Option.some.inj a).symm
  · have a := gx 2 (by decide)
    have b := gy 2 (by decide)
    have e : keyT x 2 = keyT y 2 := by show ((2 : Int), x.1, x.2.1) = (2, y.1, y.2.1); rw [e1, e2]
    rw [e, b] at a
    exact (Option.some.inj a).symm
theorem pickT_at {K : PySem.W.Frag} {t : Triple} {i : Int} (h : i = 0 ∨ i = 1 ∨ i = 2) : atI (t.things.map (fThing K)) i = some (fThing K (pickT t i)) := by
  rcases h with rfl | rfl | rfl <;> rfl
theorem key_fct {K : PySem.W.Frag} (x : Triple) {q : Nat} (h : q < 3) : fTup K ((fInt (q : Nat) :: cutF (x.things.map (fThing K)) none (some ((q : Nat) : Int))) ++ cutF (x.things.map (fThing K)) (some (((q : Nat) : Int) + 1)) none) = fTT K (keyT x q).1 (keyT x q).2.1 (keyT x q).2.2 := by
  have e1 : ((q : Nat) : Int) + 1 = ((q + 1 : Nat) : Int) := rfl
  rw [e1, cutF_to, cutF_from]
  have : q = 0 ∨ q = 1 ∨ q = 2 := by omega
  rcases this with rfl | rfl | rfl <;> rfl
theorem turnsL_len (z : Str) : (turnsL z).length ≤ 6 := by
  unfold turnsL
  repeat' split
  all_goals decide
section
variable {P : Program} {w : World} {K : PySem.W.Frag} {mg : Str → Option Value} {base : Heap}
abbrev s_lclash : Stmt := top 60
def d_lclash (K : PySem.W.Frag) : DSp := fun Ps W => ∃ z c rows, Ps = [fSort K z c, fLst K (rows.map (fTriple K))] ∧ z ∈ words ∧ rows.length ≤ 100 ∧ ∀ b : Bool, (b = false → NoClash z c rows) → W (fBl b)
abbrev N_lclash : List Str := ["_law_sort_here", "_law_rows", "_law_images", "_law_things", "_law_seen", "_law_row_here", "_law_thing_here", "_law_turn", "_law_image", "_law_at", "_law_key"]
theorem sc_lclash : FnScope N_lclash ["_law_sort_here", "_law_rows"] (defScope s_lclash) := ⟨rfl, rfl, rfl, by decide +kernel, rfl, by decide +kernel, by decide +kernel⟩
theorem ok_lclash (B : Free mg) (CT : Cal P w K mg base 1 "_law_turns" [] (d_turns K)) (h : HasF K mg "_law_clashing" s_lclash []) : Cal P w K mg base 2 "_law_clashing" [] (d_lclash K) := by
  refine cal_of h (ps := ["_law_sort_here", "_law_rows"]) (fun _ _ _ _ _ _ us hl => match us, hl with | [_, _], _ => rfl) fun f fd F => ?_
  refine fn_d F sc_lclash (fun Ps W h => ?_) fun cdv A0 outer s H E0 Ps W hr h => ?_
  · obtain ⟨z, c, rows, rfl, _⟩ := h
    rfl
  · obtain ⟨z, c, rows, rfl, hz, hrl, hW⟩ := h
    have l3 : ∀ a b c : Fct, [a, b, c].length ≤ 100000 := fun _ _ _ => by show 3 ≤ 100000; decide
    refine d_cons ?_
    refine p_par3n (i := 2) (j := 3) (l := 4) ?_ sc_lclash.nd rfl
    show PD _ _ [.fz (fSort K z c), .fz (fLst K (rows.map (fTriple K))), .ow (oLst []), .ow (oDN P w K []), .ow (oDN P w K []), .no, .no, .no, .no, .no, .no] _
    -- the two last parts
    have last : ∀ (I : List Triple) (s3 s5 s6 s7 : Slot), I.length ≤ 2000 → (∀ x, AllImgT z c rows x → x ∈ I) → PD (cxOf CX0 P w K mg base N_lclash "_law_clashing" (defScope s_lclash) f cdv A0 outer s H E0).nox ((defBody s_lclash).drop 3) [.fz (fSort K z c), .fz (fLst K (rows.map (fTriple K))), .fz (fLst K (I.map (fTriple K))), s3, .ow (oDN P w K []), s5, s6, s7, .no, .no, .no] { nx := fun _ => W fNon, rt := W } := by
      intro I s3 s5 s6 s7 hI hall
      refine d_cons <| p_for (pgn 8 sc_lclash.nd) <| i_list <| v_var 2 ⟨_, rfl, _, rfl, ?_⟩
      refine ⟨fun m Γ => ∃ (l : List Ent) (s8 s9 s10 : Slot), Γ = [.fz (fSort K z c), .fz (fLst K (rows.map (fTriple K))), .fz (fLst K (I.map (fTriple K))), s3, .ow (oDN P w K (kvC K l)), s5, s6, s7, s8, s9, s10] ∧ l.length ≤ 3 * m ∧ ∀ x ∈ I.take m, ∀ i, i < 3 → lkP l (keyT x i) = some (pickT x (i : Nat)), ⟨[], _, _, _, rfl, Nat.zero_le _, fun x hx => by simp at hx⟩, ?_, ?_⟩
      · rintro m P0 Γm hP ⟨l, s8, s9, s10, rfl, hl, hx⟩
        obtain ⟨x, hx0, rfl⟩ := map_at hP
        have hml : m < I.length := (List.getElem?_eq_some_iff.mp hx0).1
        have et : I.take (m + 1) = I.take m ++ [x] := by
          rw [List.take_add_one, hx0]
          rfl
        refine dt_name ?_
        show PD _ _ [.fz (fSort K z c), .fz (fLst K (rows.map (fTriple K))), .fz (fLst K (I.map (fTriple K))), s3, .ow (oDN P w K (kvC K l)), s5, s6, s7, .fz (fTriple K x), s9, s10] _
        refine d_one <| p_for (pgn 9 sc_lclash.nd) <| i_range B.range <| v_int ⟨3, rfl, by decide, by decide, ?_⟩
        refine ⟨fun q Γ => ∃ (l : List Ent) (s9 s10 : Slot), Γ = [.fz (fSort K z c), .fz (fLst K (rows.map (fTriple K))), .fz (fLst K (I.map (fTriple K))), s3, .ow (oDN P w K (kvC K l)), s5, s6, s7, .fz (fTriple K x), s9, s10] ∧ l.length ≤ 3 * m + q ∧ (∀ x ∈ I.take m, ∀ i, i < 3 → lkP l (keyT x i) = some (pickT x (i : Nat))) ∧ ∀ i, i < q → lkP l (keyT x i) = some (pickT x (i : Nat)), ⟨l, _, _, rfl, hl, hx, fun i hi => by omega⟩, ?_, ?_⟩
        · rintro q P1 Γq hP1 ⟨l, s9, s10, rfl, hl, hx, hq⟩
          obtain ⟨q', hq', rfl⟩ := map_at hP1
          have hq2 := List.getElem?_eq_some_iff.mp hq'
          have hq3 : q < 3 := hq2.1
          have eq' : q' = q := by
            have := hq2.2
            rw [List.getElem_range] at this
            exact this.symm
          subst eq'
          refine dt_name ?_
          show PD _ _ [.fz (fSort K z c), .fz (fLst K (rows.map (fTriple K))), .fz (fLst K (I.map (fTriple K))), s3, .ow (oDN P w K (kvC K l)), s5, s6, s7, .fz (fTriple K x), .fz (fInt (q' : Nat)), s10] _
          have ek := key_fct (K := K) x hq3
          refine d_cons <| p_asg (i := 10) (v_op op_catA <| v_op op_catA <| v_tup <| a_cons <| v_var 9 ⟨_, rfl, a_nil ⟨by show 1 ≤ 100000; decide, ?_⟩⟩) sc_lclash.nd
          refine v_slice sl_tupA <| v_var 8 ⟨_, rfl, v_var 9 ⟨_, rfl, _, rfl, _, os_T, _, o2_catT ?_, ?_⟩⟩
          · rw [cutF_to, List.length_take]
            show 1 + min q' 3 ≤ 100000
            omega
          refine v_slice sl_tupA <| v_var 8 ⟨_, rfl, v_op op_add <| v_var 9 ⟨_, rfl, v_int ⟨_, o2_I0, _, rfl, _, os_T, fTT K (keyT x q').1 (keyT x q').2.1 (keyT x q').2.2, ?_, ?_⟩⟩⟩
          · rw [← ek]
            refine o2_catT ?_
            have e1 : ((q' : Nat) : Int) + 1 = ((q' + 1 : Nat) : Int) := rfl
            rw [e1, cutF_to, cutF_from, List.length_append, List.length_take, List.length_drop]
            show 1 + min q' 3 + (3 - (q' + 1)) ≤ 100000
            omega
          show PD _ _ [.fz (fSort K z c), .fz (fLst K (rows.map (fTriple K))), .fz (fLst K (I.map (fTriple K))), s3, .ow (oDN P w K (kvC K l)), s5, s6, s7, .fz (fTriple K x), .fz (fInt (q' : Nat)), .fz (fTT K (keyT x q').1 (keyT x q').2.1 (keyT x q').2.2)] _
          have hp : ((q' : Nat) : Int) = 0 ∨ ((q' : Nat) : Int) = 1 ∨ ((q' : Nat) : Int) = 2 := by omega
          have more : ∀ (l2 : List Ent) (s : Slot), l2.length ≤ l.length + 1 → (∀ k v, lkP l k = some v → lkP l2 k = some v) → lkP l2 (keyT x q') = some (pickT x (q' : Nat)) → ∃ (l : List Ent) (s9 s10 : Slot), ([.fz (fSort K z c), .fz (fLst K (rows.map (fTriple K))), .fz (fLst K (I.map (fTriple K))), s3, .ow (oDN P w K (kvC K l2)), s5, s6, s7, .fz (fTriple K x), .fz (fInt (q' : Nat)), s] : DL.Ctx) = [.fz (fSort K z c), .fz (fLst K (rows.map (fTriple K))), .fz (fLst K (I.map (fTriple K))), s3, .ow (oDN P w K (kvC K l)), s5, s6, s7, .fz (fTriple K x), s9, s10] ∧ l.length ≤ 3 * m + (q' + 1) ∧ (∀ x ∈ I.take m, ∀ i, i < 3 → lkP l (keyT x i) = some (pickT x (i : Nat))) ∧ ∀ i, i < q' + 1 → lkP l (keyT x i) = some (pickT x (i : Nat)) := fun l2 s h1 h2 h3 => by
            refine ⟨l2, _, _, rfl, by omega, fun y hy i hi => h2 _ _ (hx y hy i hi), fun i hi => ?_⟩
            by_cases e : i = q'
            · rw [e]
              exact h3
            · exact h2 _ _ (hq i (by omega))
          refine d_one <| p_if <| b_cmp (op_neT (α := Thing) hr (by decide)) <| v_mO 4 ty_N PySem.F.plainAttrs_dict PySem.F.slot_dict_setdefault PySem.F.type_dict_setdefault (mt_setdN hr) rfl own_ty_N <| a_cons <| v_var 10 ⟨_, rfl, a_cons <| v_ix ix_tup <| v_var 8 ⟨_, rfl, v_var 9 ⟨_, rfl, _, o2_ixT (pickT_at hp), a_nil ⟨_, rfl, own_setdN keyF_tt ?_ (fun R' hR' => ?_) (fun hno => ?_)⟩⟩⟩⟩
          · show (kvC K l).length < 100000
            unfold kvC
            rw [List.length_map]
            omega
          · rw [lk_kvC] at hR'
            cases hv : lkP l (keyT x q') with
            | none =>
              rw [hv] at hR'
              cases hR'
            | some v =>
              rw [hv] at hR'
              cases hR'
              refine v_ix ix_tup <| v_var 8 ⟨_, rfl, v_var 9 ⟨_, rfl, _, o2_ixT (pickT_at hp), _, o2_neT (tyd_thing v) (tyd_thing _), ?_⟩⟩
              by_cases e : v = pickT x (q' : Nat)
              · rw [decide_eq_false (fun z => z e)]
                refine iteF (d_nil ?_)
                exact more l _ (by omega) (fun _ _ h => h) (by rw [hv, e])
              · rw [decide_eq_true e]
                exact iteT (d_one <| p_ret <| v_bl <| hW true fun z => nomatch z)
          · rw [lk_kvC] at hno
            cases hv : lkP l (keyT x q') with
            | some v =>
              rw [hv] at hno
              cases hno
            | none =>
              rw [pt_kvC hv]
              refine v_ix ix_tup <| v_var 8 ⟨_, rfl, v_var 9 ⟨_, rfl, _, o2_ixT (pickT_at hp), _, o2_neT (tyd_thing _) (tyd_thing _), ?_⟩⟩
              rw [decide_eq_false (fun z => z rfl)]
              refine iteF (d_nil ?_)
              exact more _ _ (by rw [List.length_append]; exact Nat.le_refl _) (fun _ _ h => lkP_app h) (lkP_new hv)
        · rintro Γn ⟨l, s9, s10, rfl, hl, hx, hq⟩
          refine ⟨l, _, _, _, rfl, hl, fun y hy => ?_⟩
          rw [et] at hy
          rcases List.mem_append.mp hy with hy | hy
          · exact hx y hy
          · rw [List.mem_singleton.mp hy]
            exact hq
      · rintro Γn ⟨l, s8, s9, s10, rfl, hl, hx⟩
        rw [List.length_map, List.take_length] at hx
        exact d_one <| p_ret <| v_bl <| hW false fun _ => func_seen hx hall
    let IM : List Triple → List Triple := fun rs => rs.flatMap fun t => (turnsL z).map (imgT t)
    have im_len : ∀ rs : List Triple, (IM rs).length ≤ rs.length * 6 := fun rs => flat_len _ 6 rs fun t _ => by
      rw [List.length_map]
      exact turnsL_len z
    have im_app : ∀ (rs : List Triple) (t : Triple), IM (rs ++ [t]) = IM rs ++ (turnsL z).map (imgT t) := fun rs t => by
      show (rs ++ [t]).flatMap _ = _
      rw [List.flatMap_append]
      simp
      rfl
    have im_all : ∀ t ∈ rows, ∀ y ∈ turnsOf z, imgT t y ∈ IM rows := fun t ht y hy => List.mem_flatMap.mpr ⟨t, ht, List.mem_map.mpr ⟨y, (turnsL_mem z y).mpr hy, rfl⟩⟩
    refine d_cons <| p_for (pgn 5 sc_lclash.nd) <| i_list <| v_var 1 ⟨_, rfl, _, rfl, ?_⟩
    refine ⟨fun i Γ => ∃ (ths : List Thing) (s5 s6 s7 : Slot), Γ = [.fz (fSort K z c), .fz (fLst K (rows.map (fTriple K))), .ow (oLst ((IM (rows.take i)).map (fTriple K))), .ow (oDN P w K (kvG ths)), .ow (oDN P w K []), s5, s6, s7, .no, .no, .no] ∧ ths.length ≤ 3 * i ∧ ∀ t ∈ rows.take i, ∀ a ∈ t.things, a ∈ ths, ⟨[], _, _, _, rfl, Nat.zero_le _, fun t ht => by simp at ht⟩, ?_, ?_⟩
    · rintro i P0 Γi hP ⟨ths, s5, s6, s7, rfl, hl, ha⟩
      obtain ⟨t, ht0, rfl⟩ := map_at hP
      have hil : i < rows.length := (List.getElem?_eq_some_iff.mp ht0).1
      have et : rows.take (i + 1) = rows.take i ++ [t] := by
        rw [List.take_add_one, ht0]
        rfl
      have hIl : (IM (rows.take i)).length ≤ 600 := by
        have := im_len (rows.take i)
        rw [List.length_take] at this
        omega
      have eI : IM (rows.take (i + 1)) = IM (rows.take i) ++ (turnsL z).map (imgT t) := by rw [et, im_app]
      generalize IM (rows.take i) = L at hIl eI
      refine dt_name ?_
      show PD _ _ [.fz (fSort K z c), .fz (fLst K (rows.map (fTriple K))), .ow (oLst (L.map (fTriple K))), .ow (oDN P w K (kvG ths)), .ow (oDN P w K []), .fz (fTriple K t), s6, s7, .no, .no, .no] _
      refine d_cons <| p_for (pgn 6 sc_lclash.nd) <| i_tup <| v_var 5 ⟨_, rfl, _, rfl, ?_⟩
      refine ⟨fun j Γ => ∃ (ths' : List Thing) (s6 : Slot), Γ = [.fz (fSort K z c), .fz (fLst K (rows.map (fTriple K))), .ow (oLst (L.map (fTriple K))), .ow (oDN P w K (kvG ths')), .ow (oDN P w K []), .fz (fTriple K t), s6, s7, .no, .no, .no] ∧ ths'.length ≤ 3 * i + j ∧ (∀ a ∈ ths, a ∈ ths') ∧ ∀ a ∈ t.things.take j, a ∈ ths', ⟨ths, _, rfl, hl, fun a h => h, fun a h => by simp at h⟩, ?_, ?_⟩
      · rintro j P1 Γj hP1 ⟨ths', s6, rfl, g1, g2, g3⟩
        obtain ⟨u, hu0, rfl⟩ := map_at hP1
        have hj3 : j < 3 := (List.getElem?_eq_some_iff.mp hu0).1
        have eu : t.things.take (j + 1) = t.things.take j ++ [u] := by
          rw [List.take_add_one, hu0]
          rfl
        refine dt_name ?_
        show PD _ _ [.fz (fSort K z c), .fz (fLst K (rows.map (fTriple K))), .ow (oLst (L.map (fTriple K))), .ow (oDN P w K (kvG ths')), .ow (oDN P w K []), .fz (fTriple K t), .fz (fThing K u), s7, .no, .no, .no] _
        refine d_one <| p_setO 3 hr <| v_bl ⟨kvG ths', rfl, by unfold kvG; rw [List.length_map]; omega, v_var 6 ⟨_, rfl, kThing u, keyF_thing, rfl, ?_⟩⟩
        by_cases hm : u ∈ ths'
        · rw [pt_kvG2 hm]
          refine ⟨ths', _, rfl, by omega, g2, fun a h => ?_⟩
          rw [eu] at h
          rcases List.mem_append.mp h with h | h
          · exact g3 a h
          · rw [List.mem_singleton.mp h]
            exact hm
        · rw [pt_kvG hm]
          refine ⟨ths' ++ [u], _, rfl, by rw [List.length_append, List.length_singleton]; omega, fun a h => List.mem_append_left _ (g2 a h), fun a h => ?_⟩
          rw [eu] at h
          rcases List.mem_append.mp h with h | h
          · exact List.mem_append_left _ (g3 a h)
          · exact List.mem_append_right _ h
      · rintro Γn ⟨ths', s6, rfl, g1, g2, g3⟩
        have t3 : (t.things.map (fThing K)).length = 3 := rfl
        rw [t3] at g1 g3
        have ga : ∀ t' ∈ rows.take (i + 1), ∀ a ∈ t'.things, a ∈ ths' := fun t' ht' a h => by
          rw [et] at ht'
          rcases List.mem_append.mp ht' with ht' | ht'
          · exact g2 a (ha t' ht' a h)
          · rw [List.mem_singleton.mp ht'] at h
            exact g3 a h
        refine d_one <| p_for (pgn 7 sc_lclash.nd) <| i_list <| v_call CT hr <| a_cons <| v_ix ix_tup <| v_var 0 ⟨_, rfl, v_int ⟨fStr z, o2_ixT rfl, a_nil ⟨z, rfl, hz, _, rfl, ?_⟩⟩⟩
        refine ⟨fun j Γ => ∃ (s7 : Slot), Γ = [.fz (fSort K z c), .fz (fLst K (rows.map (fTriple K))), .ow (oLst ((L ++ ((turnsL z).take j).map (imgT t)).map (fTriple K))), .ow (oDN P w K (kvG ths')), .ow (oDN P w K []), .fz (fTriple K t), s6, s7, .no, .no, .no], ⟨s7, by simp⟩, ?_, ?_⟩
        · rintro j P1 Γj hP1 ⟨s7, rfl⟩
          obtain ⟨y, hy0, rfl⟩ := map_at hP1
          obtain ⟨y1, y2, y3⟩ := turns_ix ((turnsL_mem z y).mp (List.mem_of_getElem? hy0))
          have ey : (turnsL z).take (j + 1) = (turnsL z).take j ++ [y] := by
            rw [List.take_add_one, hy0]
            rfl
          have hML : (L ++ ((turnsL z).take j).map (imgT t)).length ≤ 700 := by
            rw [List.length_append, List.length_map, List.length_take]
            have := turnsL_len z
            omega
          have eM : L ++ ((turnsL z).take (j + 1)).map (imgT t) = (L ++ ((turnsL z).take j).map (imgT t)) ++ [imgT t y] := by
            rw [ey, List.map_append, ← List.append_assoc]
            rfl
          generalize L ++ ((turnsL z).take j).map (imgT t) = M at hML eM
          refine dt_name ?_
          show PD _ _ [.fz (fSort K z c), .fz (fLst K (rows.map (fTriple K))), .ow (oLst (M.map (fTriple K))), .ow (oDN P w K (kvG ths')), .ow (oDN P w K []), .fz (fTriple K t), s6, .fz (fT3 K y), .no, .no, .no] _
          refine d_one (p_append 2 rfl (v_tup ?_))
          refine a_cons <| v_ix ix_tup <| v_var 5 ⟨_, rfl, v_ix ix_tup <| v_var 7 ⟨_, rfl, v_int ⟨fInt y.1, o2_ixT rfl, _, o2_ixT (pickT_at y1), ?_⟩⟩⟩
          refine a_cons <| v_ix ix_tup <| v_var 5 ⟨_, rfl, v_ix ix_tup <| v_var 7 ⟨_, rfl, v_int ⟨fInt y.2.1, o2_ixT rfl, _, o2_ixT (pickT_at y2), ?_⟩⟩⟩
          refine a_cons <| v_ix ix_tup <| v_var 5 ⟨_, rfl, v_ix ix_tup <| v_var 7 ⟨_, rfl, v_int ⟨fInt y.2.2, o2_ixT rfl, _, o2_ixT (pickT_at y3), ?_⟩⟩⟩
          refine a_nil ⟨l3 _ _ _, M.map (fTriple K), rfl, by rw [List.length_map]; omega, .fz (fT3 K y), ?_⟩
          rw [eM, List.map_append]
          rfl
        · rintro Γn ⟨s7, rfl⟩
          rw [List.length_map, List.take_length]
          refine ⟨ths', .fz (fTriple K t), s6, s7, ?_, by omega, ga⟩
          rw [eI]
    · rintro Γn ⟨ths, s5, s6, s7, rfl, hl, ha⟩
      rw [List.length_map] at hl ha ⊢
      rw [List.take_length] at ha ⊢
      have hIl := im_len rows
      refine PD.freeze (i := 2) rfl ?_
      refine PD.cast (i := 2) (P' := fLst K ((IM rows).map (fTriple K))) rfl (fun v F => oLst_fz) ?_
      show PD _ _ [.fz (fSort K z c), .fz (fLst K (rows.map (fTriple K))), .fz (fLst K ((IM rows).map (fTriple K))), .ow (oDN P w K (kvG ths)), .ow (oDN P w K []), s5, s6, s7, .no, .no, .no] _
      generalize hIM : IM rows = I at hIl im_all
      refine d_cons <| p_if <| b_val <| v_ix ix_tup <| v_var 0 ⟨_, rfl, v_int ⟨fBl c, o2_ixT rfl, c, rfl, ?_⟩⟩
      cases c with
      | false =>
        refine iteF (d_nil ?_)
        refine last I _ _ _ _ (by omega) fun x hx => ?_
        rcases hx with ⟨z, _⟩ | ⟨t, ht, y, hy, rfl⟩
        · cases z
        · exact im_all t ht y hy
      | true =>
        refine iteT ?_
        refine d_one <| p_asg (i := 2) (v_op op_cat <| v_var 2 ⟨_, rfl, ?_⟩) sc_lclash.nd
        refine v_lcKeys 3 (own := [("_law_thing_here", 6)]) (j := 6) (kvs := kvG ths) (fun k => fTup K [fKey K k, fKey K k, fKey K k]) (blkOk_by (N := N_lclash) (sc := defScope s_lclash) (by decide +kernel)) sc_lclash.nd (by decide) (fun _ _ _ _ _ => pgn 6 sc_lclash.nd) rfl (by unfold kvG; rw [List.length_map]; omega) (fun kv hkv s H C1 cl fp => ?_) ?_
        · exact v_tup <| a_cons <| v_var 6 ⟨_, rfl, a_cons <| v_var 6 ⟨_, rfl, a_cons <| v_var 6 ⟨_, rfl, a_nil ⟨l3 _ _ _, rfl, rfl⟩⟩⟩⟩
        have em : (kvG ths).map (fun kv => fTup K [fKey K kv.1, fKey K kv.1, fKey K kv.1]) = (ths.map fun a => ((a, a, a) : Triple)).map (fTriple K) := by
          unfold kvG
          rw [List.map_map, List.map_map]
          apply List.map_congr_left
          intro a _
          show fTup K [fKey K (kThing a), fKey K (kThing a), fKey K (kThing a)] = fTup K [fThing K a, fThing K a, fThing K a]
          rw [fThing_key]
        rw [em]
        refine ⟨fLst K ((I ++ ths.map fun a => ((a, a, a) : Triple)).map (fTriple K)), ?_, ?_⟩
        · rw [List.map_append]
          exact o2_catL (by rw [List.length_map, List.length_map, List.length_map]; omega)
        refine last _ (.ow (oDN P w K (kvG ths))) s5 .no s7 (by rw [List.length_append, List.length_map]; omega) fun x hx => ?_
        rcases hx with ⟨_, t, ht, a, ha', rfl⟩ | ⟨t, ht, y, hy, rfl⟩
        · exact List.mem_append_right _ (List.mem_map.mpr ⟨a, ha t ht a ha', rfl⟩)
        · exact List.mem_append_left _ (im_all t ht y hy)
end
end TB

/-! TB17: _law_row, _law_some. -/
namespace TB
open PySem L2 PyProof.Rows DL
section
variable {P : Program} {w : World} {K : PySem.W.Frag} {mg : Str → Option Value} {base : Heap}
theorem str_at {l : List Str} {k : Int} (h0 : 0 ≤ k) (h1 : k < (l.length : Nat)) : ∃ z, atI (l.map fStr) k = some (fStr z) ∧ z ∈ l := by
  obtain ⟨n, rfl⟩ : ∃ n : Nat, k = n := ⟨k.toNat, by omega⟩
  have hn : n < l.length := by omega
  refine ⟨l[n], at_nat ?_, List.getElem_mem hn⟩
  rw [List.getElem?_map, List.getElem?_eq_getElem hn]
  rfl
abbrev s_lrow : Stmt := top 61
def d_lrow (K : PySem.W.Frag) : DSp := fun Ps W => ∃ tags : List Str, Ps = [fSrc, fNmL K tags] ∧ tags ≠ [] ∧ tags.length ≤ 100 ∧ ∀ r : Row, (∀ x ∈ rowL r, x ∈ tags) → W (fRow K r)
abbrev N_lrow : List Str := ["_law_source_here", "_law_tags", "_law_many", "_law_one", "_law_two", "_law_rest", "_law_tag"]
theorem sc_lrow : FnScope N_lrow ["_law_source_here", "_law_tags"] (defScope s_lrow) := ⟨rfl, rfl, rfl, by decide +kernel, rfl, by decide +kernel, by decide +kernel⟩
theorem ok_lrow (B : Free mg) (CD : Cal P w K mg base 1 "_law_draw" [] d_draw) (h : HasF K mg "_law_row" s_lrow []) : Cal P w K mg base 2 "_law_row" [] (d_lrow K) := by
  refine cal_of h (ps := ["_law_source_here", "_law_tags"]) (fun _ _ _ _ _ _ us hl => match us, hl with | [_, _], _ => rfl) fun f fd F => ?_
  refine fn_d F sc_lrow (fun Ps W h => ?_) fun cdv A0 outer s H E0 Ps W hr h => ?_
  · obtain ⟨tags, rfl, _⟩ := h
    rfl
  · obtain ⟨tags, rfl, hne, hl, hW⟩ := h
    have l3 : ∀ a b c : Fct, [a, b, c].length ≤ 100000 := fun _ _ _ => by show 3 ≤ 100000; decide
    have hpos : 0 < tags.length := List.length_pos_iff.mpr hne
    have h0 : (0 : Int) < ((tags.map fStr).length : Nat) := by rw [List.length_map]; omega
    have hlm : (tags.map fStr).length = tags.length := List.length_map _
    have h1 : (((tags.map fStr).length : Nat) : Int) < 1000000 := by rw [hlm]; omega
    refine d_cons <| p_asg (i := 2) (v_callB call_ln B.len <| a_cons <| v_var 1 ⟨_, rfl, a_nil ⟨_, oc_lenL, ?_⟩⟩) sc_lrow.nd
    refine d_cons <| p_asg (i := 3) (v_call CD hr <| a_cons <| v_var 0 ⟨_, rfl, a_cons <| v_var 2 ⟨_, rfl, a_nil ⟨_, rfl, h0, h1, fun k k0 k1 => ?_⟩⟩⟩) sc_lrow.nd
    refine d_cons <| p_asg (i := 4) (v_op op_mod <| v_callTy call_i1 B.int <| a_cons <| v_op op_add <| v_op op_add <| v_var 3 ⟨_, rfl, v_int ⟨_, o2_I0, ?_⟩⟩) sc_lrow.nd
    refine v_call CD hr <| a_cons <| v_var 0 ⟨_, rfl, a_cons <| v_var 2 ⟨_, rfl, a_nil ⟨_, rfl, h0, h1, fun q q0 q1 => ⟨_, o2_I0, a_nil ⟨_, oc_int, v_var 2 ⟨_, rfl, _, o2_I h0, ?_⟩⟩⟩⟩⟩⟩
    have m0 : 0 ≤ (k + 1 + q) % (((tags.map fStr).length : Nat) : Int) := Int.emod_nonneg _ (by omega)
    have m1 : (k + 1 + q) % (((tags.map fStr).length : Nat) : Int) < ((tags.map fStr).length : Nat) := Int.emod_lt_of_pos _ h0
    generalize (k + 1 + q) % (((tags.map fStr).length : Nat) : Int) = k2 at m0 m1
    rw [hlm] at k1 m1
    obtain ⟨z1, e1, i1⟩ := str_at k0 k1
    obtain ⟨z2, e2, i2⟩ := str_at m0 m1
    show PD _ _ [.fz fSrc, .fz (fNmL K tags), .fz (fInt ((tags.map fStr).length : Nat)), .fz (fInt k), .fz (fInt k2), .no, .no] _
    have pick : ∀ {X : Cx} {Γ : DL.Ctx} {e : Expr} {W : Fct → DL.Ctx → Prop}, True := fun {_ _ _ _} => trivial
    refine d_cons <| p_setLc (own := [("_law_tag", 6)]) (j := 6) (i := 5) (blkOk_by (N := N_lrow) (sc := defScope s_lrow) (by decide +kernel)) sc_lrow.nd (by decide) (fun _ _ _ _ _ => pgn 6 sc_lrow.nd) rfl <| i_list <| v_var 1 ⟨_, rfl, _, rfl, ?_⟩
    refine lcw_filter (j := 6) (by decide) tags fStr fStr (fun z => decide (z ∉ [z1, z2])) (by omega) (fun z hz s H C1 cl fp => ?_) (fun z hz hk s H C1 cl fp => v_var 6 ⟨_, rfl, rfl, rfl⟩) ?_
    · refine b_cmp (op_notInT (α := Str) hr (by decide)) <| v_var 6 ⟨_, rfl, v_lst <| a_cons <| v_ix ix_list <| v_var 1 ⟨_, rfl, v_var 3 ⟨_, rfl, _, o2_ixL e1, ?_⟩⟩⟩
      refine a_cons <| v_ix ix_list <| v_var 1 ⟨_, rfl, v_var 4 ⟨_, rfl, _, o2_ixL e2, a_nil ⟨by show 2 ≤ 100000; decide, decide (z ∉ [z1, z2]), ?_, rfl, rfl⟩⟩⟩
      exact o2_inLT (K := K) (neg := true) (f := fStr) (xs := [z1, z2]) (tyd_str z) tyd_str
    generalize hrest : tags.filter (fun z => decide (z ∉ [z1, z2])) = rest
    have hrl : rest.length ≤ 100 := by
      rw [← hrest]
      exact Nat.le_trans (List.length_filter_le _ _) hl
    have hrin : ∀ x ∈ rest, x ∈ tags := fun x hx => by
      rw [← hrest] at hx
      exact (List.mem_filter.mp hx).1
    show PD _ _ [.fz fSrc, .fz (fNmL K tags), .fz (fInt ((tags.map fStr).length : Nat)), .fz (fInt k), .fz (fInt k2), .fz (fNmL K rest), .no] _
    have fin : PD (cxOf CX0 P w K mg base N_lrow "_law_row" (defScope s_lrow) f cdv A0 outer s H E0).nox ((defBody s_lrow).drop 5) [.fz fSrc, .fz (fNmL K tags), .fz (fInt ((tags.map fStr).length : Nat)), .fz (fInt k), .fz (fInt k2), .fz (fNmL K rest), .no] { nx := fun _ => W fNon, rt := W } := by
      refine d_one <| p_ret <| v_tup <| a_cons <| v_ix ix_list <| v_var 1 ⟨_, rfl, v_var 3 ⟨_, rfl, _, o2_ixL e1, ?_⟩⟩
      refine a_cons <| v_ix ix_list <| v_var 1 ⟨_, rfl, v_var 4 ⟨_, rfl, _, o2_ixL e2, ?_⟩⟩
      refine a_cons <| v_ix ix_list <| v_var 1 ⟨_, rfl, v_call CD hr <| a_cons <| v_var 0 ⟨_, rfl, a_cons <| v_var 2 ⟨_, rfl, a_nil ⟨_, rfl, h0, h1, fun p p0 p1 => ?_⟩⟩⟩⟩
      rw [hlm] at p1
      obtain ⟨z3, e3, i3⟩ := str_at p0 p1
      refine ⟨_, o2_ixL e3, a_nil ⟨l3 _ _ _, hW (z1, z2, z3) fun x hx => ?_⟩⟩
      unfold rowL at hx
      rcases List.mem_cons.mp hx with rfl | hx
      · exact i1
      rcases List.mem_cons.mp hx with rfl | hx
      · exact i2
      rw [List.mem_singleton.mp hx]
      exact i3
    refine d_cons <| p_if <| b_w <| w_and <| b_cmp (op_neT (α := List Str) hr (by decide)) <| v_var 5 ⟨_, rfl, v_lst <| a_nil ⟨Nat.zero_le _, decide (rest ≠ []), o2_neT (K := K) (tyd_lst tyd_str) (tyd_lst (xs := []) tyd_str), ?_⟩⟩
    by_cases hr0 : rest = []
    · rw [decide_eq_false (fun z => z hr0)]
      exact iteF (iteF (d_nil fin))
    · rw [decide_eq_true hr0]
      refine iteT <| w_and1 <| b_cmp op_gt <| v_call CD hr <| a_cons <| v_var 0 ⟨_, rfl, a_cons <| v_int <| a_nil ⟨4, rfl, by decide, by decide, fun p p0 p1 => v_int ⟨decide (0 < p), o2_I0, ?_⟩⟩⟩
      by_cases hp : 0 < p
      · rw [decide_eq_true hp]
        refine iteT ?_
        refine d_one <| p_ret <| v_tup <| a_cons <| v_ix ix_list <| v_var 1 ⟨_, rfl, v_var 3 ⟨_, rfl, _, o2_ixL e1, ?_⟩⟩
        refine a_cons <| v_ix ix_list <| v_var 1 ⟨_, rfl, v_var 4 ⟨_, rfl, _, o2_ixL e2, ?_⟩⟩
        have hrp : 0 < rest.length := List.length_pos_iff.mpr hr0
        refine a_cons <| v_ix ix_list <| v_var 5 ⟨_, rfl, v_call CD hr <| a_cons <| v_var 0 ⟨_, rfl, a_cons <| v_callB call_ln B.len <| a_cons <| v_var 5 ⟨_, rfl, a_nil ⟨_, oc_lenL, a_nil ⟨_, rfl, by rw [List.length_map]; omega, by rw [List.length_map]; omega, fun p p0 p1 => ?_⟩⟩⟩⟩⟩
        rw [List.length_map] at p1
        obtain ⟨z3, e3, i3⟩ := str_at p0 p1
        refine ⟨_, o2_ixL e3, a_nil ⟨l3 _ _ _, hW (z1, z2, z3) fun x hx => ?_⟩⟩
        unfold rowL at hx
        rcases List.mem_cons.mp hx with rfl | hx
        · exact i1
        rcases List.mem_cons.mp hx with rfl | hx
        · exact i2
        rw [List.mem_singleton.mp hx]
        exact hrin _ i3
      · rw [decide_eq_false hp]
        exact iteF (d_nil fin)
end
end TB

/-! TB18: _law_some. -/
namespace TB
open PySem L2 PyProof.Rows DL
section
variable {P : Program} {w : World} {K : PySem.W.Frag} {mg : Str → Option Value} {base : Heap}
abbrev s_lsome : Stmt := top 62
def d_lsome (K : PySem.W.Frag) : DSp := fun Ps W => ∃ (tags : List Str) (m : Int), Ps = [fSrc, fNmL K tags, fInt m] ∧ 0 < m ∧ m < 1000 ∧ tags.length ≤ 100 ∧ tags.Nodup ∧ ∀ l : List Str, (∀ x ∈ l, x ∈ tags) → l.Nodup → l.length ≤ tags.length → W (fNmL K l)
abbrev N_lsome : List Str := ["_law_source_here", "_law_tags", "_law_share", "_law_found", "_law_tag"]
theorem sc_lsome : FnScope N_lsome ["_law_source_here", "_law_tags", "_law_share"] (defScope s_lsome) := ⟨rfl, rfl, rfl, by decide +kernel, rfl, by decide +kernel, by decide +kernel⟩
theorem ok_lsome (CD : Cal P w K mg base 1 "_law_draw" [] d_draw) (h : HasF K mg "_law_some" s_lsome []) : Cal P w K mg base 2 "_law_some" [] (d_lsome K) := by
  refine cal_of h (ps := ["_law_source_here", "_law_tags", "_law_share"]) (fun _ _ _ _ _ _ us hl => match us, hl with | [_, _, _], _ => rfl) fun f fd F => ?_
  refine fn_d F sc_lsome (fun Ps W h => ?_) fun cdv A0 outer s H E0 Ps W hr h => ?_
  · obtain ⟨tags, m, rfl, _⟩ := h
    rfl
  · obtain ⟨tags, m, rfl, m0, m1, hl, hnd, hW⟩ := h
    refine d_cons <| p_setLc (own := [("_law_tag", 4)]) (j := 4) (i := 3) (blkOk_by (N := N_lsome) (sc := defScope s_lsome) (by decide +kernel)) sc_lsome.nd (by decide) (fun _ _ _ _ _ => pgn 4 sc_lsome.nd) rfl <| i_list <| v_var 1 ⟨_, rfl, _, rfl, ?_⟩
    refine ⟨fun i acc Γ => ∃ l : List Str, Γ = [.fz fSrc, .fz (fNmL K tags), .fz (fInt m), .no, .no] ∧ acc = l.map fStr ∧ l.Sublist (tags.take i), by rw [List.length_map]; omega, ⟨[], rfl, rfl, List.nil_sublist _⟩, ?_, ?_⟩
    · rintro i P0 acc Γi hP ⟨l, rfl, rfl, hs⟩
      obtain ⟨t, ht, rfl⟩ := map_at hP
      have et : tags.take (i + 1) = tags.take i ++ [t] := by
        rw [List.take_add_one, ht]
        rfl
      intro s H C cl fp
      refine b_cmp op_gt <| v_call CD hr <| a_cons <| v_var 0 ⟨_, rfl, a_cons <| v_var 2 ⟨_, rfl, a_nil ⟨m, rfl, m0, by omega, fun k k0 k1 => v_int ⟨decide (0 < k), o2_I0, ?_⟩⟩⟩⟩
      by_cases hk : 0 < k
      · rw [decide_eq_true hk]
        refine iteT fun s H C cl fp => ?_
        refine v_var 4 ⟨fStr t, rfl, l ++ [t], rfl, by rw [List.map_append]; rfl, ?_⟩
        rw [et]
        exact hs.append (List.Sublist.refl _)
      · rw [decide_eq_false hk]
        refine iteF ⟨l, rfl, rfl, ?_⟩
        rw [et]
        exact hs.trans (List.sublist_append_left _ _)
    · rintro acc Γn ⟨l, rfl, rfl, hs⟩
      rw [List.length_map, List.take_length] at hs
      show PD _ _ [.fz fSrc, .fz (fNmL K tags), .fz (fInt m), .fz (fNmL K l), .no] _
      refine d_one <| p_ret <| v_if <| b_cmp op_eq <| v_call CD hr <| a_cons <| v_var 0 ⟨_, rfl, a_cons <| v_int <| a_nil ⟨4, rfl, by decide, by decide, fun k k0 k1 => v_int ⟨_, o2_eq rfl, ?_⟩⟩⟩
      have h1 := hW l (fun x hx => hs.subset hx) (hnd.sublist hs) hs.length_le
      have h2 := hW l.reverse (fun x hx => hs.subset (List.mem_reverse.mp hx)) ((List.reverse_perm l).nodup_iff.mpr (hnd.sublist hs)) (by rw [List.length_reverse]; exact hs.length_le)
      split
      · refine v_revL <| v_var 3 ⟨_, rfl, l.map fStr, rfl, ?_⟩
        rw [← List.map_reverse]
        exact h2
      · exact v_var 3 ⟨_, rfl, h1⟩
end
end TB

/-! TB19: _law_plan. -/
namespace TB
open PySem L2 PyProof.Rows DL
abbrev ksP : List Str := ["sort", "ins", "inner", "rows", "outs", "stock", "goals", "opens", "shuts"]
def fRows (K : PySem.W.Frag) (rows : List Row) : Fct := fLst K (rows.map (fRow K))
def fPlan (K : PySem.W.Frag) (c : Cl) : Fct := fDK (mkKK ksP [fSort K c.word c.calm, fNmL K c.ins, fNmL K c.inner, fRows K c.rows, fNmL K c.outs, fNmL K c.stored, fNmL K c.wanted, fNmL K c.begn, fNmL K c.endd])
/-- what a plan is -/
structure Good (c : Cl) : Prop where
  s : Sides c
  nc : NoClash c.word c.calm (laidOf c.ins c.outs c.rows 2)
  li : c.ins.length ≤ 1
  ln : c.inner.length ≤ 2
  lr : c.rows.length ≤ 4
theorem laid_chain (ins outs : List Str) (rows : List Row) (n : Nat) (t : Triple) : t ∈ laidOf ins outs rows n ↔ t ∈ chain ins outs rows n := by
  unfold laidOf chain
  rw [List.mem_flatMap, List.mem_flatMap]
  constructor
  · rintro ⟨i, hi, h⟩
    obtain ⟨r, hr, rfl⟩ := List.mem_map.mp h
    exact ⟨r, hr, List.mem_map.mpr ⟨i, hi, rfl⟩⟩
  · rintro ⟨r, hr, h⟩
    obtain ⟨i, hi, rfl⟩ := List.mem_map.mp h
    exact ⟨i, hi, List.mem_map.mpr ⟨r, hr, rfl⟩⟩
theorem noClash_of {z : Str} {c : Bool} {a b : List Triple} (h : ∀ t, t ∈ b → t ∈ a) (nc : NoClash z c a) : NoClash z c b := by
  have up : ∀ x, AllImgT z c b x → AllImgT z c a x := by
    rintro x (⟨hc, t, ht, a, ha, rfl⟩ | ⟨t, ht, y, hy, rfl⟩)
    · exact .inl ⟨hc, t, h t ht, a, ha, rfl⟩
    · exact .inr ⟨t, h t ht, y, hy, rfl⟩
  exact fun x y hx hy => nc x y (up x hx) (up y hy)
theorem Good.chain {c : Cl} (h : Good c) : NoClash c.word c.calm (chain c.ins c.outs c.rows 2) := noClash_of (fun t ht => (laid_chain _ _ _ _ t).mpr ht) h.nc
theorem noClash_nil (z : Str) (c : Bool) : NoClash z c [] := by
  rintro x y (⟨_, t, ht, _⟩ | ⟨t, ht, _⟩) _
  · cases ht
  · cases ht
theorem osL_to {K : PySem.W.Frag} {l : List Str} {k : Nat} : OpS (rSlL K) (fNmL K l) none (some ((k : Nat) : Int)) (fNmL K (l.take k)) := by
  have := os_L (K := K) (Ps := l.map fStr) (lo := none) (hi := some ((k : Nat) : Int))
  rw [cutF_map, cutF_to] at this
  exact this
theorem osL_from {K : PySem.W.Frag} {l : List Str} {k : Nat} : OpS (rSlL K) (fNmL K l) (some ((k : Nat) : Int)) none (fNmL K (l.drop k)) := by
  have := os_L (K := K) (Ps := l.map fStr) (lo := some ((k : Nat) : Int)) (hi := none)
  rw [cutF_map, cutF_from] at this
  exact this
theorem osL_mid {K : PySem.W.Frag} {l : List Str} {i j : Nat} : OpS (rSlL K) (fNmL K l) (some ((i : Nat) : Int)) (some (((i : Nat) : Int) + ((j : Nat) : Int))) (fNmL K ((l.drop i).take j)) := by
  have e : ((i : Nat) : Int) + ((j : Nat) : Int) = ((i + j : Nat) : Int) := rfl
  have := os_L (K := K) (Ps := l.map fStr) (lo := some ((i : Nat) : Int)) (hi := some ((i + j : Nat) : Int))
  rw [cutF_map, cutF_mid, Nat.add_sub_cancel_left] at this
  rw [e]
  exact this
section
variable {P : Program} {w : World} {K : PySem.W.Frag} {mg : Str → Option Value} {base : Heap}
abbrev s_plan : Stmt := top 63
def d_plan (K : PySem.W.Frag) : DSp := fun Ps W => Ps = [fSrc, fInt 1, fInt 2, fInt 4] ∧ ∀ c : Cl, Good c → W (fPlan K c)
abbrev N_plan : List Str := ["_law_source_here", "_law_sides", "_law_inside", "_law_most", "_law_many", "_law_room", "_law_tags", "_law_plan_here", "_law_turn", "_law_rows", "_law_own"]
theorem sc_plan : FnScope N_plan ["_law_source_here", "_law_sides", "_law_inside", "_law_most"] (defScope s_plan) := ⟨rfl, rfl, rfl, by decide +kernel, rfl, by decide +kernel, by decide +kernel⟩
theorem ok_plan (B : Free mg) (CD : Cal P w K mg base 1 "_law_draw" [] d_draw) (CN : Cal P w K mg base 2 "_law_names" [] (d_names K)) (CS : Cal P w K mg base 2 "_law_sort" [] (d_sort K)) (CR : Cal P w K mg base 2 "_law_row" [] (d_lrow K)) (CC : Cal P w K mg base 2 "_law_clashing" [] (d_lclash K)) (CL : Cal P w K mg base 2 "_law_laid" [] (d_laid K)) (CM : Cal P w K mg base 2 "_law_some" [] (d_lsome K))
    (h : HasF K mg "_law_plan" s_plan []) : Cal P w K mg base 3 "_law_plan" [] (d_plan K) := by
  refine cal_of h (ps := ["_law_source_here", "_law_sides", "_law_inside", "_law_most"]) (fun _ _ _ _ _ _ us hl => match us, hl with | [_, _, _, _], _ => rfl) fun f fd F => ?_
  refine fn_d F sc_plan (fun Ps W h => ?_) fun cdv A0 outer s H E0 Ps W hr h => ?_
  · obtain ⟨rfl, _⟩ := h
    rfl
  · obtain ⟨rfl, hW⟩ := h
    have main : ∀ mn rm : Nat, mn ≤ 1 → rm ≤ 2 → 1 ≤ mn + rm → PD (cxOf CX0 P w K mg base N_plan "_law_plan" (defScope s_plan) f cdv A0 outer s H E0).nox ((defBody s_plan).drop 2) [.fz fSrc, .fz (fInt 1), .fz (fInt 2), .fz (fInt 4), .fz (fInt (mn : Nat)), .fz (fInt (rm : Nat)), .no, .no, .no, .no, .no] { nx := fun _ => W fNon, rt := W } := by
      intro mn rm h1 h2 h3
      refine d_cons <| p_asg (i := 6) (v_call CN hr <| a_cons <| v_var 0 ⟨_, rfl, a_cons <| v_op op_add <| v_op op_mul <| v_int <| v_var 4 ⟨_, rfl, _, o2_I (Or.inl ?_), v_var 5 ⟨_, rfl, _, o2_I0, a_nil ⟨2 * mn + rm, ?_, by omega, fun tags ht hnd hok => ?_⟩⟩⟩⟩) sc_plan.nd
      · exact ⟨by decide, by decide⟩
      · show [fSrc, fInt (2 * ((mn : Nat) : Int) + ((rm : Nat) : Int))] = _
        have : (2 * ((mn : Nat) : Int) + ((rm : Nat) : Int)) = ((2 * mn + rm : Nat) : Int) := by omega
        rw [this]
      show PD _ _ [.fz fSrc, .fz (fInt 1), .fz (fInt 2), .fz (fInt 4), .fz (fInt (mn : Nat)), .fz (fInt (rm : Nat)), .fz (fNmL K tags), .no, .no, .no, .no] _
      have kd : ∀ (pos : Pos) (WO : Own → DL.Ctx → Prop) (keys : List (Option Expr)) (es : List Expr) (h1 : keys.all (·.isSome) = true ∧ keys.length = es.length ∧ keys ≠ [] ∧ es.length ≤ 15) (h3 : 4 = es.length) (hP : PPs (cxOf CX0 P w K mg base N_plan "_law_plan" (defScope s_plan) f cdv A0 outer s H E0).nox pos keys es (trsOf (cxOf CX0 P w K mg base N_plan "_law_plan" (defScope s_plan) f cdv A0 outer s H E0).nox ["sort", "ins", "inner", "rows"] es)) (h : PVl (cxOf CX0 P w K mg base N_plan "_law_plan" (defScope s_plan) f cdv A0 outer s H E0).nox es [.fz fSrc, .fz (fInt 1), .fz (fInt 2), .fz (fInt 4), .fz (fInt (mn : Nat)), .fz (fInt (rm : Nat)), .fz (fNmL K tags), .no, .no, .no, .no] fun Ps Γ1 => WO (oDK (mkKK ["sort", "ins", "inner", "rows"] Ps)) Γ1), PN (cxOf CX0 P w K mg base N_plan "_law_plan" (defScope s_plan) f cdv A0 outer s H E0).nox (.Dict keys es pos) [.fz fSrc, .fz (fInt 1), .fz (fInt 2), .fz (fInt 4), .fz (fInt (mn : Nat)), .fz (fInt (rm : Nat)), .fz (fNmL K tags), .no, .no, .no, .no] WO :=
        fun pos WO keys es h1 h3 hP h => n_disp1 _ _ pos WO keys es ["sort", "ins", "inner", "rows"] h1 (by decide +kernel) h3 hP h
      refine d_cons ?_
      refine p_asgO1 _ _ _ 7 _ _ _ _ ?_ ?_ ?_ ?_ ?_ ?_
      · exact sc_plan.nd
      · rfl
      · exact Or.inl rfl
      · rfl
      · exact sw_dict
      refine kd _ _ _ _ ?_ ?_ ?_ ?_
      · exact ⟨rfl, rfl, (fun z => nomatch z), (by show 4 ≤ 15; decide)⟩
      · rfl
      · exact pps_cons pe_str pe_wp <| pps_cons pe_str pe_wp <| pps_cons pe_str pe_wp <| pps_cons pe_str pe_wp pps_nil
      show PV _ _ _ _
      refine v_call CS hr <| a_cons <| v_var 0 ⟨_, rfl, a_nil ⟨rfl, fun z hz c => ?_⟩⟩
      show PV _ _ _ _
      refine v_slice sl_list <| v_var 6 ⟨_, rfl, v_var 4 ⟨_, rfl, _, rfl, _, osL_to, ?_⟩⟩
      show PV _ _ _ _
      refine v_slice sl_list <| v_var 6 ⟨_, rfl, v_var 4 ⟨_, rfl, _, rfl, v_op op_add <| v_var 4 ⟨_, rfl, v_var 5 ⟨_, rfl, _, o2_I0, _, rfl, _, osL_mid, ?_⟩⟩⟩⟩
      show PV _ _ _ _
      refine v_lst <| a_nil ⟨Nat.zero_le _, ?_⟩
      show PD _ _ [.fz fSrc, .fz (fInt 1), .fz (fInt 2), .fz (fInt 4), .fz (fInt (mn : Nat)), .fz (fInt (rm : Nat)), .fz (fNmL K tags), .ow (oDK (mkKK ["sort", "ins", "inner", "rows"] [fSort K z c, fNmL K (tags.take mn), fNmL K ((tags.drop mn).take rm), fRows K []])), .no, .no, .no] _
      have lk : ∀ (ks : List Str) (Ps : List Fct), ks.length < 900 → (mkKK ks Ps).length < 1000 := fun ks Ps h => by have := mk_len (ks := ks) (Ps := Ps); omega
      refine d_cons ?_
      refine p_dkOS 7 hr ?_ rfl (Or.inl rfl) (by decide) (by decide)
      refine v_slice sl_list <| v_var 6 ⟨_, rfl, v_op op_add <| v_var 4 ⟨_, rfl, v_var 5 ⟨_, rfl, _, o2_I0, ((mn + rm : Nat) : Int), rfl, _, osL_from, _, rfl, lk _ _ (by decide), ?_⟩⟩⟩
      rw [mk_put rfl (by decide +kernel)]
      show PD _ _ [.fz fSrc, .fz (fInt 1), .fz (fInt 2), .fz (fInt 4), .fz (fInt (mn : Nat)), .fz (fInt (rm : Nat)), .fz (fNmL K tags), .ow (oDK (mkKK ["sort", "ins", "inner", "rows", "outs"] [fSort K z c, fNmL K (tags.take mn), fNmL K ((tags.drop mn).take rm), fRows K ([]), fNmL K (tags.drop (mn + rm))])), .no, .no, .no] _
      have nd5 : (["sort", "ins", "inner", "rows", "outs"] : List Str).Nodup := by decide +kernel
      have hol : (tags.drop (mn + rm)).length = (tags.take mn).length := by
        rw [List.length_drop, List.length_take]
        omega
      have hne : tags ≠ [] := fun z => by
        rw [z] at ht
        have ht : 0 = 2 * mn + rm := ht
        omega
      refine d_cons <| p_for (pgn 8 sc_plan.nd) <| i_range B.range <| v_op op_add <| v_var 3 ⟨_, rfl, v_int ⟨_, o2_I0, 6, rfl, by decide, by decide, ?_⟩⟩
      refine ⟨fun i Γ => ∃ (rows : List Row) (s8 s9 : Slot), Γ = [.fz fSrc, .fz (fInt 1), .fz (fInt 2), .fz (fInt 4), .fz (fInt (mn : Nat)), .fz (fInt (rm : Nat)), .fz (fNmL K tags), .ow (oDK (mkKK ["sort", "ins", "inner", "rows", "outs"] [fSort K z c, fNmL K (tags.take mn), fNmL K ((tags.drop mn).take rm), fRows K (rows), fNmL K (tags.drop (mn + rm))])), s8, s9, .no] ∧ rows.length ≤ 4 ∧ (∀ r ∈ rows, ∀ x ∈ rowL r, x ∈ tags) ∧ NoClash z c (laidOf (tags.take mn) (tags.drop (mn + rm)) rows 2), ⟨[], _, _, rfl, Nat.zero_le _, (fun r hr => nomatch hr), noClash_nil z c⟩, ?_, ?_⟩
      · rintro i P0 Γi hP ⟨rows, s8, s9, rfl, g1, g2, g3⟩
        obtain ⟨i', _, rfl⟩ := map_at hP
        refine dt_name ?_
        show PD _ _ [.fz fSrc, .fz (fInt 1), .fz (fInt 2), .fz (fInt 4), .fz (fInt (mn : Nat)), .fz (fInt (rm : Nat)), .fz (fNmL K tags), .ow (oDK (mkKK ["sort", "ins", "inner", "rows", "outs"] [fSort K z c, fNmL K (tags.take mn), fNmL K ((tags.drop mn).take rm), fRows K (rows), fNmL K (tags.drop (mn + rm))])), .fz (fInt (i' : Nat)), s9, .no] _
        refine d_cons <| p_asg (i := 9) (v_dkO 7 hr rfl (mk_look 3 nd5 rfl rfl) ?_) sc_plan.nd
        show PD _ _ [.fz fSrc, .fz (fInt 1), .fz (fInt 2), .fz (fInt 4), .fz (fInt (mn : Nat)), .fz (fInt (rm : Nat)), .fz (fNmL K tags), .ow (oDK (mkKK ["sort", "ins", "inner", "rows", "outs"] [fSort K z c, fNmL K (tags.take mn), fNmL K ((tags.drop mn).take rm), fRows K (rows), fNmL K (tags.drop (mn + rm))])), .fz (fInt (i' : Nat)), .fz (fRows K rows), .no] _
        refine d_cons ?_
        refine p_dkOB 7 hr ?_ rfl (Or.inl rfl) (by decide) (by decide)
        refine v_op op_cat <| v_var 9 ⟨_, rfl, v_lst <| a_cons <| v_call CR hr <| a_cons <| v_var 0 ⟨_, rfl, a_cons <| v_var 6 ⟨_, rfl, a_nil ⟨tags, rfl, hne, by omega, fun r hr0 => a_nil ⟨by show 1 ≤ 100000; decide, fRows K (rows ++ [r]), ?_, _, rfl, lk _ _ (by decide), ?_⟩⟩⟩⟩⟩
        · unfold fRows
          rw [List.map_append]
          exact o2_catL (by rw [List.length_map]; show rows.length + 1 ≤ 100000; omega)
        rw [mk_put2 3 nd5 rfl rfl]
        show PD _ _ [.fz fSrc, .fz (fInt 1), .fz (fInt 2), .fz (fInt 4), .fz (fInt (mn : Nat)), .fz (fInt (rm : Nat)), .fz (fNmL K tags), .ow (oDK (mkKK ["sort", "ins", "inner", "rows", "outs"] [fSort K z c, fNmL K (tags.take mn), fNmL K ((tags.drop mn).take rm), fRows K (rows ++ [r]), fNmL K (tags.drop (mn + rm))])), .fz (fInt (i' : Nat)), .fz (fRows K rows), .no] _
        have gr : ∀ r' ∈ rows ++ [r], ∀ x ∈ rowL r', x ∈ tags := fun r' h' x hx => by
          rcases List.mem_append.mp h' with h' | h'
          · exact g2 r' h' x hx
          · rw [List.mem_singleton.mp h'] at hx
            exact hr0 x hx
        have only : ∀ j O', ([.fz fSrc, .fz (fInt 1), .fz (fInt 2), .fz (fInt 4), .fz (fInt (mn : Nat)), .fz (fInt (rm : Nat)), .fz (fNmL K tags), .ow (oDK (mkKK ["sort", "ins", "inner", "rows", "outs"] [fSort K z c, fNmL K (tags.take mn), fNmL K ((tags.drop mn).take rm), fRows K (rows ++ [r]), fNmL K (tags.drop (mn + rm))])), .fz (fInt (i' : Nat)), .fz (fRows K rows), .no] : DL.Ctx)[j]? = some (.ow O') → j = 7 := fun j O' hj => by
          match j, hj with
          | 0, hj | 1, hj | 2, hj | 3, hj | 4, hj | 5, hj | 6, hj | 8, hj | 9, hj | 10, hj => cases hj
          | 7, _ => rfl
        have eqz : decide (V.int (((rows.map (fRow K)).length : Nat) : Int) = V.int 4) = decide (rows.length = 4) := by
          rw [List.length_map]
          by_cases e : rows.length = 4
          · rw [e]
            rfl
          · rw [decide_eq_false e, decide_eq_false fun z => by injection z with z; omega]
        refine d_one <| p_if <| b_w <| w_or <| b_cmp op_eq <| v_callB call_ln B.len <| a_cons <| v_var 9 ⟨_, rfl, a_nil ⟨_, oc_lenL, v_var 3 ⟨_, rfl, _, o2_eq rfl, ?_⟩⟩⟩
        rw [eqz]
        by_cases e4 : rows.length = 4
        · rw [decide_eq_true e4]
          refine iteT <| iteT ?_
          refine d_one ?_
          refine p_dkON 7 hr ?_ rfl (Or.inl rfl) (by decide) (by decide)
          refine v_var 9 ⟨_, rfl, _, rfl, lk _ _ (by decide), ?_⟩
          rw [mk_put2 3 nd5 rfl rfl]
          exact ⟨rows, _, _, rfl, g1, g2, g3⟩
        · rw [decide_eq_false e4]
          refine iteF <| w_or1 <| PB.borrow 7 rfl only <| b_val <| v_call CC hr <| a_cons <| v_dk hr <| v_var 7 ⟨_, rfl, _, _, rfl, mk_look 0 nd5 rfl rfl, ?_⟩
          refine a_cons <| v_call CL hr <| a_cons <| v_var 7 ⟨_, rfl, a_cons <| v_int <| a_nil ⟨_, tags.take mn, tags.drop (mn + rm), rows ++ [r], 2, rfl, mk_look 1 nd5 rfl rfl, mk_look 4 nd5 rfl rfl, mk_look 3 nd5 rfl rfl, hol, by decide, by rw [List.length_append]; show rows.length + 1 ≤ 100; omega, ?_⟩⟩
          refine a_nil ⟨z, c, _, rfl, hz, ?_, fun b hb => ⟨b, rfl, ?_⟩⟩
          · have := laid_len (tags.take mn) (tags.drop (mn + rm)) (rows ++ [r]) 2
            rw [List.length_append] at this
            have e1 : [r].length = 1 := rfl
            omega
          cases b with
          | true =>
            refine iteT ?_
            refine d_one ?_
            refine p_dkON 7 hr ?_ rfl (Or.inl rfl) (by decide) (by decide)
            refine v_var 9 ⟨_, rfl, _, rfl, lk _ _ (by decide), ?_⟩
            rw [mk_put2 3 nd5 rfl rfl]
            exact ⟨rows, _, _, rfl, g1, g2, g3⟩
          | false =>
            refine iteF (d_nil ?_)
            exact ⟨rows ++ [r], _, _, rfl, by rw [List.length_append]; show rows.length + 1 ≤ 4; omega, gr, hb rfl⟩
      · rintro Γn ⟨rows, s8, s9, rfl, g1, g2, g3⟩
        have hdl : (tags.drop mn).length ≤ 4 := by rw [List.length_drop]; omega
        have hdn : (tags.drop mn).Nodup := hnd.sublist (List.drop_sublist _ _)
        refine d_cons <| p_asg (i := 10) (v_slice sl_list <| v_var 6 ⟨_, rfl, v_var 4 ⟨_, rfl, _, rfl, _, osL_from, ?_⟩⟩) sc_plan.nd
        refine d_cons <| p_dkO2 7 hr <| v_tup <| a_cons <| v_slice sl_list <| v_call CM hr <| a_cons <| v_var 0 ⟨_, rfl, a_cons <| v_var 10 ⟨_, rfl, a_cons <| v_int <| a_nil ⟨tags.drop mn, 3, rfl, by decide, by decide, by omega, hdn, fun st st1 st2 st3 => v_int ⟨6, rfl, _, osL_to, ?_⟩⟩⟩⟩
        refine a_cons <| v_call CM hr <| a_cons <| v_var 0 ⟨_, rfl, a_cons <| v_var 10 ⟨_, rfl, a_cons <| v_int <| a_nil ⟨tags.drop mn, 2, rfl, by decide, by decide, by omega, hdn, fun go go1 go2 go3 => a_nil ⟨by show 2 ≤ 100000; decide, _, _, _, rfl, rfl, lk _ _ (by decide), ?_⟩⟩⟩⟩
        rw [mk_put rfl (by decide +kernel), mk_put rfl (by decide +kernel)]
        show PD _ _ [.fz fSrc, .fz (fInt 1), .fz (fInt 2), .fz (fInt 4), .fz (fInt (mn : Nat)), .fz (fInt (rm : Nat)), .fz (fNmL K tags), .ow (oDK (mkKK ["sort", "ins", "inner", "rows", "outs", "stock", "goals"] [fSort K z c, fNmL K (tags.take mn), fNmL K ((tags.drop mn).take rm), fRows K rows, fNmL K (tags.drop (mn + rm)), fNmL K (st.take 6), fNmL K go])), s8, s9, .fz (fNmL K (tags.drop mn))] _
        have nd7 : (["sort", "ins", "inner", "rows", "outs", "stock", "goals"] : List Str).Nodup := by decide +kernel
        have e1 : (tags.drop mn).take rm ++ tags.drop (mn + rm) = tags.drop mn := by
          rw [← List.drop_drop, List.take_append_drop]
        have e2 : tags.take mn ++ (tags.drop mn).take rm ++ tags.drop (mn + rm) = tags := by
          rw [List.append_assoc, e1, List.take_append_drop]
        have fin : ∀ (gl : List Str), gl ≠ [] → (∀ x ∈ gl, x ∈ tags.drop mn) → gl.Nodup → PD (cxOf CX0 P w K mg base N_plan "_law_plan" (defScope s_plan) f cdv A0 outer s H E0).nox ((defBody s_plan).drop 9) [.fz fSrc, .fz (fInt 1), .fz (fInt 2), .fz (fInt 4), .fz (fInt (mn : Nat)), .fz (fInt (rm : Nat)), .fz (fNmL K tags), .ow (oDK (mkKK ["sort", "ins", "inner", "rows", "outs", "stock", "goals"] [fSort K z c, fNmL K (tags.take mn), fNmL K ((tags.drop mn).take rm), fRows K rows, fNmL K (tags.drop (mn + rm)), fNmL K (st.take 6), fNmL K gl])), s8, s9, .fz (fNmL K (tags.drop mn))] { nx := fun _ => W fNon, rt := W } := by
          intro gl q1 q2 q3
          refine d_cons <| p_dkO2 7 hr <| v_tup <| a_cons <| v_call CM hr <| a_cons <| v_var 0 ⟨_, rfl, a_cons <| v_dkO 7 hr rfl (mk_look 1 nd7 rfl rfl) <| a_cons <| v_int <| a_nil ⟨tags.take mn, 2, rfl, by decide, by decide, by rw [List.length_take]; omega, hnd.sublist (List.take_sublist _ _), fun op op1 op2 op3 => ?_⟩⟩
          refine a_cons <| v_call CM hr <| a_cons <| v_var 0 ⟨_, rfl, a_cons <| v_dkO 7 hr rfl (mk_look 4 nd7 rfl rfl) <| a_cons <| v_int <| a_nil ⟨tags.drop (mn + rm), 2, rfl, by decide, by decide, by rw [List.length_drop]; omega, hnd.sublist (List.drop_sublist _ _), fun sh sh1 sh2 sh3 => a_nil ⟨by show 2 ≤ 100000; decide, _, _, _, rfl, rfl, lk _ _ (by decide), ?_⟩⟩⟩
          rw [mk_put rfl (by decide +kernel), mk_put rfl (by decide +kernel)]
          refine PD.freeze (i := 7) rfl ?_
          refine d_one <| p_ret <| v_var 7 ⟨_, rfl, hW ⟨z, c, tags.take mn, (tags.drop mn).take rm, tags.drop (mn + rm), rows, st.take 6, gl, op, sh⟩ ⟨?_, g3, ?_, ?_, g1⟩⟩
          · exact {
              nm := by rw [e2]; exact hok
              nd := by rw [e2]; exact hnd
              li := by show (tags.take mn).length ≤ 3; rw [List.length_take]; omega
              ln := by show ((tags.drop mn).take rm).length ≤ 6; rw [List.length_take]; omega
              lo := hol
              lr := by show rows.length ≤ 8; omega
              rin := by rw [e2]; exact g2
              s1 := by rw [e1]; exact fun x hx => st1 x (List.mem_of_mem_take hx)
              s2 := st2.sublist (List.take_sublist _ _)
              s3 := by show (st.take 6).length ≤ 6; rw [List.length_take]; omega
              w1 := by rw [e1]; exact q2
              w2 := q3
              w3 := q1
              b1 := op1
              b2 := op2
              e1 := sh1
              e2 := sh2
              wd := hz }
          · show (tags.take mn).length ≤ 1
            rw [List.length_take]
            omega
          · show ((tags.drop mn).take rm).length ≤ 2
            rw [List.length_take]
            omega
        refine d_cons <| p_if <| b_cmp (op_eqT (α := List Str) hr (by decide)) <| v_dkO 7 hr rfl (mk_look 6 nd7 rfl rfl) <| v_lst <| a_nil ⟨Nat.zero_le _, decide (go = []), o2_eqT (K := K) (tyd_lst tyd_str) (tyd_lst (xs := []) tyd_str), ?_⟩
        by_cases eg : go = []
        · rw [decide_eq_true eg]
          refine iteT <| d_one ?_
          refine p_dkOL 7 hr ?_ rfl (Or.inl rfl) (by decide) (by decide)
          refine v_lst <| a_cons <| v_ix ix_list <| v_var 10 ⟨_, rfl, v_call CD hr <| a_cons <| v_var 0 ⟨_, rfl, a_cons <| v_callB call_ln B.len <| a_cons <| v_var 10 ⟨_, rfl, a_nil ⟨_, oc_lenL, a_nil ⟨_, rfl, ?_, ?_, fun p p0 p1 => ?_⟩⟩⟩⟩⟩
          · rw [List.length_map, List.length_drop]
            omega
          · rw [List.length_map]
            omega
          rw [List.length_map] at p1
          obtain ⟨y, ey, iy⟩ := str_at p0 p1
          refine ⟨_, o2_ixL ey, a_nil ⟨by show 1 ≤ 100000; decide, _, rfl, lk _ _ (by decide), ?_⟩⟩
          rw [mk_put2 6 nd7 rfl rfl]
          exact fin [y] (fun z => nomatch z) (fun x hx => by rw [List.mem_singleton.mp hx]; exact iy) (by simp)
        · rw [decide_eq_false eg]
          exact iteF (d_nil (fin go eg go1 go2))
    refine d_cons ?_
    refine p_par (i := 4) (j := 5) ?_ sc_plan.nd rfl
    refine a_cons <| v_call CD hr <| a_cons <| v_var 0 ⟨_, rfl, a_cons <| v_op op_add <| v_var 1 ⟨_, rfl, v_int ⟨_, o2_I0, a_nil ⟨2, rfl, by decide, by decide, fun n n0 n1 => ?_⟩⟩⟩⟩
    refine a_cons <| v_call CD hr <| a_cons <| v_var 0 ⟨_, rfl, a_cons <| v_op op_add <| v_var 2 ⟨_, rfl, v_int ⟨_, o2_I0, a_nil ⟨3, rfl, by decide, by decide, fun r r0 r1 => ?_⟩⟩⟩⟩
    obtain ⟨mn, rfl⟩ : ∃ k : Nat, n = k := ⟨n.toNat, by omega⟩
    obtain ⟨rm, rfl⟩ : ∃ k : Nat, r = k := ⟨r.toNat, by omega⟩
    refine a_nil ⟨_, _, rfl, ?_⟩
    show PD _ _ [.fz fSrc, .fz (fInt 1), .fz (fInt 2), .fz (fInt 4), .fz (fInt (mn : Nat)), .fz (fInt (rm : Nat)), .no, .no, .no, .no, .no] _
    have eqz : ∀ k : Nat, decide (V.int (k : Nat) = V.int 0) = decide (k = 0) := fun k => by
      by_cases e : k = 0
      · subst e
        rfl
      · rw [decide_eq_false e, decide_eq_false fun z => by injection z with z; omega]
    refine d_cons <| p_asg (i := 5) (v_if <| b_w <| w_and <| b_cmp op_eq <| v_var 4 ⟨_, rfl, v_int ⟨_, o2_eq rfl, ?_⟩⟩) sc_plan.nd
    rw [eqz]
    by_cases e1 : mn = 0
    · rw [decide_eq_true e1]
      refine iteT <| w_and1 <| b_cmp op_eq <| v_var 5 ⟨_, rfl, v_int ⟨_, o2_eq rfl, ?_⟩⟩
      rw [eqz]
      by_cases e2 : rm = 0
      · rw [decide_eq_true e2]
        exact iteT <| v_int (main mn 1 (by omega) (by omega) (by omega))
      · rw [decide_eq_false e2]
        exact iteF <| v_var 5 ⟨_, rfl, main mn rm (by omega) (by omega) (by omega)⟩
    · rw [decide_eq_false e1]
      exact iteF <| iteF <| v_var 5 ⟨_, rfl, main mn rm (by omega) (by omega) (by omega)⟩
end
end TB

/-! TB20: rules, fillings: what is told is fixed. -/
namespace TB
open PySem L2 PyProof.Rows DL
/-! ### rules -/
def RowOk (f : Thing → Int) (s a b m : Int) (tr : Triple) : Prop := (a * f tr.1 + m + b * f tr.2.1) % s = f tr.2.2
structure RuleOk (s a b : Int) : Prop where
  hs : s = 2 ∨ s = 3
  ha : 1 ≤ a ∧ a < s
  hb : 1 ≤ b ∧ b < s
theorem lin {s a b m x y z x' y' z' : Int} (R : RuleOk s a b) (rx : 0 ≤ x ∧ x < s) (rx' : 0 ≤ x' ∧ x' < s) (ry : 0 ≤ y ∧ y < s) (ry' : 0 ≤ y' ∧ y' < s) (h : (a * x + m + b * y) % s = z) (h' : (a * x' + m + b * y') % s = z') :
    (y = y' → z = z' → x = x') ∧ (x = x' → z = z' → y = y') ∧ (x = x' → y = y' → z = z') := by
  obtain ⟨hs, ha, hb⟩ := R
  have ca : a = 1 ∨ a = 2 := by omega
  have cb : b = 1 ∨ b = 2 := by omega
  rcases hs with rfl | rfl <;> rcases ca with rfl | rfl <;> rcases cb with rfl | rfl <;> first | omega | (refine ⟨fun e1 e2 => ?_, fun e1 e2 => ?_, fun e1 e2 => ?_⟩ <;> omega)
theorem told_agree {T : List Triple} {S : List Thing} {f g : Thing → Int} {s a b m : Int} (R : RuleOk s a b) (hf : ∀ tr ∈ T, RowOk f s a b m tr) (hg : ∀ tr ∈ T, RowOk g s a b m tr) (rf : ∀ tr ∈ T, ∀ y ∈ tr.things, 0 ≤ f y ∧ f y < s) (rg : ∀ tr ∈ T, ∀ y ∈ tr.things, 0 ≤ g y ∧ g y < s) (hS : ∀ t ∈ S, f t = g t) : ∀ t, Told T S t → f t = g t := by
  intro t h
  induction h with
  | base h => exact hS _ h
  | @step tr x htr ho hall ih =>
    obtain ⟨p, q, r⟩ := tr
    have F := hf _ htr
    have G := hg _ htr
    have m1 : p ∈ Triple.things (p, q, r) := List.mem_cons_self
    have m2 : q ∈ Triple.things (p, q, r) := List.mem_cons_of_mem _ List.mem_cons_self
    have m3 : r ∈ Triple.things (p, q, r) := List.mem_cons_of_mem _ (List.mem_cons_of_mem _ List.mem_cons_self)
    have L := lin R (rf _ htr p m1) (rg _ htr p m1) (rf _ htr q m2) (rg _ htr q m2) F G
    have hm : x ∈ Triple.things (p, q, r) := by
      have : x ∈ (Triple.things (p, q, r)).filter (fun y => decide (y = x)) := by rw [ho]; exact List.mem_cons_self
      exact (List.mem_filter.mp this).1
    have hl : ((Triple.things (p, q, r)).filter (fun y => decide (y = x))).length = 1 := by rw [ho]; rfl
    have hl : ([p, q, r].filter (fun y => decide (y = x))).length = 1 := hl
    by_cases hp : p = x
    · have hq : q ≠ x := fun z => by
        rw [List.filter_cons, List.filter_cons] at hl
        simp [hp, z] at hl
      have hr : r ≠ x := fun z => by
        rw [List.filter_cons, List.filter_cons, List.filter_cons] at hl
        simp [hp, z, hq] at hl
      rw [← hp] at hq hr ⊢
      exact L.1 (ih q m2 (by rw [← hp]; exact hq)) (ih r m3 (by rw [← hp]; exact hr))
    · by_cases hq : q = x
      · have hr : r ≠ x := fun z => by
          rw [List.filter_cons, List.filter_cons, List.filter_cons] at hl
          simp [hp, z, hq] at hl
        rw [← hq] at hp hr ⊢
        exact L.2.1 (ih p m1 (by rw [← hq]; exact hp)) (ih r m3 (by rw [← hq]; exact hr))
      · have hr : r = x := by
          rcases List.mem_cons.mp hm with h | h
          · exact absurd h.symm hp
          rcases List.mem_cons.mp h with h | h
          · exact absurd h.symm hq
          exact (List.mem_singleton.mp h).symm
        rw [← hr] at hp hq ⊢
        exact L.2.2 (ih p m1 (by rw [← hr]; exact hp)) (ih q m2 (by rw [← hr]; exact hq))
/-! ### fillings -/
abbrev Fill := List (Thing × Int)
def atF (l : Fill) (t : Thing) : Int := (l.lookup t).getD 0
/-- the things of a chain -/
def thingsOf (c : Cl) (n : Nat) : List Thing := c.ins.map (fun z => ((0 : Int), z)) ++ (List.range n).flatMap fun i : Nat => (c.inner ++ c.outs).map fun z => (((i : Nat) : Int), z)
/-- a filling of the things ts, right at all rows whose things are among them -/
structure FillOk (ts : List Thing) (rows : List Triple) (s a b m : Int) (l : Fill) : Prop where
  keys : l.map (·.1) = ts
  rng : ∀ p ∈ l, 0 ≤ p.2 ∧ p.2 < s
  ok : ∀ tr ∈ rows, (∀ y ∈ tr.things, y ∈ ts) → RowOk (atF l) s a b m tr
theorem fill_at : ∀ {l : Fill} {t : Thing}, t ∈ l.map (·.1) → ∃ v, l.lookup t = some v ∧ (t, v) ∈ l
  | [], t, h => by cases h
  | (u, v) :: l, t, h => by
    by_cases e : t = u
    · subst e
      exact ⟨v, by rw [List.lookup_cons]; simp, List.mem_cons_self⟩
    · rcases List.mem_cons.mp h with h | h
      · exact absurd h e
      · obtain ⟨v', h1, h2⟩ := fill_at h
        refine ⟨v', ?_, List.mem_cons_of_mem _ h2⟩
        rw [List.lookup_cons, beq_false_of_ne e]
        exact h1
theorem fill_no : ∀ {l : Fill} {t : Thing}, t ∉ l.map (·.1) → l.lookup t = none
  | [], t, h => rfl
  | (u, v) :: l, t, h => by
    have e : t ≠ u := fun z => h (by rw [z]; exact List.mem_cons_self)
    rw [List.lookup_cons, beq_false_of_ne e]
    exact fill_no fun z => h (List.mem_cons_of_mem _ z)
theorem fill_snoc : ∀ {l : Fill} {t u : Thing} {v : Int}, u ∈ l.map (·.1) → (l ++ [(t, v)]).lookup u = l.lookup u
  | [], t, u, v, h => by cases h
  | (w, x) :: l, t, u, v, h => by
    rw [List.cons_append, List.lookup_cons, List.lookup_cons]
    by_cases e : u = w
    · rw [e]
      simp
    · rw [beq_false_of_ne e]
      refine fill_snoc ?_
      rcases List.mem_cons.mp h with h | h
      · exact absurd h e
      · exact h
theorem FillOk.snoc {ts : List Thing} {rows : List Triple} {s a b m : Int} {l : Fill} (h : FillOk ts rows s a b m l) {t : Thing} {v : Int} (h0 : 0 ≤ v ∧ v < s) (hr : ∀ tr ∈ rows, t ∈ tr.things → (∀ y ∈ tr.things, y ∈ (l ++ [(t, v)]).map (·.1)) → RowOk (atF (l ++ [(t, v)])) s a b m tr) : FillOk (ts ++ [t]) rows s a b m (l ++ [(t, v)]) := by
  have ek : (l ++ [(t, v)]).map (·.1) = ts ++ [t] := by rw [List.map_append, h.keys]; rfl
  refine ⟨ek, fun p hp => ?_, fun tr htr hy => ?_⟩
  · rcases List.mem_append.mp hp with hp | hp
    · exact h.rng p hp
    · rw [List.mem_singleton.mp hp]
      exact h0
  · by_cases ht : t ∈ tr.things
    · exact hr tr htr ht (by rw [ek]; exact hy)
    · have hy2 : ∀ y ∈ tr.things, y ∈ ts := fun y hy0 => by
        rcases List.mem_append.mp (hy y hy0) with z | z
        · exact z
        · rw [List.mem_singleton.mp z] at hy0
          exact absurd hy0 ht
      have e : ∀ y ∈ tr.things, atF (l ++ [(t, v)]) y = atF l y := fun y hy0 => by
        unfold atF
        rw [fill_snoc (by rw [h.keys]; exact hy2 y hy0)]
      have m1 : tr.1 ∈ tr.things := List.mem_cons_self
      have m2 : tr.2.1 ∈ tr.things := List.mem_cons_of_mem _ List.mem_cons_self
      have m3 : tr.2.2 ∈ tr.things := List.mem_cons_of_mem _ (List.mem_cons_of_mem _ List.mem_cons_self)
      have r := h.ok tr htr hy2
      unfold RowOk at r ⊢
      rw [e _ m1, e _ m2, e _ m3]
      exact r
theorem FillOk.at {ts : List Thing} {rows : List Triple} {s a b m : Int} {l : Fill} (h : FillOk ts rows s a b m l) {t : Thing} (ht : t ∈ ts) : 0 ≤ atF l t ∧ atF l t < s := by
  obtain ⟨v, h1, h2⟩ := fill_at (l := l) (t := t) (by rw [h.keys]; exact ht)
  unfold atF
  rw [h1]
  exact h.rng _ h2
theorem thing_in {c : Cl} {n i : Nat} {z : Str} (ho : c.outs.length = c.ins.length) (hi : i < n) (hz : z ∈ c.ins ++ c.inner ++ c.outs) : thingOf c.ins c.outs (i : Nat) z ∈ thingsOf c n := by
  unfold thingsOf thingOf
  by_cases h : (0 : Int) < (i : Nat) ∧ z ∈ c.ins
  · rw [if_pos h]
    refine List.mem_append_right _ (List.mem_flatMap.mpr ⟨i - 1, List.mem_range.mpr (by omega), List.mem_map.mpr ⟨c.outs.getD (c.ins.idxOf z) "", ?_, ?_⟩⟩)
    · refine List.mem_append_right _ ?_
      have hlt : c.ins.idxOf z < c.outs.length := by rw [ho]; exact (List.getElem?_eq_some_iff.mp (idx_at h.2).1).1
      rw [List.getD_eq_getElem?_getD, List.getElem?_eq_getElem hlt]
      exact List.getElem_mem hlt
    · have : ((i - 1 : Nat) : Int) = (i : Nat) - 1 := by omega
      rw [this]
  · rw [if_neg h]
    by_cases hzi : z ∈ c.ins
    · have : i = 0 := by
        apply Classical.byContradiction
        intro hne
        exact h ⟨by omega, hzi⟩
      subst this
      exact List.mem_append_left _ (List.mem_map.mpr ⟨z, hzi, rfl⟩)
    · refine List.mem_append_right _ (List.mem_flatMap.mpr ⟨i, List.mem_range.mpr hi, List.mem_map.mpr ⟨z, ?_, rfl⟩⟩)
      rw [List.append_assoc] at hz
      exact (List.mem_append.mp hz).resolve_left hzi
theorem rows_in {c : Cl} {n : Nat} (S : Sides c) : ∀ tr ∈ laidOf c.ins c.outs c.rows n, ∀ y ∈ tr.things, y ∈ thingsOf c n := by
  intro tr htr y hy
  unfold laidOf at htr
  obtain ⟨i, hi, h⟩ := List.mem_flatMap.mp htr
  obtain ⟨r, hr, rfl⟩ := List.mem_map.mp h
  have hin := List.mem_range.mp hi
  have R := S.rin r hr
  have r1 := R r.1 List.mem_cons_self
  have r2 := R r.2.1 (List.mem_cons_of_mem _ List.mem_cons_self)
  have r3 := R r.2.2 (List.mem_cons_of_mem _ (List.mem_cons_of_mem _ List.mem_cons_self))
  rcases List.mem_cons.mp hy with e | hy
  · rw [e]
    exact thing_in S.lo hin r1
  rcases List.mem_cons.mp hy with e | hy
  · rw [e]
    exact thing_in S.lo hin r2
  · rw [List.mem_singleton.mp hy]
    exact thing_in S.lo hin r3
/-- the kept things as the law lists them -/
def keptL (c : Cl) (n : Nat) (gone : List Thing) : List Thing := c.begn.map (fun z => ((0 : Int), z)) ++ c.endd.map (fun z => ((n : Int) - 1, z)) ++ (List.range n).flatMap fun i : Nat => (c.stored.filter fun z => !decide ((((i : Nat) : Int), z) ∈ gone)).map fun z => (((i : Nat) : Int), z)
theorem kept_mem {c : Cl} {n : Nat} {gone : List Thing} {t : Thing} (h : t ∈ keptOf c n gone) : t ∈ keptL c n gone := by
  unfold keptOf at h
  unfold keptL
  rcases List.mem_append.mp h with h | h
  · rcases List.mem_append.mp h with h | h
    · exact List.mem_append_right _ h
    · exact List.mem_append_left _ (List.mem_append_left _ h)
  · exact List.mem_append_left _ (List.mem_append_right _ h)
theorem inout {c : Cl} {n i : Nat} {z : Str} (hi : i < n) (hz : z ∈ c.inner ++ c.outs) : (((i : Nat) : Int), z) ∈ thingsOf c n :=
  List.mem_append_right _ (List.mem_flatMap.mpr ⟨i, List.mem_range.mpr hi, List.mem_map.mpr ⟨z, hz, rfl⟩⟩)
theorem kept_in {c : Cl} {n : Nat} {gone : List Thing} (S : Sides c) (hn : 1 ≤ n) : ∀ t ∈ keptL c n gone, t ∈ thingsOf c n := by
  intro t h
  unfold keptL at h
  rcases List.mem_append.mp h with h | h
  · rcases List.mem_append.mp h with h | h
    · obtain ⟨z, hz, rfl⟩ := List.mem_map.mp h
      exact List.mem_append_left _ (List.mem_map.mpr ⟨z, S.b1 z hz, rfl⟩)
    · obtain ⟨z, hz, rfl⟩ := List.mem_map.mp h
      have e : ((n : Int) - 1) = ((n - 1 : Nat) : Int) := by omega
      rw [e]
      exact inout (by omega) (List.mem_append_right _ (S.e1 z hz))
  · obtain ⟨i, hi, h⟩ := List.mem_flatMap.mp h
    obtain ⟨z, hz, rfl⟩ := List.mem_map.mp h
    exact inout (List.mem_range.mp hi) (S.s1 z (List.mem_filter.mp hz).1)
theorem goals_in {c : Cl} {n : Nat} (S : Sides c) : ∀ t ∈ goalsOf c.wanted n, t ∈ thingsOf c n := by
  intro t h
  unfold goalsOf at h
  obtain ⟨i, hi, h⟩ := List.mem_flatMap.mp h
  obtain ⟨z, hz, rfl⟩ := List.mem_map.mp h
  exact inout (List.mem_range.mp hi) (S.w1 z hz)
/-- two right fillings that agree in the kept things agree in what is told -/
theorem fixed_ok {c : Cl} {n : Nat} {gone : List Thing} (S : Sides c) {s a b m : Int} (R : RuleOk s a b) {f g : Fill} (hf : FillOk (thingsOf c n) (laidOf c.ins c.outs c.rows n) s a b m f) (hg : FillOk (thingsOf c n) (laidOf c.ins c.outs c.rows n) s a b m g) (hk : ∀ t ∈ keptL c n gone, atF f t = atF g t) : ∀ t, Told (chain c.ins c.outs c.rows n) (keptOf c n gone) t → atF f t = atF g t := by
  have lc : ∀ tr ∈ chain c.ins c.outs c.rows n, tr ∈ laidOf c.ins c.outs c.rows n := fun tr h => (laid_chain _ _ _ _ tr).mpr h
  refine told_agree R (fun tr h => hf.ok tr (lc tr h) (rows_in S tr (lc tr h))) (fun tr h => hg.ok tr (lc tr h) (rows_in S tr (lc tr h))) (fun tr h y hy => hf.at (rows_in S tr (lc tr h) y hy)) (fun tr h y hy => hg.at (rows_in S tr (lc tr h) y hy)) fun t ht => hk t (kept_mem ht)
theorem things_nodup {c : Cl} {n : Nat} (S : Sides c) : (thingsOf c n).Nodup := by
  have nd := S.nd
  have h1 : (c.inner ++ c.outs).Nodup := by
    rw [List.append_assoc] at nd
    exact (List.nodup_append.mp nd).2.1
  have h2 : c.ins.Nodup := by
    rw [List.append_assoc] at nd
    exact (List.nodup_append.mp nd).1
  have h3 : ∀ x ∈ c.ins, x ∉ c.inner ++ c.outs := fun x hx hy => by
    rw [List.append_assoc] at nd
    exact (List.nodup_append.mp nd).2.2 x hx x hy rfl
  have inj : ∀ (i : Int) (l : List Str), l.Nodup → (l.map fun z => (i, z)).Nodup := fun i l hl => List.Pairwise.map (fun z => (i, z)) (fun a b hne h => hne (by injection h)) hl
  unfold thingsOf
  refine List.nodup_append.mpr ⟨inj 0 _ h2, ?_, ?_⟩
  · induction n with
    | zero => exact List.nodup_nil
    | succ n ih =>
      rw [List.range_succ, List.flatMap_append]
      refine List.nodup_append.mpr ⟨ih, by simpa using inj (n : Nat) _ h1, ?_⟩
      intro x hx y hy e
      obtain ⟨i, hi, hx⟩ := List.mem_flatMap.mp hx
      obtain ⟨z, _, rfl⟩ := List.mem_map.mp hx
      obtain ⟨j, hj, hy⟩ := List.mem_flatMap.mp hy
      obtain ⟨u, _, rfl⟩ := List.mem_map.mp hy
      have hi := List.mem_range.mp hi
      have hj := List.mem_singleton.mp hj
      injection e with e _
      omega
  · intro x hx y hy e
    obtain ⟨z, hz, rfl⟩ := List.mem_map.mp hx
    obtain ⟨j, hj, hy⟩ := List.mem_flatMap.mp hy
    obtain ⟨u, hu, rfl⟩ := List.mem_map.mp hy
    injection e with _ e
    rw [e] at hz
    exact h3 u hz hu
end TB

/-! TB21: _law_made. -/
namespace TB
open PySem L2 PyProof.Rows DL
section
variable {P : Program} {w : World} {K : PySem.W.Frag} {mg : Str → Option Value} {base : Heap} {CK CC dL : Addr}
abbrev s_made : Stmt := top 64
def d_made (K : PySem.W.Frag) (CK CC : Addr) : DSp := fun Ps W => ∃ c, Ps = [fPlan K c] ∧ Good c ∧ W (fCell K CK CC c)
abbrev N_made : List Str := ["_law_plan_here", "_law_sides", "_law_stock", "_law_goals", "_law_opens", "_law_shuts", "_law_sort_here"]
theorem sc_made : FnScope N_made ["_law_plan_here"] (defScope s_made) := ⟨rfl, rfl, rfl, by decide +kernel, rfl, by decide +kernel, by decide +kernel⟩
theorem nd9 : ksP.Nodup := by decide +kernel
theorem ok_made (B : Free mg) (hK : mg "Kind" = some (.ref CK)) (hC : mg "Cell" = some (.ref CC)) (IK : CalI P w K mg base 1 CK 1 ["calm"] (d_k_init CK)) (IC : CalI P w K mg base 6 CC 5 ["stored", "wanted", "begin", "end"] (d_c_init K CK CC)) (h : HasF K mg "_law_made" s_made []) : Cal P w K mg base 8 "_law_made" [] (d_made K CK CC) := by
  refine cal_of h (ps := ["_law_plan_here"]) (fun _ _ _ _ _ _ us hl => match us, hl with | [_], _ => rfl) fun f fd F => ?_
  refine fn_d F sc_made (fun Ps W h => ?_) fun cdv A0 outer s H E0 Ps W hr h => ?_
  · obtain ⟨c, rfl, _⟩ := h
    rfl
  · obtain ⟨c, rfl, G, hW⟩ := h
    have S := G.s
    obtain ⟨f1, fd1, ps1, g1, M1, b1, G1⟩ := IK
    obtain ⟨f2, fd2, ps2, g2, M2, b2, G2⟩ := IC
    refine d_cons <| p_asg (i := 1) (v_lst <| a_cons <| v_callTy call_tplN B.tuple <| a_cons <| v_dk hr <| v_var 0 ⟨_, rfl, _, _, rfl, mk_look 1 nd9 rfl rfl, a_nil ⟨_, oc_tupleN, ?_⟩⟩) sc_made.nd
    refine a_cons <| v_callTy call_tpl B.tuple <| a_cons <| v_dk hr <| v_var 0 ⟨_, rfl, _, _, rfl, mk_look 2 nd9 rfl rfl, a_nil ⟨_, oc_tuple, ?_⟩⟩
    refine a_cons <| v_callTy call_tpl B.tuple <| a_cons <| v_dk hr <| v_var 0 ⟨_, rfl, _, _, rfl, mk_look 4 nd9 rfl rfl, a_nil ⟨_, oc_tuple, ?_⟩⟩
    refine a_cons <| v_callTy call_tpl B.tuple <| a_cons <| v_dk hr <| v_var 0 ⟨_, rfl, _, _, rfl, mk_look 3 nd9 rfl rfl, a_nil ⟨_, oc_tuple, a_nil ⟨by show 4 ≤ 100000; decide, ?_⟩⟩⟩
    show PD _ _ [.fz (fPlan K c), .fz (fLst K [fTupN K (c.ins.map fStr), fNames K c.inner, fNames K c.outs, fTup K (c.rows.map (fRow K))]), .no, .no, .no, .no, .no] _
    refine d_cons ?_
    refine p_par (i := 2) (j := 3) ?_ sc_made.nd rfl
    refine a_cons <| v_callTy call_tpl B.tuple <| a_cons <| v_dk hr <| v_var 0 ⟨_, rfl, _, _, rfl, mk_look 5 nd9 rfl rfl, a_nil ⟨_, oc_tuple, ?_⟩⟩
    refine a_cons <| v_callTy call_tpl B.tuple <| a_cons <| v_dk hr <| v_var 0 ⟨_, rfl, _, _, rfl, mk_look 6 nd9 rfl rfl, a_nil ⟨_, oc_tuple, a_nil ⟨_, _, rfl, ?_⟩⟩⟩
    refine d_cons ?_
    refine p_par (i := 4) (j := 5) ?_ sc_made.nd rfl
    refine a_cons <| v_callTy call_tpl B.tuple <| a_cons <| v_dk hr <| v_var 0 ⟨_, rfl, _, _, rfl, mk_look 7 nd9 rfl rfl, a_nil ⟨_, oc_tuple, ?_⟩⟩
    refine a_cons <| v_callTy call_tpl B.tuple <| a_cons <| v_dk hr <| v_var 0 ⟨_, rfl, _, _, rfl, mk_look 8 nd9 rfl rfl, a_nil ⟨_, oc_tuple, a_nil ⟨_, _, rfl, ?_⟩⟩⟩
    show PD _ _ [.fz (fPlan K c), .fz (fLst K [fTupN K (c.ins.map fStr), fNames K c.inner, fNames K c.outs, fTup K (c.rows.map (fRow K))]), .fz (fNames K c.stored), .fz (fNames K c.wanted), .fz (fNames K c.begn), .fz (fNames K c.endd), .no] _
    refine d_cons <| p_asg (i := 6) (v_makeK M1 G1 hr hK b1 <| a_cons <| v_ix ix_tup <| v_dk hr <| v_var 0 ⟨_, rfl, _, _, rfl, mk_look 0 nd9 rfl rfl, v_int ⟨fStr c.word, o2_ixT rfl, a_nil ?_⟩⟩) sc_made.nd
    refine k_cons <| v_ix ix_tup <| v_dk hr <| v_var 0 ⟨_, rfl, _, _, rfl, mk_look 0 nd9 rfl rfl, v_int ⟨fBl c.calm, o2_ixT rfl, k_nil ⟨rfl, rfl, c.word, c.calm, rfl, S.wd, ?_⟩⟩⟩
    refine d_one <| p_ret <| v_makeK M2 G2 hr hC b2 <| a_cons <| v_var 6 ⟨_, rfl, a_cons <| v_ix ix_list <| v_var 1 ⟨_, rfl, v_int ⟨fTupN K (c.ins.map fStr), o2_ixL rfl, ?_⟩⟩⟩
    refine a_cons <| v_ix ix_list <| v_var 1 ⟨_, rfl, v_int ⟨fNames K c.inner, o2_ixL rfl, ?_⟩⟩
    refine a_cons <| v_ix ix_list <| v_var 1 ⟨_, rfl, v_int ⟨fNames K c.outs, o2_ixL rfl, ?_⟩⟩
    refine a_cons <| v_ix ix_list <| v_var 1 ⟨_, rfl, v_int ⟨fTup K (c.rows.map (fRow K)), o2_ixL rfl, a_nil ?_⟩⟩
    exact k_cons <| v_var 2 ⟨_, rfl, k_cons <| v_var 3 ⟨_, rfl, k_cons <| v_var 4 ⟨_, rfl, k_cons <| v_var 5 ⟨_, rfl, k_nil ⟨rfl, rfl, c, rfl, S, G.chain, hW⟩⟩⟩⟩⟩
end
end TB

/-! TB22: _law_kept. -/
namespace DL
open PySem L2 PyProof.Rows
/-- a + b, a new list of our own -/
theorem n_cat {X : Cx} {Γ : Ctx} {a b : Expr} {pos : Pos} {WO : Own → Ctx → Prop} (h : PV X a Γ fun P Γ1 => PV X b Γ1 fun P' Γ2 => ∃ Ps Qs, P = fLst X.K Ps ∧ P' = fLst X.K Qs ∧ Ps.length + Qs.length ≤ 100000 ∧ WO (oLst (Ps ++ Qs)) Γ2) : PN X (.BinOp a .Add b pos) Γ WO := n_of (pe_op op_cat pe_wp pe_wp) fun B σ F H S =>
  wpE_mono (h B σ F H S) fun v1 H1 ⟨F1, P, Γ1, w, p, ex1, S1⟩ => wpE_mono (w B σ F1 H1 S1) fun v2 H2 ⟨F2, P', Γ2, ⟨Ps, Qs, e1, e2, hl, w2⟩, p', ex2, S2⟩ => by
    subst e1
    subst e2
    obtain ⟨l, xs, r1, r2, r3⟩ := (fLst X.K Ps).up ex2 p
    obtain ⟨k, ys, q1, q2, q3⟩ := p'
    refine ⟨l, k, xs, ys, r1, q1, S2.ex l _ r2, S2.ex k _ q2, Evl.sz_of (by rw [r3.length, q3.length]; exact hl), fun p hp => ?_⟩
    exact ⟨p, _, F2, H2, _, Γ2, rfl, rfl, hp, w2, ⟨_, rfl, r3.append q3⟩, ex1.trans ex2, S2⟩
end DL
namespace TB
open PySem L2 PyProof.Rows DL
section
variable {P : Program} {w : World} {K : PySem.W.Frag} {mg : Str → Option Value} {base : Heap}
abbrev s_lkept : Stmt := top 65
def d_lkept (K : PySem.W.Frag) : DSp := fun Ps W => ∃ c n gone, Ps = [fPlan K c, fInt (n : Nat), fLst K (gone.map (fThing K))] ∧ n ≤ 2 ∧ c.stored.length ≤ 100 ∧ c.begn.length ≤ 100 ∧ c.endd.length ≤ 100 ∧ gone.length ≤ 100 ∧ W (fLst K ((keptL c n gone).map (fThing K)))
abbrev N_lkept : List Str := ["_law_plan_here", "_law_many", "_law_gone", "_law_tag", "_law_found", "_law_lost_here", "_law_at", "_law_thing_here"]
theorem sc_lkept : FnScope N_lkept ["_law_plan_here", "_law_many", "_law_gone"] (defScope s_lkept) := ⟨rfl, rfl, rfl, by decide +kernel, rfl, by decide +kernel, by decide +kernel⟩
def midK (c : Cl) (gone : List Thing) (i : Nat) : List Thing := (List.range i).flatMap fun i : Nat => (c.stored.filter fun z => !decide ((((i : Nat) : Int), z) ∈ gone)).map fun z => (((i : Nat) : Int), z)
theorem mid_len (c : Cl) (gone : List Thing) (i : Nat) : (midK c gone i).length ≤ i * c.stored.length := by
  have := flat_len (fun i : Nat => (c.stored.filter fun z => !decide ((((i : Nat) : Int), z) ∈ gone)).map fun z => (((i : Nat) : Int), z)) c.stored.length (List.range i) fun x _ => by
    rw [List.length_map]
    exact List.length_filter_le _ _
  rw [List.length_range] at this
  exact this
theorem mid_succ (c : Cl) (gone : List Thing) (i : Nat) : midK c gone (i + 1) = midK c gone i ++ (c.stored.filter fun z => !decide ((((i : Nat) : Int), z) ∈ gone)).map fun z => (((i : Nat) : Int), z) := by
  unfold midK
  rw [List.range_succ, List.flatMap_append]
  simp
theorem ok_lkept (B : Free mg) (h : HasF K mg "_law_kept" s_lkept []) : Cal P w K mg base 1 "_law_kept" [] (d_lkept K) := by
  refine cal_of h (ps := ["_law_plan_here", "_law_many", "_law_gone"]) (fun _ _ _ _ _ _ us hl => match us, hl with | [_, _, _], _ => rfl) fun f fd F => ?_
  refine fn_d F sc_lkept (fun Ps W h => ?_) fun cdv A0 outer s H E0 Ps W hr h => ?_
  · obtain ⟨c, n, gone, rfl, _⟩ := h
    rfl
  · obtain ⟨c, n, gone, rfl, hn, l1, l2, l3, l4, hW⟩ := h
    have two : ∀ a b : Fct, [a, b].length ≤ 100000 := fun _ _ => by show 2 ≤ 100000; decide
    refine d_cons <| p_asgO (i := 4) (n_cat <| v_lc (own := [("_law_tag", 3)]) (j := 3) (blkOk_by (N := N_lkept) (sc := defScope s_lkept) (by decide +kernel)) sc_lkept.nd (by decide) (fun _ _ _ _ _ => pgn 3 sc_lkept.nd) (i_list <| v_dk hr <| v_var 0 ⟨_, rfl, _, _, rfl, mk_look 7 nd9 rfl rfl, _, rfl, ?_⟩)) sc_lkept.nd
    refine lcw_map (j := 3) (by decide) c.begn fStr (fun z => fThing K ((0 : Int), z)) (by omega) (fun z hz s H C1 cl fp => v_tup <| a_cons <| v_int <| a_cons <| v_var 3 ⟨_, rfl, a_nil ⟨two _ _, rfl, rfl⟩⟩) ?_
    refine v_lc (own := [("_law_tag", 3)]) (j := 3) (blkOk_by (N := N_lkept) (sc := defScope s_lkept) (by decide +kernel)) sc_lkept.nd (by decide) (fun _ _ _ _ _ => pgn 3 sc_lkept.nd) (i_list <| v_dk hr <| v_var 0 ⟨_, rfl, _, _, rfl, mk_look 8 nd9 rfl rfl, _, rfl, ?_⟩)
    refine lcw_map (j := 3) (by decide) c.endd fStr (fun z => fThing K ((n : Int) - 1, z)) (by omega) (fun z hz s H C1 cl fp => v_tup <| a_cons <| v_op op_sub <| v_var 1 ⟨_, rfl, v_int ⟨_, o2_I0, a_cons <| v_var 3 ⟨_, rfl, a_nil ⟨two _ _, rfl, rfl⟩⟩⟩⟩) ?_
    refine ⟨_, _, rfl, rfl, by rw [List.length_map, List.length_map]; omega, ?_⟩
    have e0 : c.begn.map (fun z => fThing K ((0 : Int), z)) ++ c.endd.map (fun z => fThing K ((n : Int) - 1, z)) = (c.begn.map (fun z => ((0 : Int), z)) ++ c.endd.map (fun z => ((n : Int) - 1, z))).map (fThing K) := by
      rw [List.map_append, List.map_map, List.map_map]
      rfl
    rw [e0]
    have hL0 : (c.begn.map (fun z => ((0 : Int), z)) ++ c.endd.map (fun z => ((n : Int) - 1, z))).length ≤ 200 := by
      rw [List.length_append, List.length_map, List.length_map]
      omega
    have hW : W (fLst K ((c.begn.map (fun z => ((0 : Int), z)) ++ c.endd.map (fun z => ((n : Int) - 1, z)) ++ midK c gone n).map (fThing K))) := hW
    generalize c.begn.map (fun z => ((0 : Int), z)) ++ c.endd.map (fun z => ((n : Int) - 1, z)) = L0 at hL0 hW
    show PD _ _ [.fz (fPlan K c), .fz (fInt (n : Nat)), .fz (fLst K (gone.map (fThing K))), .no, .ow (oLst (L0.map (fThing K))), .no, .no, .no] _
    refine d_cons <| p_asg (i := 5) (v_callTy (call_dictPN rfl hr) B.dict <| a_cons <| v_lc (own := [("_law_thing_here", 7)]) (j := 7) (blkOk_by (N := N_lkept) (sc := defScope s_lkept) (by decide +kernel)) sc_lkept.nd (by decide) (fun _ _ _ _ _ => pgn 7 sc_lkept.nd) (i_list <| v_var 2 ⟨_, rfl, _, rfl, ?_⟩)) sc_lkept.nd
    refine lcw_map (j := 7) (by decide) gone (fThing K) (fun t => fTup K [fThing K t, fBl true]) (by omega) (fun t ht s H C1 cl fp => v_tup <| a_cons <| v_var 7 ⟨_, rfl, a_cons <| v_bl <| a_nil ⟨two _ _, rfl, rfl⟩⟩) ?_
    have eg : gone.map (fun t => fTup K [fThing K t, fBl true]) = (gone.map fun t => ((kThing t, fThing K t, fBl true) : Trip)).map fun x => fTup K [x.2.1, x.2.2] := by
      rw [List.map_map]
      rfl
    rw [eg]
    refine a_nil ⟨_, oc_dictPN fun x hx => ?_, ?_⟩
    · obtain ⟨t, _, rfl⟩ := List.mem_map.mp hx
      exact keyF_thing
    have ed : DL.putF (gone.map fun t => ((kThing t, fThing K t, fBl true) : Trip)) = gone.foldl (fun kvs x => ptF kvs (kThing x) (fBl true)) [] := by
      unfold DL.putF
      rw [List.foldl_map]
    rw [ed]
    have hin : ∀ t : Thing, (lkF (gone.foldl (fun kvs x => ptF kvs (kThing x) (fBl true)) []) (kThing t)).isSome = decide (t ∈ gone) := fun t => lk_true
    generalize gone.foldl (fun kvs x => ptF kvs (kThing x) (fBl true)) [] = kvs at hin
    show PD _ _ [.fz (fPlan K c), .fz (fInt (n : Nat)), .fz (fLst K (gone.map (fThing K))), .no, .ow (oLst (L0.map (fThing K))), .fz (fDN P w K kvs), .no, .no] _
    refine d_cons <| p_for (pgn 6 sc_lkept.nd) <| i_range B.range <| v_var 1 ⟨_, rfl, (n : Nat), rfl, by omega, by omega, ?_⟩
    rw [Int.toNat_natCast]
    refine ⟨fun i Γ => ∃ s3 s6, Γ = [.fz (fPlan K c), .fz (fInt (n : Nat)), .fz (fLst K (gone.map (fThing K))), s3, .ow (oLst ((L0 ++ midK c gone i).map (fThing K))), .fz (fDN P w K kvs), s6, .no], ⟨.no, .no, by unfold midK; simp⟩, ?_, ?_⟩
    · rintro i P0 Γi hP ⟨s3, s6, rfl⟩
      obtain ⟨i', hi', rfl⟩ := map_at hP
      have hi2 := List.getElem?_eq_some_iff.mp hi'
      have hil : i < n := by
        have := hi2.1
        rw [List.length_range] at this
        exact this
      have ei : i' = i := by
        have := hi2.2
        rw [List.getElem_range] at this
        exact this.symm
      subst ei
      refine dt_name ?_
      have em := mid_succ c gone i'
      have hM0 : (L0 ++ midK c gone i').length ≤ 500 := by
        have := mid_len c gone i'
        have := Nat.mul_le_mul (by omega : i' ≤ 2) l1
        rw [List.length_append]
        omega
      have em2 : L0 ++ midK c gone (i' + 1) = (L0 ++ midK c gone i') ++ (c.stored.filter fun z => !decide ((((i' : Nat) : Int), z) ∈ gone)).map fun z => (((i' : Nat) : Int), z) := by rw [em, List.append_assoc]
      generalize L0 ++ midK c gone i' = M at hM0 em2
      show PD _ _ [.fz (fPlan K c), .fz (fInt (n : Nat)), .fz (fLst K (gone.map (fThing K))), s3, .ow (oLst (M.map (fThing K))), .fz (fDN P w K kvs), .fz (fInt (i' : Nat)), .no] _
      refine d_one <| p_for (pgn 3 sc_lkept.nd) <| i_list <| v_dk hr <| v_var 0 ⟨_, rfl, _, _, rfl, mk_look 5 nd9 rfl rfl, _, rfl, ?_⟩
      refine ⟨fun j Γ => ∃ s3, Γ = [.fz (fPlan K c), .fz (fInt (n : Nat)), .fz (fLst K (gone.map (fThing K))), s3, .ow (oLst ((M ++ ((c.stored.take j).filter fun z => !decide ((((i' : Nat) : Int), z) ∈ gone)).map fun z => (((i' : Nat) : Int), z)).map (fThing K))), .fz (fDN P w K kvs), .fz (fInt (i' : Nat)), .no], ⟨s3, by simp⟩, ?_, ?_⟩
      · rintro j P1 Γj hP1 ⟨s3, rfl⟩
        obtain ⟨z, hz0, rfl⟩ := map_at hP1
        have et : c.stored.take (j + 1) = c.stored.take j ++ [z] := by
          rw [List.take_add_one, hz0]
          rfl
        refine dt_name ?_
        have hM2 : (M ++ ((c.stored.take j).filter fun z => !decide ((((i' : Nat) : Int), z) ∈ gone)).map fun z => (((i' : Nat) : Int), z)).length ≤ 700 := by
          rw [List.length_append, List.length_map]
          have := List.length_filter_le (fun z => !decide ((((i' : Nat) : Int), z) ∈ gone)) (c.stored.take j)
          rw [List.length_take] at this
          omega
        have eJ : M ++ ((c.stored.take (j + 1)).filter fun z => !decide ((((i' : Nat) : Int), z) ∈ gone)).map (fun z => (((i' : Nat) : Int), z)) = (M ++ ((c.stored.take j).filter fun z => !decide ((((i' : Nat) : Int), z) ∈ gone)).map (fun z => (((i' : Nat) : Int), z))) ++ ([z].filter fun z => !decide ((((i' : Nat) : Int), z) ∈ gone)).map (fun z => (((i' : Nat) : Int), z)) := by
          rw [et, List.filter_append, List.map_append, List.append_assoc]
        generalize M ++ ((c.stored.take j).filter fun z => !decide ((((i' : Nat) : Int), z) ∈ gone)).map (fun z => (((i' : Nat) : Int), z)) = M2 at hM2 eJ
        show PD _ _ [.fz (fPlan K c), .fz (fInt (n : Nat)), .fz (fLst K (gone.map (fThing K))), .fz (fStr z), .ow (oLst (M2.map (fThing K))), .fz (fDN P w K kvs), .fz (fInt (i' : Nat)), .no] _
        refine d_one <| p_if <| b_cmp (op_notInN hr) <| v_tup <| a_cons <| v_var 6 ⟨_, rfl, a_cons <| v_var 3 ⟨_, rfl, a_nil ⟨two _ _, v_var 5 ⟨_, rfl, _, o2_notInN (keyF_thing (t := (((i' : Nat) : Int), z))), ?_⟩⟩⟩⟩
        rw [hin]
        by_cases hm : (((i' : Nat) : Int), z) ∈ gone
        · rw [decide_eq_true hm]
          refine iteF <| d_nil ⟨.fz (fStr z), ?_⟩
          have ef : [z].filter (fun z => !decide ((((i' : Nat) : Int), z) ∈ gone)) = [] := by
            rw [List.filter_cons, decide_eq_true hm]
            rfl
          rw [eJ, ef, List.map_nil, List.append_nil]
        · rw [decide_eq_false hm]
          refine iteT <| d_one <| p_append 4 rfl <| v_tup <| a_cons <| v_var 6 ⟨_, rfl, a_cons <| v_var 3 ⟨_, rfl, a_nil ⟨two _ _, M2.map (fThing K), rfl, by rw [List.length_map]; omega, .fz (fStr z), ?_⟩⟩⟩
          have ef : [z].filter (fun z => !decide ((((i' : Nat) : Int), z) ∈ gone)) = [z] := by
            rw [List.filter_cons, decide_eq_false hm]
            rfl
          rw [eJ, ef, List.map_append]
          rfl
      · rintro Γn ⟨s3, rfl⟩
        rw [List.length_map, List.take_length]
        refine ⟨s3, .fz (fInt (i' : Nat)), ?_⟩
        rw [em2]
    · rintro Γn ⟨s3, s6, rfl⟩
      rw [List.length_map, List.length_range]
      refine PD.freeze (i := 4) rfl ?_
      exact d_one <| p_ret <| PV.cast <| v_var 4 ⟨_, rfl, _, fun v F => oLst_fz, hW⟩
end
end TB

/-! TB23: _law_rule. -/
namespace TB
open PySem L2 PyProof.Rows DL
section
variable {P : Program} {w : World} {K : PySem.W.Frag} {mg : Str → Option Value} {base : Heap}
theorem inL_dec {s : Str} {l : List Str} : Op2 (rIn K false) (fStr s) (fNmL K l) (fBl (decide (s ∈ l))) := o2_inL (neg := false)
theorem dec_eq {p : Prop} (i j : Decidable p) : @decide p i = @decide p j := by
  cases i <;> cases j <;> first | rfl | contradiction
theorem inTT_dec {x : Thing} {xs : List Thing} : Op2 (rInT K Thing false) (fThing K x) (fTup K (xs.map (fThing K))) (fBl (decide (x ∈ xs))) := by
  have h := o2_inTT (K := K) (neg := false) (f := fThing K) (xs := xs) (tyd_thing x) tyd_thing
  rw [if_neg (by decide)] at h
  rw [dec_eq (p := x ∈ xs) _ _]
  exact h
theorem ninTT_dec {x : Thing} {xs : List Thing} : Op2 (rInT K Thing true) (fThing K x) (fTup K (xs.map (fThing K))) (fBl (decide (x ∉ xs))) := by
  have h := o2_inTT (K := K) (neg := true) (f := fThing K) (xs := xs) (tyd_thing x) tyd_thing
  rw [if_pos rfl] at h
  rw [dec_eq (p := x ∉ xs) _ _]
  exact h
theorem ninLT_dec {x : Thing} {xs : List Thing} : Op2 (rInT K Thing true) (fThing K x) (fLst K (xs.map (fThing K))) (fBl (decide (x ∉ xs))) := by
  have h := o2_inLT (K := K) (neg := true) (f := fThing K) (xs := xs) (tyd_thing x) tyd_thing
  rw [if_pos rfl] at h
  rw [dec_eq (p := x ∉ xs) _ _]
  exact h
def fRule (K : PySem.W.Frag) (s a b m : Int) : Fct := fTup K [fInt s, fInt a, fInt b, fInt m]
abbrev s_rule : Stmt := top 66
def d_rule (K : PySem.W.Frag) : DSp := fun Ps W => ∃ z c, Ps = [fSrc, fSort K z c] ∧ ∀ s a b m : Int, RuleOk s a b → W (fRule K s a b m)
abbrev N_rule : List Str := ["_law_source_here", "_law_sort_here", "_law_size", "_law_one", "_law_two", "_law_more"]
theorem sc_rule : FnScope N_rule ["_law_source_here", "_law_sort_here"] (defScope s_rule) := ⟨rfl, rfl, rfl, by decide +kernel, rfl, by decide +kernel, by decide +kernel⟩
theorem ok_rule (CD : Cal P w K mg base 1 "_law_draw" [] d_draw) (h : HasF K mg "_law_rule" s_rule []) : Cal P w K mg base 2 "_law_rule" [] (d_rule K) := by
  refine cal_of h (ps := ["_law_source_here", "_law_sort_here"]) (fun _ _ _ _ _ _ us hl => match us, hl with | [_, _], _ => rfl) fun f fd F => ?_
  refine fn_d F sc_rule (fun Ps W h => ?_) fun cdv A0 outer s H E0 Ps W hr h => ?_
  · obtain ⟨z, c, rfl, _⟩ := h
    rfl
  · obtain ⟨z, c, rfl, hW⟩ := h
    have l3 : ∀ a b c : Fct, [a, b, c].length ≤ 100000 := fun _ _ _ => by show 3 ≤ 100000; decide
    have l4 : ∀ a b c d : Fct, [a, b, c, d].length ≤ 100000 := fun _ _ _ _ => by show 4 ≤ 100000; decide
    have fin : ∀ sz a b m : Int, RuleOk sz a b → PD (cxOf CX0 P w K mg base N_rule "_law_rule" (defScope s_rule) f cdv A0 outer s H E0).nox ((defBody s_rule).drop 5) [.fz fSrc, .fz (fSort K z c), .fz (fInt sz), .fz (fInt a), .fz (fInt b), .fz (fInt m)] { nx := fun _ => W fNon, rt := W } := by
      intro sz a b m R
      refine d_one <| p_ret <| v_tup <| a_cons <| v_var 2 ⟨_, rfl, a_cons <| v_var 3 ⟨_, rfl, a_cons <| v_if <| b_cmp op_eq <| v_ix ix_tup <| v_var 1 ⟨_, rfl, v_int ⟨fStr z, o2_ixT rfl, v_str ⟨_, o2_eq rfl, ?_⟩⟩⟩⟩⟩
      split
      · exact v_var 3 ⟨_, rfl, a_cons <| v_var 5 ⟨_, rfl, a_nil ⟨l4 _ _ _ _, hW sz a a m ⟨R.hs, R.ha, R.ha⟩⟩⟩⟩
      · exact v_var 4 ⟨_, rfl, a_cons <| v_var 5 ⟨_, rfl, a_nil ⟨l4 _ _ _ _, hW sz a b m R⟩⟩⟩
    have fin2 : ∀ sz a b m : Int, RuleOk sz a b → PD (cxOf CX0 P w K mg base N_rule "_law_rule" (defScope s_rule) f cdv A0 outer s H E0).nox ((defBody s_rule).drop 4) [.fz fSrc, .fz (fSort K z c), .fz (fInt sz), .fz (fInt a), .fz (fInt b), .fz (fInt m)] { nx := fun _ => W fNon, rt := W } := by
      intro sz a b m R
      have hs := R.hs
      refine d_cons <| p_if <| b_cmp op_in_seq <| v_ix ix_tup <| v_var 1 ⟨_, rfl, v_int ⟨fStr z, o2_ixT rfl, v_lst <| a_cons <| v_str <| a_cons <| v_str <| a_cons <| v_str <| a_nil ⟨l3 _ _ _, _, inL_dec (l := ["back", "round", "all"]), ?_⟩⟩⟩
      split
      · exact d_one <| p_asg (i := 4) (v_op op_sub <| v_var 2 ⟨_, rfl, v_int ⟨_, o2_I0, fin sz a (sz - 1) m ⟨R.hs, R.ha, by omega⟩⟩⟩) sc_rule.nd
      · exact d_nil (fin sz a b m R)
    have fin1 : ∀ sz a b m : Int, RuleOk sz a b → PD (cxOf CX0 P w K mg base N_rule "_law_rule" (defScope s_rule) f cdv A0 outer s H E0).nox ((defBody s_rule).drop 3) [.fz fSrc, .fz (fSort K z c), .fz (fInt sz), .fz (fInt a), .fz (fInt b), .fz (fInt m)] { nx := fun _ => W fNon, rt := W } := by
      intro sz a b m R
      have hs := R.hs
      refine d_cons <| p_if <| b_cmp op_in_seq <| v_ix ix_tup <| v_var 1 ⟨_, rfl, v_int ⟨fStr z, o2_ixT rfl, v_lst <| a_cons <| v_str <| a_cons <| v_str <| a_cons <| v_str <| a_nil ⟨l3 _ _ _, _, inL_dec (l := ["front", "round", "all"]), ?_⟩⟩⟩
      split
      · exact d_one <| p_asg (i := 3) (v_op op_sub <| v_var 2 ⟨_, rfl, v_int ⟨_, o2_I0, fin2 sz (sz - 1) b m ⟨R.hs, by omega, R.hb⟩⟩⟩) sc_rule.nd
      · exact d_nil (fin2 sz a b m R)
    refine d_cons <| p_asg (i := 2) (v_op op_add <| v_int <| v_call CD hr <| a_cons <| v_var 0 ⟨_, rfl, a_cons <| v_int <| a_nil ⟨2, rfl, by decide, by decide, fun k k0 k1 => ⟨_, o2_I0, ?_⟩⟩⟩) sc_rule.nd
    obtain ⟨sz, hsz, hs⟩ : ∃ sz : Int, 2 + k = sz ∧ (sz = 2 ∨ sz = 3) := ⟨_, rfl, by omega⟩
    show PD _ _ [.fz fSrc, .fz (fSort K z c), .fz (fInt (2 + k)), .no, .no, .no] _
    rw [hsz]
    refine d_cons ?_
    refine p_par3 (i := 3) (j := 4) (l := 5) ?_ sc_rule.nd rfl
    refine a_cons <| v_op op_add <| v_int <| v_call CD hr <| a_cons <| v_var 0 ⟨_, rfl, a_cons <| v_op op_sub <| v_var 2 ⟨_, rfl, v_int ⟨_, o2_I0, a_nil ⟨sz - 1, rfl, by omega, by omega, fun a a0 a1 => ⟨_, o2_I0, ?_⟩⟩⟩⟩⟩
    refine a_cons <| v_op op_add <| v_int <| v_call CD hr <| a_cons <| v_var 0 ⟨_, rfl, a_cons <| v_op op_sub <| v_var 2 ⟨_, rfl, v_int ⟨_, o2_I0, a_nil ⟨sz - 1, rfl, by omega, by omega, fun b b0 b1 => ⟨_, o2_I0, ?_⟩⟩⟩⟩⟩
    refine a_cons <| v_call CD hr <| a_cons <| v_var 0 ⟨_, rfl, a_cons <| v_var 2 ⟨_, rfl, a_nil ⟨sz, rfl, by omega, by omega, fun m m0 m1 => a_nil ⟨_, _, _, rfl, ?_⟩⟩⟩⟩
    show PD _ _ [.fz fSrc, .fz (fSort K z c), .fz (fInt sz), .fz (fInt (1 + a)), .fz (fInt (1 + b)), .fz (fInt m)] _
    refine d_cons <| p_if <| b_val <| v_ix ix_tup <| v_var 1 ⟨_, rfl, v_int ⟨fBl c, o2_ixT rfl, c, rfl, ?_⟩⟩
    cases c with
    | true =>
      refine iteT <| d_one <| p_ret <| v_tup <| a_cons <| v_int <| a_cons <| v_int <| a_cons <| v_int <| a_cons <| v_int <| a_nil ⟨l4 _ _ _ _, hW 3 2 2 0 ⟨.inr rfl, by decide, by decide⟩⟩
    | false =>
      exact iteF <| d_nil <| fin1 sz (1 + a) (1 + b) m ⟨hs, by omega, by omega⟩
end
end TB

/-! TB24: _law_holds. -/
namespace TB
open PySem L2 PyProof.Rows DL
def kvF (l : Fill) : List KF := l.map fun p => (kThing p.1, fInt p.2)
def fFill (P : Program) (w : World) (K : PySem.W.Frag) (l : Fill) : Fct := fDN P w K (kvF l)
theorem lk_kvF {t : Thing} : ∀ l : Fill, lkF (kvF l) (kThing t) = (l.lookup t).map fInt
  | [] => rfl
  | (u, v) :: l => by
    show lkF ((kThing u, fInt v) :: kvF l) (kThing t) = _
    rw [lkF_cons, lk_kvF l, List.lookup_cons]
    by_cases e : t = u
    · subst e
      simp
    · rw [if_neg fun z => e (kThing_inj z).symm, beq_false_of_ne e]
theorem lk_at {l : Fill} {t : Thing} (h : t ∈ l.map (·.1)) : lkF (kvF l) (kThing t) = some (fInt (atF l t)) := by
  obtain ⟨v, h1, _⟩ := fill_at h
  rw [lk_kvF, h1]
  unfold atF
  rw [h1]
  rfl
theorem lk_in {l : Fill} {t : Thing} : (lkF (kvF l) (kThing t)).isSome = decide (t ∈ l.map (·.1)) := by
  by_cases h : t ∈ l.map (·.1)
  · rw [lk_at h, decide_eq_true h]
    rfl
  · rw [lk_kvF, fill_no h, decide_eq_false h]
    rfl
theorem filt_nil {α : Type} {l : List α} {k : α → Bool} (h : l.filter k = []) : ∀ x ∈ l, k x = false := fun x hx => by
  cases e : k x with
  | false => rfl
  | true =>
    have := List.mem_filter.mpr ⟨hx, e⟩
    rw [h] at this
    cases this
section
variable {P : Program} {w : World} {K : PySem.W.Frag} {mg : Str → Option Value} {base : Heap}
abbrev s_holds : Stmt := top 68
def d_holds (P : Program) (w : World) (K : PySem.W.Frag) : DSp := fun Ps W => ∃ (l : Fill) (rows : List Triple) (t : Thing) (s a b m : Int), Ps = [fFill P w K l, fLst K (rows.map (fTriple K)), fThing K t, fRule K s a b m] ∧ RuleOk s a b ∧ ∀ k : Bool, (k = true → ∀ tr ∈ rows, t ∈ tr.things → (∀ y ∈ tr.things, y ∈ l.map (·.1)) → RowOk (atF l) s a b m tr) → W (fBl k)
abbrev N_holds : List Str := ["_law_filling", "_law_rows", "_law_thing_here", "_law_rule_here", "_law_row_here", "_law_worth", "_law_mate"]
theorem sc_holds : FnScope N_holds ["_law_filling", "_law_rows", "_law_thing_here", "_law_rule_here"] (defScope s_holds) := ⟨rfl, rfl, rfl, by decide +kernel, rfl, by decide +kernel, by decide +kernel⟩
theorem ok_holds (B : Free mg) (h : HasF K mg "_law_holds" s_holds []) : Cal P w K mg base 1 "_law_holds" [] (d_holds P w K) := by
  refine cal_of h (ps := ["_law_filling", "_law_rows", "_law_thing_here", "_law_rule_here"]) (fun _ _ _ _ _ _ us hl => match us, hl with | [_, _, _, _], _ => rfl) fun f fd F => ?_
  refine fn_d F sc_holds (fun Ps W h => ?_) fun cdv A0 outer s H E0 Ps W hr h => ?_
  · obtain ⟨l, rows, t, s, a, b, m, rfl, _⟩ := h
    rfl
  · obtain ⟨l, rows, t, sz, a, b, m, rfl, R, hW⟩ := h
    have hs := R.hs
    have ha := R.ha
    have hb := R.hb
    refine d_cons <| p_for (pgn 4 sc_holds.nd) <| i_list <| v_var 1 ⟨_, rfl, _, rfl, ?_⟩
    refine ⟨fun i Γ => ∃ s4 s5, Γ = [.fz (fFill P w K l), .fz (fLst K (rows.map (fTriple K))), .fz (fThing K t), .fz (fRule K sz a b m), s4, s5, .no] ∧ ∀ tr ∈ rows.take i, t ∈ tr.things → (∀ y ∈ tr.things, y ∈ l.map (·.1)) → RowOk (atF l) sz a b m tr, ⟨_, _, rfl, fun tr h => by simp at h⟩, ?_, ?_⟩
    · rintro i P0 Γi hP ⟨s4, s5, rfl, hi⟩
      obtain ⟨tr, htr, rfl⟩ := map_at hP
      have et : rows.take (i + 1) = rows.take i ++ [tr] := by
        rw [List.take_add_one, htr]
        rfl
      have next : (t ∈ tr.things → (∀ y ∈ tr.things, y ∈ l.map (·.1)) → RowOk (atF l) sz a b m tr) → ∀ tr ∈ rows.take (i + 1), t ∈ tr.things → (∀ y ∈ tr.things, y ∈ l.map (·.1)) → RowOk (atF l) sz a b m tr := fun h tr' h' => by
        rw [et] at h'
        rcases List.mem_append.mp h' with h' | h'
        · exact hi tr' h'
        · rw [List.mem_singleton.mp h']
          exact h
      refine dt_name ?_
      show PD _ _ [.fz (fFill P w K l), .fz (fLst K (rows.map (fTriple K))), .fz (fThing K t), .fz (fRule K sz a b m), .fz (fTriple K tr), s5, .no] _
      refine d_one <| p_if <| b_w <| w_and <| b_cmp (op_inT (α := Thing) hr (by decide)) <| v_var 2 ⟨_, rfl, v_var 4 ⟨_, rfl, _, inTT_dec, ?_⟩⟩
      by_cases ht : t ∈ tr.things
      · rw [decide_eq_true ht]
        refine iteT <| w_and1 <| b_cmp (op_eqT (α := List Thing) hr (by decide)) <| v_lc (own := [("_law_mate", 6)]) (j := 6) (blkOk_by (N := N_holds) (sc := defScope s_holds) (by decide +kernel)) sc_holds.nd (by decide) (fun _ _ _ _ _ => pgn 6 sc_holds.nd) (i_tup <| v_var 4 ⟨_, rfl, _, rfl, ?_⟩)
        refine lcw_filter (j := 6) (by decide) tr.things (fThing K) (fThing K) (fun y => !decide (y ∈ l.map (·.1))) (by show 3 ≤ 50000; decide) (fun y hy s H C1 cl fp => ?_) (fun y hy hk s H C1 cl fp => v_var 6 ⟨_, rfl, rfl, rfl⟩) ?_
        · refine b_cmp (op_notInN hr) <| v_var 6 ⟨_, rfl, v_var 0 ⟨_, rfl, _, o2_notInN keyF_thing, ?_, rfl⟩⟩
          rw [lk_in]
        refine v_lst <| a_nil ⟨Nat.zero_le _, _, o2_eqT (tyd_lst tyd_thing) (tyd_lst (xs := []) tyd_thing), ?_⟩
        by_cases hall : tr.things.filter (fun y => !decide (y ∈ l.map (·.1))) = []
        · rw [decide_eq_true hall]
          have hin : ∀ y ∈ tr.things, y ∈ l.map (·.1) := fun y hy => by
            have := filt_nil hall y hy
            by_cases e : y ∈ l.map (·.1)
            · exact e
            · rw [decide_eq_false e] at this
              cases this
          have q0 : atI (tr.things.map (fThing K)) 0 = some (fThing K tr.1) := rfl
          have q1 : atI (tr.things.map (fThing K)) 1 = some (fThing K tr.2.1) := rfl
          have q2 : atI (tr.things.map (fThing K)) 2 = some (fThing K tr.2.2) := rfl
          have g0 := lk_at (hin tr.1 List.mem_cons_self)
          have g1 := lk_at (hin tr.2.1 (List.mem_cons_of_mem _ List.mem_cons_self))
          have g2 := lk_at (hin tr.2.2 (List.mem_cons_of_mem _ (List.mem_cons_of_mem _ List.mem_cons_self)))
          refine iteT ?_
          refine d_cons <| p_asg (i := 5) (v_op op_add <| v_op op_mul <| v_ix ix_tup <| v_var 3 ⟨_, rfl, v_int ⟨fInt a, o2_ixT rfl, v_ix (ix_N hr) <| v_var 0 ⟨_, rfl, v_ix ix_tup <| v_var 4 ⟨_, rfl, v_int ⟨_, o2_ixT q0, _, o2_getN keyF_thing g0, _, o2_I (Or.inl ?_), ?_⟩⟩⟩⟩⟩) sc_holds.nd
          · exact ⟨by omega, by omega⟩
          refine v_ix ix_tup <| v_var 3 ⟨_, rfl, v_int ⟨fInt m, o2_ixT rfl, _, o2_I0, ?_⟩⟩
          refine d_cons <| p_asg (i := 5) (v_op op_add <| v_var 5 ⟨_, rfl, v_op op_mul <| v_ix ix_tup <| v_var 3 ⟨_, rfl, v_int ⟨fInt b, o2_ixT rfl, v_ix (ix_N hr) <| v_var 0 ⟨_, rfl, v_ix ix_tup <| v_var 4 ⟨_, rfl, v_int ⟨_, o2_ixT q1, _, o2_getN keyF_thing g1, _, o2_I (Or.inl ?_), _, o2_I0, ?_⟩⟩⟩⟩⟩⟩) sc_holds.nd
          · exact ⟨by omega, by omega⟩
          refine d_one <| p_if <| b_cmp op_ne <| v_op op_mod <| v_callTy call_i1 B.int <| a_cons <| v_var 5 ⟨_, rfl, a_nil ⟨_, oc_int, v_ix ix_tup <| v_var 3 ⟨_, rfl, v_int ⟨fInt sz, o2_ixT rfl, _, o2_I ?_, ?_⟩⟩⟩⟩
          · show (0 : Int) < sz
            omega
          refine v_ix (ix_N hr) <| v_var 0 ⟨_, rfl, v_ix ix_tup <| v_var 4 ⟨_, rfl, v_int ⟨_, o2_ixT q2, _, o2_getN keyF_thing g2, _, o2_ne rfl, ?_⟩⟩⟩
          by_cases e : (a * atF l tr.1 + m + b * atF l tr.2.1) % sz = atF l tr.2.2
          · rw [decide_eq_true (by rw [e])]
            exact iteF <| d_nil ⟨_, _, rfl, next fun _ _ => e⟩
          · rw [decide_eq_false (fun z => e (by injection z))]
            exact iteT <| d_one <| p_ret <| v_bl <| hW false fun z => nomatch z
        · rw [decide_eq_false hall]
          refine iteF <| d_nil ⟨_, _, rfl, next fun _ hin => absurd (List.filter_eq_nil_iff.mpr fun y hy z => ?_) hall⟩
          rw [decide_eq_true (hin y hy)] at z
          cases z
      · rw [decide_eq_false ht]
        exact iteF <| iteF <| d_nil ⟨_, _, rfl, next fun h => absurd h ht⟩
    · rintro Γn ⟨s4, s5, rfl, hi⟩
      rw [List.length_map, List.take_length] at hi
      exact d_one <| p_ret <| v_bl <| hW true fun _ => hi
end
end TB

/-! TB25: _law_fillings. -/
namespace TB
open PySem L2 PyProof.Rows DL
theorem pt_kvF {l : Fill} {t : Thing} {v : Int} (h : t ∉ l.map (·.1)) : ptF (kvF l) (kThing t) (fInt v) = kvF (l ++ [(t, v)]) := by
  unfold ptF
  rw [lk_in, decide_eq_false h, if_neg (by decide)]
  unfold kvF
  rw [List.map_append]
  rfl
def tripF (K : PySem.W.Frag) (p : Thing × Int) : Trip := (kThing p.1, fThing K p.1, fInt p.2)
theorem fold_kvF {K : PySem.W.Frag} : ∀ (l acc : Fill), ((acc ++ l).map (·.1)).Nodup → (l.map (tripF K)).foldl (fun kvs x => ptF kvs x.1 x.2.2) (kvF acc) = kvF (acc ++ l)
  | [], acc, h => by simp
  | p :: l, acc, h => by
    rw [List.map_cons, List.foldl_cons]
    have hp : p.1 ∉ acc.map (·.1) := fun z => by
      rw [List.map_append, List.map_cons] at h
      exact (List.nodup_append.mp h).2.2 p.1 z p.1 List.mem_cons_self rfl
    show List.foldl _ (ptF (kvF acc) (kThing p.1) (fInt p.2)) _ = _
    have e : acc ++ p :: l = (acc ++ [p]) ++ l := by rw [List.append_assoc]; rfl
    rw [pt_kvF hp, e]
    exact fold_kvF l (acc ++ [p]) (by rw [← e]; exact h)
theorem put_kvF {K : PySem.W.Frag} {l : Fill} (h : (l.map (·.1)).Nodup) : DL.putF (l.map (tripF K)) = kvF l := fold_kvF l [] h
section
variable {P : Program} {w : World} {K : PySem.W.Frag} {mg : Str → Option Value} {base : Heap}
abbrev s_fillings : Stmt := top 67
def d_fillings (P : Program) (w : World) (K : PySem.W.Frag) : DSp := fun Ps W => ∃ (ts : List Thing) (rows : List Triple) (s a b m : Int), Ps = [fLst K (ts.map (fThing K)), fLst K (rows.map (fTriple K)), fRule K s a b m] ∧ RuleOk s a b ∧ ts.Nodup ∧ ts.length ≤ 8 ∧ ∀ fs : List Fill, (∀ f ∈ fs, FillOk ts rows s a b m f) → fs.length ≤ 6561 → W (fLst K (fs.map (fFill P w K)))
abbrev N_fillings : List Str := ["_law_things", "_law_rows", "_law_rule_here", "_law_found", "_law_thing_here", "_law_later", "_law_past", "_law_worth", "_law_filling"]
theorem sc_fillings : FnScope N_fillings ["_law_things", "_law_rows", "_law_rule_here"] (defScope s_fillings) := ⟨rfl, rfl, rfl, by decide +kernel, rfl, by decide +kernel, by decide +kernel⟩
theorem ok_fillings (B : Free mg) (CH : Cal P w K mg base 1 "_law_holds" [] (d_holds P w K)) (h : HasF K mg "_law_fillings" s_fillings []) : Cal P w K mg base 2 "_law_fillings" [] (d_fillings P w K) := by
  refine cal_of h (ps := ["_law_things", "_law_rows", "_law_rule_here"]) (fun _ _ _ _ _ _ us hl => match us, hl with | [_, _, _], _ => rfl) fun f fd F => ?_
  refine fn_d F sc_fillings (fun Ps W h => ?_) fun cdv A0 outer s H E0 Ps W hr h => ?_
  · obtain ⟨ts, rows, s, a, b, m, rfl, _⟩ := h
    rfl
  · obtain ⟨ts, rows, sz, a, b, m, rfl, R, nd, hl, hW⟩ := h
    have hs := R.hs
    have l1 : ∀ a : Fct, [a].length ≤ 100000 := fun _ => by show 1 ≤ 100000; decide
    have l2 : ∀ a b : Fct, [a, b].length ≤ 100000 := fun _ _ => by show 2 ≤ 100000; decide
    have p3 : ∀ i, i ≤ 8 → 3 ^ i ≤ 6561 := fun i hi => Nat.le_trans (Nat.pow_le_pow_right (by decide) hi) (by decide)
    refine d_cons <| p_asg (i := 3) (v_lst <| a_cons <| v_new <| n_dnew <| a_nil ⟨l1 _, ?_⟩) sc_fillings.nd
    show PD _ _ [.fz (fLst K (ts.map (fThing K))), .fz (fLst K (rows.map (fTriple K))), .fz (fRule K sz a b m), .fz (fLst K (([[]] : List Fill).map (fFill P w K))), .no, .no, .no, .no, .no] _
    refine d_cons <| p_for (pgn 4 sc_fillings.nd) <| i_list <| v_var 0 ⟨_, rfl, _, rfl, ?_⟩
    refine ⟨fun i Γ => ∃ (fs : List Fill) (s4 s5 s6 s7 s8 : Slot), Γ = [.fz (fLst K (ts.map (fThing K))), .fz (fLst K (rows.map (fTriple K))), .fz (fRule K sz a b m), .fz (fLst K (fs.map (fFill P w K))), s4, s5, s6, s7, s8] ∧ (∀ f ∈ fs, FillOk (ts.take i) rows sz a b m f) ∧ fs.length ≤ 3 ^ i, ⟨[[]], _, _, _, _, _, rfl, fun f hf => ?_, Nat.le_refl _⟩, ?_, ?_⟩
    · rw [List.mem_singleton.mp hf]
      exact ⟨rfl, fun p hp => (by cases hp), fun tr htr hy => (by have := hy tr.1 List.mem_cons_self; simp at this)⟩
    · rintro i P0 Γi hP ⟨fs, s4, s5, s6, s7, s8, rfl, hf, hfl⟩
      obtain ⟨t, ht, rfl⟩ := map_at hP
      have hit : i < ts.length := (List.getElem?_eq_some_iff.mp ht).1
      have et : ts.take (i + 1) = ts.take i ++ [t] := by
        rw [List.take_add_one, ht]
        rfl
      have hnt : t ∉ ts.take i := not_in_take nd ht
      have hpi : 3 ^ i ≤ 2187 := Nat.le_trans (Nat.pow_le_pow_right (by decide) (by omega : i ≤ 7)) (by decide)
      refine dt_name ?_
      refine d_cons <| p_asgO (i := 5) (n_lst (a_nil ⟨Nat.zero_le _, ?_⟩)) sc_fillings.nd
      show PD _ _ [.fz (fLst K (ts.map (fThing K))), .fz (fLst K (rows.map (fTriple K))), .fz (fRule K sz a b m), .fz (fLst K (fs.map (fFill P w K))), .fz (fThing K t), .ow (oLst []), s6, s7, s8] _
      refine d_cons <| p_for (pgn 6 sc_fillings.nd) <| i_list <| v_var 3 ⟨_, rfl, _, rfl, ?_⟩
      refine ⟨fun j Γ => ∃ (gs : List Fill) (s6 s7 s8 : Slot), Γ = [.fz (fLst K (ts.map (fThing K))), .fz (fLst K (rows.map (fTriple K))), .fz (fRule K sz a b m), .fz (fLst K (fs.map (fFill P w K))), .fz (fThing K t), .ow (oLst (gs.map (fFill P w K))), s6, s7, s8] ∧ (∀ g ∈ gs, FillOk (ts.take (i + 1)) rows sz a b m g) ∧ gs.length ≤ 3 * j, ⟨[], _, _, _, rfl, fun g hg => (by cases hg), Nat.zero_le _⟩, ?_, ?_⟩
      · rintro j P1 Γj hP1 ⟨gs, s6, s7, s8, rfl, hg, hgl⟩
        obtain ⟨l, hl0, rfl⟩ := map_at hP1
        have hjl : j < fs.length := (List.getElem?_eq_some_iff.mp hl0).1
        have fl := hf l (List.mem_of_getElem? hl0)
        refine dt_name ?_
        show PD _ _ [.fz (fLst K (ts.map (fThing K))), .fz (fLst K (rows.map (fTriple K))), .fz (fRule K sz a b m), .fz (fLst K (fs.map (fFill P w K))), .fz (fThing K t), .ow (oLst (gs.map (fFill P w K))), .fz (fFill P w K l), s7, s8] _
        refine d_one <| p_for (pgn 7 sc_fillings.nd) <| i_range B.range <| v_ix ix_tup <| v_var 2 ⟨_, rfl, v_int ⟨fInt sz, o2_ixT rfl, sz, rfl, by omega, by omega, ?_⟩⟩
        refine ⟨fun q Γ => ∃ (gs : List Fill) (s7 s8 : Slot), Γ = [.fz (fLst K (ts.map (fThing K))), .fz (fLst K (rows.map (fTriple K))), .fz (fRule K sz a b m), .fz (fLst K (fs.map (fFill P w K))), .fz (fThing K t), .ow (oLst (gs.map (fFill P w K))), .fz (fFill P w K l), s7, s8] ∧ (∀ g ∈ gs, FillOk (ts.take (i + 1)) rows sz a b m g) ∧ gs.length ≤ 3 * j + q, ⟨gs, _, _, rfl, hg, hgl⟩, ?_, ?_⟩
        · rintro q P2 Γq hP2 ⟨gs, s7, s8, rfl, hg, hgl⟩
          obtain ⟨v, hv0, rfl⟩ := map_at hP2
          have hv2 := List.getElem?_eq_some_iff.mp hv0
          have hq : q < sz.toNat := by
            have := hv2.1
            rw [List.length_range] at this
            exact this
          have ev : v = q := by
            have := hv2.2
            rw [List.getElem_range] at this
            exact this.symm
          subst ev
          refine dt_name ?_
          show PD _ _ [.fz (fLst K (ts.map (fThing K))), .fz (fLst K (rows.map (fTriple K))), .fz (fRule K sz a b m), .fz (fLst K (fs.map (fFill P w K))), .fz (fThing K t), .ow (oLst (gs.map (fFill P w K))), .fz (fFill P w K l), .fz (fInt (v : Nat)), s8] _
          have hll : l.length ≤ 8 := by
            have := congrArg List.length fl.keys
            rw [List.length_map, List.length_take] at this
            omega
          have hkl : (kvF l).length ≤ 8 := by unfold kvF; rw [List.length_map]; exact hll
          have hnl : t ∉ l.map (·.1) := by rw [fl.keys]; exact hnt
          have ndl : ((l ++ [(t, ((v : Nat) : Int))]).map (·.1)).Nodup := by
            rw [List.map_append, fl.keys]
            show (ts.take i ++ [t]).Nodup
            rw [← et]
            exact nd.sublist (List.take_sublist _ _)
          have eT : (kvF l).map (fun kv => fTup K [fKey K kv.1, kv.2]) ++ [fTup K [fThing K t, fInt (v : Nat)]] = ((l ++ [(t, ((v : Nat) : Int))]).map (tripF K)).map fun x => fTup K [x.2.1, x.2.2] := by
            rw [List.map_map, List.map_append]
            unfold kvF
            rw [List.map_map]
            congr 1
            apply List.map_congr_left
            intro p _
            show fTup K [fKey K (kThing p.1), fInt p.2] = fTup K [fThing K p.1, fInt p.2]
            rw [fThing_key]
          refine d_cons <| p_asg (i := 8) (v_callTy (call_dictPN rfl hr) B.dict <| a_cons <| v_op op_cat <| v_listItemsN B.list rfl <| v_var 6 ⟨_, rfl, kvF l, rfl, v_lst <| a_cons <| v_tup <| a_cons <| v_var 4 ⟨_, rfl, a_cons <| v_var 7 ⟨_, rfl, a_nil ⟨l2 _ _, a_nil ⟨l1 _, fLst K (((l ++ [(t, ((v : Nat) : Int))]).map (tripF K)).map fun x => fTup K [x.2.1, x.2.2]), ?_, ?_⟩⟩⟩⟩⟩) sc_fillings.nd
          · rw [← eT]
            refine o2_catL ?_
            rw [List.length_map]
            show (kvF l).length + 1 ≤ 100000
            omega
          refine a_nil ⟨_, oc_dictPN fun x hx => ?_, ?_⟩
          · obtain ⟨p, _, rfl⟩ := List.mem_map.mp hx
            exact keyF_thing
          rw [put_kvF ndl]
          show PD _ _ [.fz (fLst K (ts.map (fThing K))), .fz (fLst K (rows.map (fTriple K))), .fz (fRule K sz a b m), .fz (fLst K (fs.map (fFill P w K))), .fz (fThing K t), .ow (oLst (gs.map (fFill P w K))), .fz (fFill P w K l), .fz (fInt (v : Nat)), .fz (fFill P w K (l ++ [(t, ((v : Nat) : Int))]))] _
          refine d_one <| p_if <| b_val <| v_call CH hr <| a_cons <| v_var 8 ⟨_, rfl, a_cons <| v_var 1 ⟨_, rfl, a_cons <| v_var 4 ⟨_, rfl, a_cons <| v_var 2 ⟨_, rfl, a_nil ⟨_, rows, t, sz, a, b, m, rfl, R, fun k hk => ⟨k, rfl, ?_⟩⟩⟩⟩⟩⟩
          cases k with
          | true =>
            refine iteT <| d_one <| p_append 5 rfl <| v_var 8 ⟨_, rfl, gs.map (fFill P w K), rfl, by rw [List.length_map]; omega, gs ++ [l ++ [(t, ((v : Nat) : Int))]], .fz (fInt (v : Nat)), .fz (fFill P w K (l ++ [(t, ((v : Nat) : Int))])), ?_, fun g hg' => ?_, by rw [List.length_append, List.length_singleton]; omega⟩
            · rw [List.map_append]
              rfl
            · rcases List.mem_append.mp hg' with h | h
              · exact hg g h
              · rw [List.mem_singleton.mp h, et]
                exact fl.snoc ⟨by omega, by omega⟩ (hk rfl)
          | false => exact iteF <| d_nil ⟨gs, _, _, rfl, hg, by omega⟩
        · rintro Γn ⟨gs, s7, s8, rfl, hg, hgl⟩
          rw [List.length_map, List.length_range] at hgl
          exact ⟨gs, _, _, _, rfl, hg, by omega⟩
      · rintro Γn ⟨gs, s6, s7, s8, rfl, hg, hgl⟩
        rw [List.length_map] at hgl
        refine PD.freeze (i := 5) rfl ?_
        refine d_one <| p_asg (i := 3) (v_callTy call_lst B.list <| a_cons <| PV.cast <| v_var 5 ⟨_, rfl, fLst K (gs.map (fFill P w K)), fun v F => oLst_fz, a_nil ⟨_, oc_list, ?_⟩⟩) sc_fillings.nd
        exact ⟨gs, _, _, _, _, _, rfl, hg, by rw [Nat.pow_succ]; omega⟩
    · rintro Γn ⟨fs, s4, s5, s6, s7, s8, rfl, hf, hfl⟩
      rw [List.length_map] at hf hfl
      rw [List.take_length] at hf
      exact d_one <| p_ret <| v_var 3 ⟨_, rfl, hW fs hf (Nat.le_trans hfl (p3 _ hl))⟩
end
end TB

/-! TB26: _law_fixed. -/
namespace TB
open PySem L2 PyProof.Rows DL
def kInts (ks : List Int) : NestedKey := .tup (ks.map .num)
theorem nums_inj : ∀ {a b : List Int}, a.map NestedKey.num = b.map NestedKey.num → a = b
  | [], [], _ => rfl
  | [], b :: bs, h => by cases h
  | a :: as, [], h => by cases h
  | a :: as, b :: bs, h => by
    rw [List.map_cons, List.map_cons] at h
    injection h with h1 h2
    injection h1 with h1
    rw [h1, nums_inj h2]
theorem kInts_inj {a b : List Int} (h : kInts a = kInts b) : a = b := by
  unfold kInts at h
  injection h with h
  exact nums_inj h
theorem nums_depth : ∀ ks : List Int, NestedKey.depthAll (ks.map .num) ≤ 7
  | [] => by simp [NestedKey.depthAll]
  | k :: ks => by
    have := nums_depth ks
    simp only [List.map_cons, NestedKey.depthAll, NestedKey.depth]
    omega
theorem keyF_ints {K : PySem.W.Frag} {ks : List Int} : KeyF K (fTup K (ks.map fInt)) (kInts ks) := by
  refine ⟨?_, fun v F h => ?_⟩
  · have := nums_depth ks
    unfold kInts
    simp only [NestedKey.depth]
    omega
  · obtain ⟨a, xs, rfl, h2, h3⟩ := h
    have e : xs = ks.map V.int := allP_map (f := V.int) h3
    subst e
    refine ⟨.tup h2 ?_, a, rfl⟩
    clear h2 h3
    induction ks with
    | nil => exact .nil
    | cons k ks ih => exact .cons (.int _) ih
def valsF (f : Fill) (l : List Thing) : List Int := l.map (atF f)
section
variable {P : Program} {w : World} {K : PySem.W.Frag} {mg : Str → Option Value} {base : Heap}
/-- what is seen so far -/
def SeenOk (K : PySem.W.Frag) (fs : List Fill) (kept asked : List Thing) (kvs : List KF) : Prop := ∀ k R, lkF kvs k = some R → ∃ g ∈ fs, k = kInts (valsF g kept) ∧ R = fLst K ((valsF g asked).map fInt)
abbrev s_fixed : Stmt := top 69
def d_fixed (P : Program) (w : World) (K : PySem.W.Frag) : DSp := fun Ps W => ∃ (fs : List Fill) (kept asked : List Thing), Ps = [fLst K (fs.map (fFill P w K)), fLst K (kept.map (fThing K)), fLst K (asked.map (fThing K))] ∧ fs.length ≤ 10000 ∧ kept.length ≤ 1000 ∧ asked.length ≤ 1000 ∧ (∀ f ∈ fs, ∀ t ∈ kept, t ∈ f.map (·.1)) ∧ (∀ f ∈ fs, ∀ t ∈ asked, t ∈ f.map (·.1)) ∧
  (∀ f ∈ fs, ∀ g ∈ fs, valsF f kept = valsF g kept → valsF f asked = valsF g asked) ∧ W (fBl true)
abbrev N_fixed : List Str := ["_law_fillings_here", "_law_kept_here", "_law_asked", "_law_seen", "_law_filling", "_law_key", "_law_worth", "_law_thing_here"]
theorem sc_fixed : FnScope N_fixed ["_law_fillings_here", "_law_kept_here", "_law_asked"] (defScope s_fixed) := ⟨rfl, rfl, rfl, by decide +kernel, rfl, by decide +kernel, by decide +kernel⟩
theorem ok_fixed (B : Free mg) (h : HasF K mg "_law_fixed" s_fixed []) : Cal P w K mg base 1 "_law_fixed" [] (d_fixed P w K) := by
  refine cal_of h (ps := ["_law_fillings_here", "_law_kept_here", "_law_asked"]) (fun _ _ _ _ _ _ us hl => match us, hl with | [_, _, _], _ => rfl) fun f fd F => ?_
  refine fn_d F sc_fixed (fun Ps W h => ?_) fun cdv A0 outer s H E0 Ps W hr h => ?_
  · obtain ⟨fs, kept, asked, rfl, _⟩ := h
    rfl
  · obtain ⟨fs, kept, asked, rfl, b1, b2, b3, hk, ha, hag, hW⟩ := h
    refine d_cons <| p_asgO (i := 3) (n_dnew ?_) sc_fixed.nd
    show PD _ _ [.fz (fLst K (fs.map (fFill P w K))), .fz (fLst K (kept.map (fThing K))), .fz (fLst K (asked.map (fThing K))), .ow (oDN P w K []), .no, .no, .no, .no] _
    refine d_cons <| p_for (pgn 4 sc_fixed.nd) <| i_list <| v_var 0 ⟨_, rfl, _, rfl, ?_⟩
    refine ⟨fun i Γ => ∃ (kvs : List KF) (s4 s5 s6 s7 : Slot), Γ = [.fz (fLst K (fs.map (fFill P w K))), .fz (fLst K (kept.map (fThing K))), .fz (fLst K (asked.map (fThing K))), .ow (oDN P w K kvs), s4, s5, s6, s7] ∧ SeenOk K fs kept asked kvs ∧ kvs.length ≤ i, ⟨[], _, _, _, _, rfl, fun k R h => (by cases h), Nat.le_refl _⟩, ?_, ?_⟩
    · rintro i P0 Γi hP ⟨kvs, s4, s5, s6, s7, rfl, hS, hl⟩
      obtain ⟨g, hg0, rfl⟩ := map_at hP
      have hil : i < fs.length := (List.getElem?_eq_some_iff.mp hg0).1
      have hg := List.mem_of_getElem? hg0
      refine dt_name ?_
      show PD _ _ [.fz (fLst K (fs.map (fFill P w K))), .fz (fLst K (kept.map (fThing K))), .fz (fLst K (asked.map (fThing K))), .ow (oDN P w K kvs), .fz (fFill P w K g), s5, s6, s7] _
      have ek : ∀ l : List Thing, l.map (fun t => fInt (atF g t)) = (valsF g l).map fInt := fun l => by unfold valsF; rw [List.map_map]; rfl
      refine d_cons <| p_asg (i := 5) (v_callTy call_tpl B.tuple <| a_cons <| v_lc (own := [("_law_thing_here", 7)]) (j := 7) (blkOk_by (N := N_fixed) (sc := defScope s_fixed) (by decide +kernel)) sc_fixed.nd (by decide) (fun _ _ _ _ _ => pgn 7 sc_fixed.nd) (i_list <| v_var 1 ⟨_, rfl, _, rfl, ?_⟩)) sc_fixed.nd
      refine lcw_map (j := 7) (by decide) kept (fThing K) (fun t => fInt (atF g t)) (by omega) (fun t ht s H C1 cl fp => v_ix (ix_N hr) <| v_var 4 ⟨_, rfl, v_var 7 ⟨_, rfl, _, o2_getN keyF_thing (lk_at (hk g hg t ht)), rfl, rfl⟩⟩) ?_
      rw [ek]
      refine a_nil ⟨_, oc_tuple, ?_⟩
      refine d_cons <| p_setLc (i := 6) (own := [("_law_thing_here", 7)]) (j := 7) (blkOk_by (N := N_fixed) (sc := defScope s_fixed) (by decide +kernel)) sc_fixed.nd (by decide) (fun _ _ _ _ _ => pgn 7 sc_fixed.nd) rfl <| i_list <| v_var 2 ⟨_, rfl, _, rfl, ?_⟩
      refine lcw_map (j := 7) (by decide) asked (fThing K) (fun t => fInt (atF g t)) (by omega) (fun t ht s H C1 cl fp => v_ix (ix_N hr) <| v_var 4 ⟨_, rfl, v_var 7 ⟨_, rfl, _, o2_getN keyF_thing (lk_at (ha g hg t ht)), rfl, rfl⟩⟩) ?_
      rw [ek]
      show PD _ _ [.fz (fLst K (fs.map (fFill P w K))), .fz (fLst K (kept.map (fThing K))), .fz (fLst K (asked.map (fThing K))), .ow (oDN P w K kvs), .fz (fFill P w K g), .fz (fTup K ((valsF g kept).map fInt)), .fz (fLst K ((valsF g asked).map fInt)), .no] _
      refine d_one <| p_if <| b_cmp (op_neT (α := List Int) hr (by decide)) <| v_mO 3 ty_N PySem.F.plainAttrs_dict PySem.F.slot_dict_setdefault PySem.F.type_dict_setdefault (mt_setdN hr) rfl own_ty_N <| a_cons <| v_var 5 ⟨_, rfl, a_cons <| v_var 6 ⟨_, rfl, a_nil ⟨_, rfl, own_setdN keyF_ints ?_ (fun R' hR' => ?_) (fun hno => ?_)⟩⟩⟩
      · omega
      · obtain ⟨g', hg', e1, rfl⟩ := hS _ _ hR'
        have ev := hag g hg g' hg' (kInts_inj e1)
        refine v_var 6 ⟨_, rfl, _, o2_neT (tyd_lst tyd_int) (tyd_lst tyd_int), ?_⟩
        rw [← ev, decide_eq_false (fun z => z rfl)]
        exact iteF <| d_nil ⟨kvs, _, _, _, _, rfl, hS, by omega⟩
      · refine v_var 6 ⟨_, rfl, _, o2_neT (tyd_lst tyd_int) (tyd_lst tyd_int), ?_⟩
        rw [decide_eq_false (fun z => z rfl)]
        refine iteF <| d_nil ⟨_, _, _, _, _, rfl, fun k R h => ?_, by have := ptF_len kvs (kInts (valsF g kept)) (fLst K ((valsF g asked).map fInt)); omega⟩
        rw [lkF_ptF] at h
        by_cases e : k = kInts (valsF g kept)
        · rw [if_pos e] at h
          injection h with h
          exact ⟨g, hg, e, h.symm⟩
        · rw [if_neg e] at h
          exact hS k R h
    · rintro Γn ⟨kvs, s4, s5, s6, s7, rfl, hS, hl⟩
      exact d_one <| p_ret <| v_bl hW
end
end TB

/-! TB27: _law_right, law. -/
namespace TB
open PySem L2 PyProof.Rows DL
/-! ### lost things in order -/
theorem thLt_trans {t u v : Thing} (h : thLt t u) (h2 : thLt u v) : thLt t v := lex_trans _ _ _ h h2
structure GoneOk (c : Cl) (n : Nat) (gone : List Thing) : Prop where
  mem : ∀ t ∈ gone, 0 ≤ t.1 ∧ t.1 ≤ (n : Int) - 1 ∧ t.2 ∈ c.stored
  ord : gone.Pairwise thLt
/-- gone with t in its place -/
def putIn (gone : List Thing) (t : Thing) : List Thing := (gone.filter fun u => PySem.W.dataLt (thD u) (thD t)) ++ [t] ++ gone.filter fun u => PySem.W.dataLt (thD t) (thD u)
theorem filt_two {α : Type} {p q : α → Bool} (hx : ∀ x, p x = true → q x = true → False) : ∀ l : List α, (l.filter p).length + (l.filter q).length ≤ l.length
  | [] => Nat.le_refl _
  | a :: l => by
    have ih := filt_two hx l
    have h := hx a
    rw [List.filter_cons, List.filter_cons]
    cases hp : p a with
    | true =>
      cases hq : q a with
      | true => exact (h hp hq).elim
      | false =>
        rw [if_pos rfl, if_neg (by decide), List.length_cons, List.length_cons]
        omega
    | false =>
      cases hq : q a with
      | true =>
        rw [if_neg (by decide), if_pos rfl, List.length_cons, List.length_cons]
        omega
      | false =>
        rw [if_neg (by decide), if_neg (by decide), List.length_cons]
        omega
theorem putIn_len (gone : List Thing) (t : Thing) : (putIn gone t).length ≤ gone.length + 1 := by
  unfold putIn
  rw [List.length_append, List.length_append, List.length_singleton]
  have := filt_two (p := fun u => PySem.W.dataLt (thD u) (thD t)) (q := fun u => PySem.W.dataLt (thD t) (thD u)) (fun u h1 h2 => by
    have h3 : PySem.W.dataLt (thD u) (thD u) = true := thLt_trans (t := u) (u := t) (v := u) h1 h2
    have h4 : PySem.W.dataLt (thD u) (thD u) = false := lex_irrefl _
    rw [h4] at h3
    cases h3) gone
  omega
theorem GoneOk.put {c : Cl} {n : Nat} {gone : List Thing} {t : Thing} (h : GoneOk c n gone) (h0 : 0 ≤ t.1 ∧ t.1 ≤ (n : Int) - 1 ∧ t.2 ∈ c.stored) : GoneOk c n (putIn gone t) := by
  refine ⟨fun u hu => ?_, ?_⟩
  · unfold putIn at hu
    rcases List.mem_append.mp hu with hu | hu
    · rcases List.mem_append.mp hu with hu | hu
      · exact h.mem u (List.mem_filter.mp hu).1
      · rw [List.mem_singleton.mp hu]
        exact h0
    · exact h.mem u (List.mem_filter.mp hu).1
  · unfold putIn
    refine List.pairwise_append.mpr ⟨List.pairwise_append.mpr ⟨h.ord.sublist List.filter_sublist, List.pairwise_singleton _ _, fun a ha b hb => ?_⟩, h.ord.sublist List.filter_sublist, fun a ha b hb => ?_⟩
    · rw [List.mem_singleton.mp hb]
      exact (List.mem_filter.mp ha).2
    · have hb2 : thLt t b := (List.mem_filter.mp hb).2
      rcases List.mem_append.mp ha with ha | ha
      · exact thLt_trans (List.mem_filter.mp ha).2 hb2
      · rw [List.mem_singleton.mp ha]
        exact hb2
theorem goneOk_nil (c : Cl) (n : Nat) : GoneOk c n [] := ⟨fun t h => (by cases h), .nil⟩
theorem things_rng {c : Cl} {n : Nat} (hn : 1 ≤ n) : ∀ t ∈ thingsOf c n, 0 ≤ t.1 ∧ t.1 ≤ (n : Int) - 1 := by
  intro t h
  unfold thingsOf at h
  rcases List.mem_append.mp h with h | h
  · obtain ⟨z, _, rfl⟩ := List.mem_map.mp h
    exact ⟨Int.le_refl _, by show (0 : Int) ≤ _; omega⟩
  · obtain ⟨i, hi, h⟩ := List.mem_flatMap.mp h
    obtain ⟨z, _, rfl⟩ := List.mem_map.mp h
    have := List.mem_range.mp hi
    exact ⟨by show (0 : Int) ≤ (i : Nat); omega, by show ((i : Nat) : Int) ≤ _; omega⟩
theorem things_succ (c : Cl) (i : Nat) : thingsOf c (i + 1) = thingsOf c i ++ (c.inner ++ c.outs).map fun z => (((i : Nat) : Int), z) := by
  unfold thingsOf
  rw [List.range_succ, List.flatMap_append, List.append_assoc]
  simp
theorem goals_succ (l : List Str) (i : Nat) : goalsOf l (i + 1) = goalsOf l i ++ l.map fun z => (((i : Nat) : Int), z) := by
  unfold goalsOf
  rw [List.range_succ, List.flatMap_append]
  simp
theorem things_len {c : Cl} (G : Good c) (n : Nat) : (thingsOf c n).length ≤ 1 + n * 3 := by
  have h1 := G.li
  have h2 := G.ln
  have h3 := G.s.lo
  unfold thingsOf
  rw [List.length_append, List.length_map]
  have := flat_len (fun i : Nat => (c.inner ++ c.outs).map fun z => (((i : Nat) : Int), z)) 3 (List.range n) fun x _ => by
    rw [List.length_map, List.length_append]
    omega
  rw [List.length_range] at this
  omega
theorem nodup_len {α : Type} [DecidableEq α] : ∀ {l m : List α}, l.Nodup → (∀ x ∈ l, x ∈ m) → l.length ≤ m.length
  | [], m, _, _ => Nat.zero_le _
  | a :: l, m, nd, h => by
    have ha := h a List.mem_cons_self
    obtain ⟨n1, n2⟩ := List.nodup_cons.mp nd
    have := nodup_len (l := l) (m := m.erase a) n2 fun x hx => by
      have hne : x ≠ a := fun z => n1 (z ▸ hx)
      exact (List.mem_erase_of_ne hne).mpr (h x (List.mem_cons_of_mem _ hx))
    rw [List.length_erase_of_mem ha] at this
    have hp : 0 < m.length := List.length_pos_of_mem ha
    rw [List.length_cons]
    omega
structure Lens (c : Cl) : Prop where
  st : c.stored.length ≤ 3
  wa : c.wanted.length ≤ 3
  be : c.begn.length ≤ 1
  en : c.endd.length ≤ 1
theorem Good.lens {c : Cl} (G : Good c) : Lens c := by
  have h1 := G.li
  have h2 := G.ln
  have h3 := G.s.lo
  have h4 : (c.inner ++ c.outs).length ≤ 3 := by rw [List.length_append]; omega
  exact ⟨Nat.le_trans (nodup_len G.s.s2 G.s.s1) h4, Nat.le_trans (nodup_len G.s.w2 G.s.w1) h4, Nat.le_trans (nodup_len G.s.b2 G.s.b1) h1, Nat.le_trans (nodup_len G.s.e2 G.s.e1) (by omega)⟩
theorem vals_eq {f g : Fill} {l : List Thing} : valsF f l = valsF g l ↔ ∀ t ∈ l, atF f t = atF g t := List.map_inj_left
abbrev Rl := Int × Int × Int × Int
def fRl (K : PySem.W.Frag) (r : Rl) : Fct := fRule K r.1 r.2.1 r.2.2.1 r.2.2.2
section
variable {P : Program} {w : World} {K : PySem.W.Frag} {mg : Str → Option Value} {base : Heap} {CK CC dL : Addr}
theorem cat_th {xs ys : List Thing} {Ps : List Fct} (hP : Ps = ys.map (fThing K)) (hl : xs.length + ys.length ≤ 100000) : Op2 rCat (fLst K (xs.map (fThing K))) (fLst K Ps) (fLst K ((xs ++ ys).map (fThing K))) := by
  subst hP
  rw [List.map_append]
  exact o2_catL (by rw [List.length_map, List.length_map]; exact hl)
abbrev s_right : Stmt := top 70
def d_right : DSp := fun Ps W => Ps = [fSrc] ∧ W (fBl true)
abbrev N_right : List Str := ["_law_source_here", "_law_plan_here", "_law_rules", "_law_many", "_law_things", "_law_goals", "_law_gone", "_law_at", "_law_thing_here", "_law_less", "_law_gave", "_law_rows", "_law_kept_here", "_law_asked", "_law_rule_here", "_law_tag", "_law_mate"]
theorem sc_right : FnScope N_right ["_law_source_here"] (defScope s_right) := ⟨rfl, rfl, rfl, by decide +kernel, rfl, by decide +kernel, by decide +kernel⟩
theorem ok_right (B : Free mg) (CD : Cal P w K mg base 1 "_law_draw" [] d_draw) (CP : Cal P w K mg base 3 "_law_plan" [] (d_plan K)) (CR : Cal P w K mg base 2 "_law_rule" [] (d_rule K)) (CU : Cal P w K mg base 4 "untold" [] (d_untold K CK CC)) (CM : Cal P w K mg base 8 "_law_made" [] (d_made K CK CC)) (CL : Cal P w K mg base 2 "_law_laid" [] (d_laid K)) (CQ : Cal P w K mg base 1 "_law_kept" [] (d_lkept K)) (CX : Cal P w K mg base 1 "_law_fixed" [] (d_fixed P w K)) (CF : Cal P w K mg base 2 "_law_fillings" [] (d_fillings P w K))
    (h : HasF K mg "_law_right" s_right []) : Cal P w K mg base 9 "_law_right" [] d_right := by
  refine cal_of h (ps := ["_law_source_here"]) (fun _ _ _ _ _ _ us hl => match us, hl with | [_], _ => rfl) fun f fd F => ?_
  refine fn_d F sc_right (fun Ps W h => ?_) fun cdv A0 outer s H E0 Ps W hr h => ?_
  · obtain ⟨rfl, _⟩ := h
    rfl
  · obtain ⟨rfl, hW⟩ := h
    have l1 : ∀ a : Fct, [a].length ≤ 100000 := fun _ => by show 1 ≤ 100000; decide
    have l2 : ∀ a b : Fct, [a, b].length ≤ 100000 := fun _ _ => by show 2 ≤ 100000; decide
    refine d_cons <| p_asg (i := 1) (v_call CP hr <| a_cons <| v_var 0 ⟨_, rfl, a_cons <| v_int <| a_cons <| v_int <| a_cons <| v_int <| a_nil ⟨rfl, fun c G => ?_⟩⟩) sc_right.nd
    have S := G.s
    have Ln := G.lens
    obtain ⟨n1, n2, n3, n4⟩ := Ln
    have n5 := G.lr
    have n6 := G.li
    have n7 := G.ln
    have n8 := S.lo
    refine d_cons <| p_asg (i := 2) (v_lst <| a_cons <| v_call CR hr <| a_cons <| v_var 0 ⟨_, rfl, a_cons <| v_dk hr <| v_var 1 ⟨_, rfl, _, _, rfl, mk_look 0 nd9 rfl rfl, a_nil ⟨c.word, c.calm, rfl, fun s1 a1 b1 m1 R1 => ?_⟩⟩⟩) sc_right.nd
    refine a_cons <| v_call CR hr <| a_cons <| v_var 0 ⟨_, rfl, a_cons <| v_dk hr <| v_var 1 ⟨_, rfl, _, _, rfl, mk_look 0 nd9 rfl rfl, a_nil ⟨c.word, c.calm, rfl, fun s2 a2 b2 m2 R2 => a_nil ⟨l2 _ _, ?_⟩⟩⟩⟩
    obtain ⟨rl, hrl, hrk⟩ : ∃ rl : List Rl, rl = [(s1, a1, b1, m1), (s2, a2, b2, m2)] ∧ ∀ r ∈ rl, RuleOk r.1 r.2.1 r.2.2.1 := ⟨_, rfl, fun r hr => by
      rcases List.mem_cons.mp hr with e | hr
      · rw [e]
        exact R1
      · rw [List.mem_singleton.mp hr]
        exact R2⟩
    have er : [fRule K s1 a1 b1 m1, fRule K s2 a2 b2 m2] = rl.map (fRl K) := by rw [hrl]; rfl
    rw [er]
    show PD _ _ [.fz fSrc, .fz (fPlan K c), .fz (fLst K (rl.map (fRl K))), .no, .no, .no, .no, .no, .no, .no, .no, .no, .no, .no, .no, .no, .no] _
    -- the chain of n cells
    refine d_cons <| p_for (pgn 3 sc_right.nd) <| i_list <| v_lst <| a_cons <| v_int <| a_cons <| v_int <| a_nil ⟨l2 _ _, _, rfl, ?_⟩
    refine ⟨fun i Γ => ∃ (s3 s4 s5 s6 s7 s8 s9 s10 s11 s12 s13 s14 s15 s16 : Slot), Γ = [.fz fSrc, .fz (fPlan K c), .fz (fLst K (rl.map (fRl K))), s3, s4, s5, s6, s7, s8, s9, s10, s11, s12, s13, s14, s15, s16], ⟨_, _, _, _, _, _, _, _, _, _, _, _, _, _, rfl⟩, ?_, fun Γn _ => ?_⟩
    · rintro i P0 Γi hP ⟨s3, s4, s5, s6, s7, s8, s9, s10, s11, s12, s13, s14, s15, s16, rfl⟩
      obtain ⟨n, rfl, hn1, hn2⟩ : ∃ n : Nat, P0 = fInt (n : Nat) ∧ 1 ≤ n ∧ n ≤ 2 := by
        match i, hP with
        | 0, hP => exact ⟨1, (Option.some.inj hP).symm, by decide, by decide⟩
        | 1, hP => exact ⟨2, (Option.some.inj hP).symm, by decide, by decide⟩
        | i + 2, hP => cases hP
      refine dt_name ?_
      show PD _ _ [.fz fSrc, .fz (fPlan K c), .fz (fLst K (rl.map (fRl K))), .fz (fInt (n : Nat)), s4, s5, s6, s7, s8, s9, s10, s11, s12, s13, s14, s15, s16] _
      have hn3 : n * 3 ≤ 6 := by omega
      have htl : ∀ j, j ≤ 2 → (thingsOf c j).length ≤ 7 := fun j hj => by have := things_len G j; omega
      have hgl : ∀ j, j ≤ 2 → (goalsOf c.wanted j).length ≤ 6 := fun j hj => by
        have := flat_len (fun i : Nat => c.wanted.map fun z => (((i : Nat) : Int), z)) 3 (List.range j) fun x _ => by rw [List.length_map]; exact n2
        rw [List.length_range] at this
        unfold goalsOf
        omega
      refine d_cons <| p_asgT (pg_tup rfl (pgs_cons (pgn 4 sc_right.nd) (pgs_cons (pgn 5 sc_right.nd) (pgs_cons (pgn 6 sc_right.nd) pgs_nil)))) <| v_tup <| a_cons <| v_lc (own := [("_law_tag", 15)]) (j := 15) (blkOk_by (N := N_right) (sc := defScope s_right) (by decide +kernel)) sc_right.nd (by decide) (fun _ _ _ _ _ => pgn 15 sc_right.nd) (i_list <| v_dk hr <| v_var 1 ⟨_, rfl, _, _, rfl, mk_look 1 nd9 rfl rfl, _, rfl, ?_⟩)
      refine lcw_map (j := 15) (by decide) c.ins fStr (fun z => fThing K ((0 : Int), z)) (by omega) (fun z hz s H C1 cl fp => v_tup <| a_cons <| v_int <| a_cons <| v_var 15 ⟨_, rfl, a_nil ⟨l2 _ _, rfl, rfl⟩⟩) ?_
      refine a_cons <| v_lst <| a_nil ⟨Nat.zero_le _, a_cons <| v_lst <| a_nil ⟨Nat.zero_le _, a_nil ⟨by show 3 ≤ 100000; decide, dt_tup rfl (dts_cons (dt_name (dts_cons (dt_name (dts_cons (dt_name (dts_nil ?_)))))))⟩⟩⟩
      have e0 : c.ins.map (fun z => fThing K ((0 : Int), z)) = (thingsOf c 0).map (fThing K) := by
        unfold thingsOf
        rw [List.map_append, List.map_map]
        simp
      rw [e0]
      show PD _ _ [.fz fSrc, .fz (fPlan K c), .fz (fLst K (rl.map (fRl K))), .fz (fInt (n : Nat)), .fz (fLst K ((thingsOf c 0).map (fThing K))), .fz (fLst K []), .fz (fLst K []), s7, s8, s9, s10, s11, s12, s13, s14, .no, s16] _
      refine d_cons <| p_for (pgn 7 sc_right.nd) <| i_range B.range <| v_var 3 ⟨_, rfl, (n : Nat), rfl, by omega, by omega, ?_⟩
      rw [Int.toNat_natCast]
      refine ⟨fun i Γ => ∃ s7 s15, Γ = [.fz fSrc, .fz (fPlan K c), .fz (fLst K (rl.map (fRl K))), .fz (fInt (n : Nat)), .fz (fLst K ((thingsOf c i).map (fThing K))), .fz (fLst K ((goalsOf c.wanted i).map (fThing K))), .fz (fLst K []), s7, s8, s9, s10, s11, s12, s13, s14, s15, s16], ⟨_, _, rfl⟩, ?_, ?_⟩
      · rintro q P1 Γq hP1 ⟨s7, s15, rfl⟩
        obtain ⟨q', hq', rfl⟩ := map_at hP1
        have hq2 := List.getElem?_eq_some_iff.mp hq'
        have hqn : q < n := by
          have := hq2.1
          rw [List.length_range] at this
          exact this
        have eq' : q' = q := by
          have := hq2.2
          rw [List.getElem_range] at this
          exact this.symm
        subst eq'
        refine dt_name ?_
        show PD _ _ [.fz fSrc, .fz (fPlan K c), .fz (fLst K (rl.map (fRl K))), .fz (fInt (n : Nat)), .fz (fLst K ((thingsOf c q').map (fThing K))), .fz (fLst K ((goalsOf c.wanted q').map (fThing K))), .fz (fLst K []), .fz (fInt (q' : Nat)), s8, s9, s10, s11, s12, s13, s14, s15, s16] _
        have t1 := htl q' (by omega)
        have t2 := hgl q' (by omega)
        refine d_cons <| p_asg (i := 4) (v_op op_cat <| v_var 4 ⟨_, rfl, v_lc (own := [("_law_tag", 15)]) (j := 15) (blkOk_by (N := N_right) (sc := defScope s_right) (by decide +kernel)) sc_right.nd (by decide) (fun _ _ _ _ _ => pgn 15 sc_right.nd) (i_list <| v_op op_cat <| v_dk hr <| v_var 1 ⟨_, rfl, _, _, rfl, mk_look 2 nd9 rfl rfl, v_dk hr <| v_var 1 ⟨_, rfl, _, _, rfl, mk_look 4 nd9 rfl rfl, fNmL K (c.inner ++ c.outs), ?_, _, rfl, ?_⟩⟩)⟩) sc_right.nd
        · unfold fNmL
          rw [List.map_append]
          exact o2_catL (by rw [List.length_map, List.length_map]; omega)
        refine lcw_map (j := 15) (by decide) (c.inner ++ c.outs) fStr (fun z => fThing K ((q' : Int), z)) (by rw [List.length_append]; omega) (fun z hz s H C1 cl fp => v_tup <| a_cons <| v_var 7 ⟨_, rfl, a_cons <| v_var 15 ⟨_, rfl, a_nil ⟨l2 _ _, rfl, rfl⟩⟩⟩) ?_
        refine ⟨fLst K ((thingsOf c (q' + 1)).map (fThing K)), ?_, ?_⟩
        · rw [things_succ]
          exact cat_th (by rw [List.map_map]; rfl) (by rw [List.length_map, List.length_append]; omega)
        refine d_one <| p_asg (i := 5) (v_op op_cat <| v_var 5 ⟨_, rfl, v_lc (own := [("_law_tag", 15)]) (j := 15) (blkOk_by (N := N_right) (sc := defScope s_right) (by decide +kernel)) sc_right.nd (by decide) (fun _ _ _ _ _ => pgn 15 sc_right.nd) (i_list <| v_dk hr <| v_var 1 ⟨_, rfl, _, _, rfl, mk_look 6 nd9 rfl rfl, _, rfl, ?_⟩)⟩) sc_right.nd
        refine lcw_map (j := 15) (by decide) c.wanted fStr (fun z => fThing K ((q' : Int), z)) (by omega) (fun z hz s H C1 cl fp => v_tup <| a_cons <| v_var 7 ⟨_, rfl, a_cons <| v_var 15 ⟨_, rfl, a_nil ⟨l2 _ _, rfl, rfl⟩⟩⟩) ?_
        refine ⟨fLst K ((goalsOf c.wanted (q' + 1)).map (fThing K)), ?_, .fz (fInt (q' : Nat)), .no, rfl⟩
        rw [goals_succ]
        exact cat_th (by rw [List.map_map]; rfl) (by rw [List.length_map]; omega)
      · rintro Γn ⟨s7, s15, rfl⟩
        rw [List.length_map, List.length_range]
        have t1 := htl n hn2
        have t2 := hgl n hn2
        -- what is lost
        refine d_cons <| p_for (pgn 8 sc_right.nd) <| i_list <| v_var 4 ⟨_, rfl, _, rfl, ?_⟩
        refine ⟨fun i Γ => ∃ (gone : List Thing) (s8 s9 s16 : Slot), Γ = [.fz fSrc, .fz (fPlan K c), .fz (fLst K (rl.map (fRl K))), .fz (fInt (n : Nat)), .fz (fLst K ((thingsOf c n).map (fThing K))), .fz (fLst K ((goalsOf c.wanted n).map (fThing K))), .fz (fLst K (gone.map (fThing K))), s7, s8, s9, s10, s11, s12, s13, s14, s15, s16] ∧ GoneOk c n gone ∧ gone.length ≤ i, ⟨[], _, _, _, rfl, goneOk_nil c n, Nat.le_refl _⟩, ?_, ?_⟩
        · rintro q P1 Γq hP1 ⟨gone, s8, s9, s16, rfl, hG, hGl⟩
          obtain ⟨t, ht0, rfl⟩ := map_at hP1
          have hql : q < (thingsOf c n).length := (List.getElem?_eq_some_iff.mp ht0).1
          have htm := List.mem_of_getElem? ht0
          have stay : ∀ s8 s9 s16, ∃ (gone' : List Thing) (s8' s9' s16' : Slot), ([.fz fSrc, .fz (fPlan K c), .fz (fLst K (rl.map (fRl K))), .fz (fInt (n : Nat)), .fz (fLst K ((thingsOf c n).map (fThing K))), .fz (fLst K ((goalsOf c.wanted n).map (fThing K))), .fz (fLst K (gone.map (fThing K))), s7, s8, s9, s10, s11, s12, s13, s14, s15, s16] : DL.Ctx) = [.fz fSrc, .fz (fPlan K c), .fz (fLst K (rl.map (fRl K))), .fz (fInt (n : Nat)), .fz (fLst K ((thingsOf c n).map (fThing K))), .fz (fLst K ((goalsOf c.wanted n).map (fThing K))), .fz (fLst K (gone'.map (fThing K))), s7, s8', s9', s10, s11, s12, s13, s14, s15, s16'] ∧ GoneOk c n gone' ∧ gone'.length ≤ q + 1 := fun s8 s9 s16 => ⟨gone, _, _, _, rfl, hG, by omega⟩
          refine dt_name ?_
          show PD _ _ [.fz fSrc, .fz (fPlan K c), .fz (fLst K (rl.map (fRl K))), .fz (fInt (n : Nat)), .fz (fLst K ((thingsOf c n).map (fThing K))), .fz (fLst K ((goalsOf c.wanted n).map (fThing K))), .fz (fLst K (gone.map (fThing K))), s7, .fz (fThing K t), s9, s10, s11, s12, s13, s14, s15, s16] _
          refine d_one <| p_if <| b_w <| w_and <| b_cmp op_in_seq <| v_ix ix_tup <| v_var 8 ⟨_, rfl, v_int ⟨fStr t.2, o2_ixT rfl, v_dk hr <| v_var 1 ⟨_, rfl, _, _, rfl, mk_look 5 nd9 rfl rfl, _, inL_dec (l := c.stored), ?_⟩⟩⟩
          by_cases hts : t.2 ∈ c.stored
          · rw [decide_eq_true hts]
            refine iteT <| w_and1 <| b_cmp op_eq <| v_call CD hr <| a_cons <| v_var 0 ⟨_, rfl, a_cons <| v_int <| a_nil ⟨2, rfl, by decide, by decide, fun k k0 k1 => v_int ⟨_, o2_eq rfl, ?_⟩⟩⟩
            by_cases hk : V.int k = V.int 0
            · rw [decide_eq_true hk]
              refine iteT ?_
              have fl1 := List.length_filter_le (fun u => PySem.W.dataLt (thD u) (thD t)) gone
              have fl2 := List.length_filter_le (fun u => PySem.W.dataLt (thD t) (thD u)) gone
              refine d_cons <| p_setLc (i := 9) (own := [("_law_mate", 16)]) (j := 16) (blkOk_by (N := N_right) (sc := defScope s_right) (by decide +kernel)) sc_right.nd (by decide) (fun _ _ _ _ _ => pgn 16 sc_right.nd) rfl <| i_list <| v_var 6 ⟨_, rfl, _, rfl, ?_⟩
              refine lcw_filter (j := 16) (by decide) gone (fThing K) (fThing K) (fun u => PySem.W.dataLt (thD u) (thD t)) (by omega) (fun u hu s H C1 cl fp => b_cmp (op_ltD hr) <| v_var 16 ⟨_, rfl, v_var 8 ⟨_, rfl, _, o2_ltD dat_thing dat_thing (thD_alike _ _) (fun z => nomatch z) (thD_small _ _), rfl, rfl⟩⟩) (fun u hu hk s H C1 cl fp => v_var 16 ⟨_, rfl, rfl, rfl⟩) ?_
              show PD _ _ [.fz fSrc, .fz (fPlan K c), .fz (fLst K (rl.map (fRl K))), .fz (fInt (n : Nat)), .fz (fLst K ((thingsOf c n).map (fThing K))), .fz (fLst K ((goalsOf c.wanted n).map (fThing K))), .fz (fLst K (gone.map (fThing K))), s7, .fz (fThing K t), .fz (fLst K ((gone.filter fun u => PySem.W.dataLt (thD u) (thD t)).map (fThing K))), s10, s11, s12, s13, s14, s15, .no] _
              refine d_one <| p_asg (i := 6) (v_op op_cat <| v_op op_cat <| v_var 9 ⟨_, rfl, v_lst <| a_cons <| v_var 8 ⟨_, rfl, a_nil ⟨l1 _, fLst K (((gone.filter fun u => PySem.W.dataLt (thD u) (thD t)) ++ [t]).map (fThing K)), ?_, ?_⟩⟩⟩) sc_right.nd
              · exact cat_th (ys := [t]) rfl (by show _ + 1 ≤ 100000; omega)
              refine v_lc (own := [("_law_mate", 16)]) (j := 16) (blkOk_by (N := N_right) (sc := defScope s_right) (by decide +kernel)) sc_right.nd (by decide) (fun _ _ _ _ _ => pgn 16 sc_right.nd) <| i_list <| v_var 6 ⟨_, rfl, _, rfl, ?_⟩
              refine lcw_filter (j := 16) (by decide) gone (fThing K) (fThing K) (fun u => PySem.W.dataLt (thD t) (thD u)) (by omega) (fun u hu s H C1 cl fp => b_cmp (op_gtD hr) <| v_var 16 ⟨_, rfl, v_var 8 ⟨_, rfl, _, o2_gtD dat_thing dat_thing (thD_alike _ _) (fun z => nomatch z) (thD_small _ _), rfl, rfl⟩⟩) (fun u hu hk s H C1 cl fp => v_var 16 ⟨_, rfl, rfl, rfl⟩) ?_
              refine ⟨fLst K ((putIn gone t).map (fThing K)), ?_, putIn gone t, _, _, _, rfl, hG.put ⟨(things_rng hn1 t htm).1, (things_rng hn1 t htm).2, hts⟩, by have := putIn_len gone t; omega⟩
              exact cat_th rfl (by rw [List.length_append]; show _ + 1 + _ ≤ 100000; omega)
            · rw [decide_eq_false hk]
              exact iteF <| d_nil <| stay _ _ _
          · rw [decide_eq_false hts]
            exact iteF <| iteF <| d_nil <| stay _ _ _
        · rintro Γn ⟨gone, s8, s9, s16, rfl, hG, hGl⟩
          rw [List.length_map] at hGl
          have hkl : (keptL c n gone).length ≤ 100 := by
            have h1 := mid_len c gone n
            have h2 : n * c.stored.length ≤ 2 * 3 := Nat.mul_le_mul hn2 n1
            have e : keptL c n gone = c.begn.map (fun z => ((0 : Int), z)) ++ c.endd.map (fun z => ((n : Int) - 1, z)) ++ midK c gone n := rfl
            rw [e, List.length_append, List.length_append, List.length_map, List.length_map]
            omega
          refine d_cons <| p_asgT (pg_tup rfl (pgs_cons (pgn 10 sc_right.nd) (pgs_cons (pgn 11 sc_right.nd) pgs_nil))) <| v_tup <| a_cons <| v_call CU hr <| a_cons <| v_call CM hr <| a_cons <| v_var 1 ⟨_, rfl, a_nil ⟨c, rfl, G, ?_⟩⟩
          refine a_cons <| v_var 3 ⟨_, rfl, a_cons <| v_callTy call_tpl B.tuple <| a_cons <| v_var 6 ⟨_, rfl, a_nil ⟨_, oc_tuple, a_nil ⟨c, n, gone, rfl, S.lo, by omega, hn1, hn2, by omega, by omega, by omega, by omega, by omega, hG.mem, hG.ord, fun gave hg1 hgv hg2 => ?_⟩⟩⟩⟩
          refine a_cons <| v_call CL hr <| a_cons <| v_var 1 ⟨_, rfl, a_cons <| v_var 3 ⟨_, rfl, a_nil ⟨_, c.ins, c.outs, c.rows, n, rfl, mk_look 1 nd9 rfl rfl, mk_look 4 nd9 rfl rfl, mk_look 3 nd9 rfl rfl, S.lo, hn2, by omega, a_nil ⟨l2 _ _, dt_tup rfl (dts_cons (dt_name (dts_cons (dt_name (dts_nil ?_)))))⟩⟩⟩⟩
          show PD _ _ [.fz fSrc, .fz (fPlan K c), .fz (fLst K (rl.map (fRl K))), .fz (fInt (n : Nat)), .fz (fLst K ((thingsOf c n).map (fThing K))), .fz (fLst K ((goalsOf c.wanted n).map (fThing K))), .fz (fLst K (gone.map (fThing K))), s7, s8, s9, .fz (fTup K (gave.map (fThing K))), .fz (fLst K ((laidOf c.ins c.outs c.rows n).map (fTriple K))), s12, s13, s14, s15, s16] _
          have hnil : gave.filter (fun t => decide (t ∉ goalsOf c.wanted n)) = [] := List.filter_eq_nil_iff.mpr fun t ht z => (of_decide_eq_true z) (hg1 t ht)
          refine d_cons <| p_no <| b_cmp (op_neT (α := List Thing) hr (by decide)) <| v_lc (own := [("_law_thing_here", 8)]) (j := 8) (blkOk_by (N := N_right) (sc := defScope s_right) (by decide +kernel)) sc_right.nd (by decide) (fun _ _ _ _ _ => pgn 8 sc_right.nd) (i_tup <| v_var 10 ⟨_, rfl, _, rfl, ?_⟩)
          refine lcw_filter (j := 8) (by decide) gave (fThing K) (fThing K) (fun t => decide (t ∉ goalsOf c.wanted n)) (by omega) (fun t ht s H C1 cl fp => b_cmp (op_notInT (α := Thing) hr (by decide)) <| v_var 8 ⟨_, rfl, v_var 5 ⟨_, rfl, _, ninLT_dec, rfl, rfl⟩⟩) (fun t ht hk s H C1 cl fp => v_var 8 ⟨_, rfl, rfl, rfl⟩) ?_
          rw [hnil]
          refine v_lst <| a_nil ⟨Nat.zero_le _, false, ?_, rfl, ?_⟩
          · have := o2_neT (K := K) (tyd_lst (xs := ([] : List Thing)) tyd_thing) (tyd_lst (xs := ([] : List Thing)) tyd_thing)
            rw [decide_eq_false (fun z => z rfl)] at this
            exact this
          refine d_cons ?_
          refine p_par (i := 12) (j := 13) ?_ sc_right.nd rfl
          refine a_cons <| v_call CQ hr <| a_cons <| v_var 1 ⟨_, rfl, a_cons <| v_var 3 ⟨_, rfl, a_cons <| v_var 6 ⟨_, rfl, a_nil ⟨c, n, gone, rfl, hn2, by omega, by omega, by omega, by omega, ?_⟩⟩⟩⟩
          refine a_cons <| v_lc (own := [("_law_thing_here", 8)]) (j := 8) (blkOk_by (N := N_right) (sc := defScope s_right) (by decide +kernel)) sc_right.nd (by decide) (fun _ _ _ _ _ => pgn 8 sc_right.nd) (i_list <| v_var 5 ⟨_, rfl, _, rfl, ?_⟩)
          refine lcw_filter (j := 8) (by decide) (goalsOf c.wanted n) (fThing K) (fThing K) (fun t => decide (t ∉ gave)) (by omega) (fun t ht s H C1 cl fp => b_cmp (op_notInT (α := Thing) hr (by decide)) <| v_var 8 ⟨_, rfl, v_var 10 ⟨_, rfl, _, ninTT_dec, rfl, rfl⟩⟩) (fun t ht hk s H C1 cl fp => v_var 8 ⟨_, rfl, rfl, rfl⟩) ?_
          refine a_nil ⟨_, _, rfl, ?_⟩
          have hal := List.length_filter_le (fun t => decide (t ∉ gave)) (goalsOf c.wanted n)
          have ham : ∀ t ∈ (goalsOf c.wanted n).filter (fun t => decide (t ∉ gave)), t ∈ goalsOf c.wanted n ∧ t ∉ gave := fun t ht => ⟨(List.mem_filter.mp ht).1, of_decide_eq_true (List.mem_filter.mp ht).2⟩
          generalize (goalsOf c.wanted n).filter (fun t => decide (t ∉ gave)) = asked at hal ham
          show PD _ _ [.fz fSrc, .fz (fPlan K c), .fz (fLst K (rl.map (fRl K))), .fz (fInt (n : Nat)), .fz (fLst K ((thingsOf c n).map (fThing K))), .fz (fLst K ((goalsOf c.wanted n).map (fThing K))), .fz (fLst K (gone.map (fThing K))), s7, .no, s9, .fz (fTup K (gave.map (fThing K))), .fz (fLst K ((laidOf c.ins c.outs c.rows n).map (fTriple K))), .fz (fLst K ((keptL c n gone).map (fThing K))), .fz (fLst K (asked.map (fThing K))), s14, s15, s16] _
          refine d_one <| p_for (pgn 14 sc_right.nd) <| i_list <| v_var 2 ⟨_, rfl, _, rfl, ?_⟩
          refine ⟨fun i Γ => ∃ s14, Γ = [.fz fSrc, .fz (fPlan K c), .fz (fLst K (rl.map (fRl K))), .fz (fInt (n : Nat)), .fz (fLst K ((thingsOf c n).map (fThing K))), .fz (fLst K ((goalsOf c.wanted n).map (fThing K))), .fz (fLst K (gone.map (fThing K))), s7, .no, s9, .fz (fTup K (gave.map (fThing K))), .fz (fLst K ((laidOf c.ins c.outs c.rows n).map (fTriple K))), .fz (fLst K ((keptL c n gone).map (fThing K))), .fz (fLst K (asked.map (fThing K))), s14, s15, s16], ⟨_, rfl⟩, ?_, ?_⟩
          · rintro q P1 Γq hP1 ⟨s14, rfl⟩
            obtain ⟨r, hr0, rfl⟩ := map_at hP1
            have R := hrk r (List.mem_of_getElem? hr0)
            refine dt_name ?_
            show PD _ _ [.fz fSrc, .fz (fPlan K c), .fz (fLst K (rl.map (fRl K))), .fz (fInt (n : Nat)), .fz (fLst K ((thingsOf c n).map (fThing K))), .fz (fLst K ((goalsOf c.wanted n).map (fThing K))), .fz (fLst K (gone.map (fThing K))), s7, .no, s9, .fz (fTup K (gave.map (fThing K))), .fz (fLst K ((laidOf c.ins c.outs c.rows n).map (fTriple K))), .fz (fLst K ((keptL c n gone).map (fThing K))), .fz (fLst K (asked.map (fThing K))), .fz (fRl K r), s15, s16] _
            refine d_one <| p_no <| b_not <| b_val <| v_call CX hr <| a_cons <| v_call CF hr <| a_cons <| v_var 4 ⟨_, rfl, a_cons <| v_var 11 ⟨_, rfl, a_cons <| v_var 14 ⟨_, rfl, a_nil ⟨thingsOf c n, laidOf c.ins c.outs c.rows n, r.1, r.2.1, r.2.2.1, r.2.2.2, rfl, R, things_nodup S, by omega, fun fs hfs hfl => ?_⟩⟩⟩⟩
            refine a_cons <| v_var 12 ⟨_, rfl, a_cons <| v_var 13 ⟨_, rfl, a_nil ⟨fs, keptL c n gone, asked, rfl, by omega, by omega, by omega, ?_, ?_, ?_, true, rfl, rfl, _, rfl⟩⟩⟩
            · intro f hf t ht
              rw [(hfs f hf).keys]
              exact kept_in S hn1 t ht
            · intro f hf t ht
              rw [(hfs f hf).keys]
              exact goals_in S t (ham t ht).1
            · intro f hf g hg hv
              exact vals_eq.mpr fun t ht => fixed_ok S R (hfs f hf) (hfs g hg) (vals_eq.mp hv) t (hg2 t (ham t ht).1 (ham t ht).2)
          · rintro Γn ⟨s14, rfl⟩
            exact ⟨_, _, _, _, _, _, _, _, _, _, _, _, _, _, rfl⟩
    · exact d_one <| p_ret <| v_bl hW
abbrev s_law : Stmt := top 71
def d_law (K : PySem.W.Frag) : DSp := fun Ps W => ∃ ns : List Int, Ps = [fCells K ns] ∧ W (fBl true)
abbrev N_law : List Str := ["_law_cells", "_law_k"]
theorem sc_law : FnScope N_law ["_law_cells"] (defScope s_law) := ⟨rfl, rfl, rfl, by decide +kernel, rfl, by decide +kernel, by decide +kernel⟩
theorem fn_law {f : Addr} {fd : FuncData} (B : Free mg) (C1 : Cal P w K mg base 1 "_law_cell" [] (d_cell K)) (C2 : Cal P w K mg base 1 "_law_source" [] d_source) (C3 : Cal P w K mg base 9 "_law_right" [] d_right) (F : FnP K "law" "law" s_law [] [] f fd) : FnOk P w K mg base CX0 10 f fd ["_law_cells"] (spD (d_law K)) := by
  refine fn_d F sc_law (fun Ps W h => ?_) fun cdv A0 outer s H E0 Ps W hr h => ?_
  · obtain ⟨ns, rfl, _⟩ := h
    rfl
  · obtain ⟨ns, rfl, hW⟩ := h
    refine d_cons <| p_for (pgn 1 sc_law.nd) <| i_range B.range <| v_callB (call_mx rfl) B.max <| a_cons <| v_int <| a_cons <| v_callB (call_mn rfl) B.min <| a_cons <| v_callB call_ln B.len <| a_cons <| v_var 0 ⟨_, rfl, a_nil ⟨_, oc_lenC, a_cons <| v_int <| a_nil ⟨_, oc_min, a_nil ⟨_, oc_max, _, rfl, ?_, ?_, ?_⟩⟩⟩⟩
    · split <;> split at * <;> omega
    · split <;> split at * <;> omega
    have hm : (if (if (3 : Int) < (ns.length : Nat) then (3 : Int) else (ns.length : Nat)) > 2 then (if (3 : Int) < (ns.length : Nat) then (3 : Int) else (ns.length : Nat)) else 2) ≤ 3 := by
      split <;> split at * <;> omega
    generalize (if (if (3 : Int) < (ns.length : Nat) then (3 : Int) else (ns.length : Nat)) > 2 then (if (3 : Int) < (ns.length : Nat) then (3 : Int) else (ns.length : Nat)) else 2) = m at hm
    refine ⟨fun i Γ => ∃ s1, Γ = [.fz (fCells K ns), s1], ⟨_, rfl⟩, ?_, fun Γn _ => d_one <| p_ret <| v_bl hW⟩
    rintro i P0 Γi hP ⟨s1, rfl⟩
    obtain ⟨k, hk, rfl⟩ := map_at hP
    have hk2 := List.getElem?_eq_some_iff.mp hk
    have hkm : i < m.toNat := by
      have := hk2.1
      rw [List.length_range] at this
      exact this
    have ek : k = i := by
      have := hk2.2
      rw [List.getElem_range] at this
      exact this.symm
    subst ek
    refine dt_name ?_
    show PD _ _ [.fz (fCells K ns), .fz (fInt (k : Nat))] _
    exact d_one <| p_no <| b_not <| b_val <| v_call C3 hr <| a_cons <| v_call C2 hr <| a_cons <| v_call C1 hr <| a_cons <| v_var 0 ⟨_, rfl, a_cons <| v_var 1 ⟨_, rfl, a_nil ⟨ns, k, rfl, by omega, fun j => a_nil ⟨j, rfl, a_nil ⟨rfl, true, rfl, rfl, _, rfl⟩⟩⟩⟩⟩
end
end TB

namespace TbHead
open PySem PyProof.Rows L2 DL TB
theorem tupV_ok {K : PySem.W.Frag} {a : Addr} {vs : List Value} {xs : List V} (h : tupV K a = some vs) (r : Vals xs vs) (H : Hp) : SqT K H a xs := by
  unfold tupV at h
  cases q : K.lookup a with
  | none =>
    rw [q] at h
    cases h
  | some o =>
    obtain ⟨oc, od, dt, sl⟩ := o
    rw [q] at h
    cases oc with
    | type c =>
      cases dt with
      | seq its n =>
        have h1 : (match decide (c = "tuple") && decide (its.size ≤ sizeLine) with | true => some its.toList | false => none) = some vs := h
        cases z : decide (c = "tuple") && decide (its.size ≤ sizeLine) with
        | false =>
          rw [z] at h1
          cases h1
        | true =>
          rw [z] at h1
          obtain ⟨z1, z2⟩ := He.ba z
          have e1 : its.toList = vs := Option.some.inj h1
          refine .inr ⟨_, its, n, q, congrArg Value.type (of_decide_eq_true z1), rfl, of_decide_eq_true z2, ?_⟩
          rw [e1]
          exact r
      | _ => cases h
    | _ => cases dt <;> cases h
theorem t3B_ok {K : PySem.W.Frag} {u : Value} {x : I3} (h : t3B K u x = true) : ∃ v, RelV v u ∧ ∀ H, (fT3 K x).p v H := by
  cases u with
  | ref a =>
    have h1 : (match tupV K a with | some vs => He.relAll [.int x.1, .int x.2.1, .int x.2.2] vs | none => false) = true := h
    cases q : tupV K a with
    | none =>
      rw [q] at h1
      cases h1
    | some vs =>
      rw [q] at h1
      exact ⟨.ref a, rfl, fun H => ⟨a, _, rfl, tupV_ok q (He.relAll_ok h1) H, .cons rfl (.cons rfl (.cons rfl .nil))⟩⟩
  | _ => cases h
theorem t3sB_ok {K : PySem.W.Frag} : ∀ {us : List Value} {xs : List I3}, t3sB K us xs = true → ∃ vs, Vals vs us ∧ ∀ H, AllP vs (xs.map (fT3 K)) H
  | [], [], _ => ⟨[], .nil, fun _ => .nil⟩
  | [], _ :: _, h => by cases h
  | _ :: _, [], h => by cases h
  | u :: us, x :: xs, h => by
    obtain ⟨h1, h2⟩ := He.ba (show (t3B K u x && t3sB K us xs) = true from h)
    obtain ⟨v, r, hv⟩ := t3B_ok h1
    obtain ⟨vs, rs, hvs⟩ := t3sB_ok h2
    exact ⟨v :: vs, .cons r rs, fun H => .cons (hv H) (hvs H)⟩
theorem lotB_ok {K : PySem.W.Frag} {z : Str} (h : lotB K z = true) : ∃ u v, PySem.W.nsIn K (He.ga K "LOTS") z = some (some u) ∧ RelV v u ∧ ∀ H, (fTup K ((turnsOf z).map (fT3 K))).p v H := by
  unfold lotB at h
  cases q : PySem.W.nsIn K (He.ga K "LOTS") z with
  | none =>
    rw [q] at h
    cases h
  | some r =>
    rw [q] at h
    cases r with
    | none => cases h
    | some u =>
      cases u with
      | ref a =>
        have h1 : (match tupV K a with | some vs => t3sB K vs (turnsOf z) | none => false) = true := h
        cases q2 : tupV K a with
        | none =>
          rw [q2] at h1
          cases h1
        | some us =>
          rw [q2] at h1
          obtain ⟨vs, rs, hvs⟩ := t3sB_ok h1
          exact ⟨.ref a, .ref a, rfl, rfl, fun H => ⟨a, vs, rfl, tupV_ok q2 rs H, hvs H⟩⟩
      | _ => cases h
theorem emptB_ok {K : PySem.W.Frag} {a : Addr} (h : emptB K a = true) : ∀ H, (fTup K []).p (.ref a) H := fun H => by
  unfold emptB at h
  cases q : tupV K a with
  | none =>
    rw [q] at h
    cases h
  | some vs =>
    rw [q] at h
    have e : vs = [] := List.isEmpty_iff.mp h
    subst e
    exact ⟨a, [], rfl, tupV_ok q .nil H, .nil⟩
section
variable {K : PySem.W.Frag}
theorem insB_ok {C : Addr} (h : insB K C = true) (cl : Cls K C) (h1 : PySem.W.specialIn K (.builtin "object.__class__") "__get__" = some (some (.builtin "getset_descriptor.__get__"))) (h2 : PySem.W.takesIn K (.builtin "object.__class__") = some true) : InsK K C := by
  obtain ⟨a, h⟩ := He.ba h
  obtain ⟨b, c⟩ := He.ba h
  exact ⟨cl, He.eqO_ok a, h1, h2, of_decide_eq_true b, of_decide_eq_true c⟩
structure Ex (K : PySem.W.Frag) : Prop where
  i1 : insB K (He.ga K "Kind") = true
  i2 : insB K (He.ga K "Cell") = true
  sp : PySem.W.specialIn K (.builtin "object.__class__") "__get__" = some (some (.builtin "getset_descriptor.__get__"))
  tk : PySem.W.takesIn K (.builtin "object.__class__") = some true
  lots : ∀ z ∈ words, lotB K z = true
  em : emptB K (He.dflAt ("check_names", none) 1 K) = true
  p1 : PySem.W.findIn K (.ref (He.ga K "Kind")) "lot" = some (some (.ref (lotP K)))
  p2 : PySem.W.specialIn K (.ref (lotP K)) "__get__" = some (some (.builtin "property.__get__"))
  p3 : PySem.W.takesIn K (.ref (lotP K)) = some true
  p4 : ∃ rest, PySem.W.recIn K (lotP K) "property" = some (.ref (lotG K) :: rest)
  kp : PySem.W.keepIn K (.ref (lotG K)) = true
  cd : ∃ oc od fd sl, K.lookup (lotG K) = some ⟨oc, od, .func fd, sl⟩ ∧ PySem.W.codeIn K fd.code "Kind.lot" = true ∧ fd.defaults = .none
theorem ex_of (h : exB K = true) : Ex K := by
  obtain ⟨a1, h⟩ := He.ba h
  obtain ⟨a2, h⟩ := He.ba h
  obtain ⟨a3, h⟩ := He.ba h
  obtain ⟨a4, h⟩ := He.ba h
  obtain ⟨a5, h⟩ := He.ba h
  obtain ⟨a6, h⟩ := He.ba h
  obtain ⟨a7, h⟩ := He.ba h
  obtain ⟨a8, h⟩ := He.ba h
  obtain ⟨a9, h⟩ := He.ba h
  obtain ⟨a10, h⟩ := He.ba h
  obtain ⟨a11, a12⟩ := He.ba h
  refine ⟨a1, a2, He.eqO_ok a3, of_decide_eq_true a4, List.all_eq_true.mp a5, a6, He.eqO_ok a7, He.eqO_ok a8, of_decide_eq_true a9, ?_, a11, ?_⟩
  · cases q : PySem.W.recIn K (lotP K) "property" with
    | none =>
      rw [q] at a10
      cases a10
    | some l =>
      rw [q] at a10
      cases l with
      | nil => cases a10
      | cons v rest =>
        cases v with
        | ref g' =>
          have e : g' = lotG K := of_decide_eq_true a10
          exact ⟨rest, by rw [e]⟩
        | _ => cases a10
  · cases q : K.lookup (lotG K) with
    | none =>
      rw [q] at a12
      cases a12
    | some o =>
      obtain ⟨oc, od, dt, sl⟩ := o
      rw [q] at a12
      cases dt with
      | func fd =>
        obtain ⟨b1, b2⟩ := He.ba a12
        refine ⟨oc, od, fd, sl, rfl, b1, ?_⟩
        cases e : fd.defaults with
        | none => rfl
        | _ =>
          rw [e] at b2
          cases b2
      | _ => cases a12
theorem lot_fun (X : Ex K) (h : lotW K = lotV) : ∃ fd, FunD K "lot" "Kind.lot" (defArgs s_k_lot) (defBody s_k_lot) (defScope s_k_lot) [] [] (lotG K) fd := by
  obtain ⟨oc, od, fd, sl, lk, hc, hd⟩ := X.cd
  unfold lotW at h
  rw [lk] at h
  obtain ⟨n1, n2, n3, n4, n5, n6, n7, n8, n9, n10, n11, n12, n13, n14, n15⟩ := fd
  have h2 : (some (n1, n2, n3, n4, n5, n6, n7, n15) : He.FnW) = (some (("lot" : Str), ("Kind.lot" : Str), defArgs (meth 31 2), FuncBody.stmts (defBody (meth 31 2)), defScope (meth 31 2), mainGlobals, [], builtinsNs) : He.FnW) := h
  simp only [Option.some.injEq, Prod.mk.injEq] at h2
  obtain ⟨e1, e2, e3, e4, e5, e6, e7, e8⟩ := h2
  have hd : n8 = .none := hd
  subst e1 e2 e3 e4 e5 e6 e7 e8 hd
  exact ⟨_, ⟨oc, od, .none, n9, n10, n11, n12, n13, n14, sl, rfl, lk, hc, .inl ⟨rfl, rfl⟩, .inl rfl⟩, X.kp⟩
end
section
variable {P : Program} {w : World} {K : PySem.W.Frag} {h : Heap} {mg : Str → Option Value}
theorem has_of (X : K.In h) (G : h.Ns mainGlobals mg) (c : He.SaysD fa fn K) {x : Str} {i : Nat} (j k : Nat) (hd : fn[j]? = some (dF x i)) (hf : fa[k]? = some (.glo x)) : HasF K mg x (top i) [] := by
  obtain ⟨fd, F⟩ := c.def_ j hd
  exact ⟨_, fd, He.glo_ok X G (c.fact k hf), F⟩
def spLaw (K : PySem.W.Frag) : Sp := fun vs H Q _ => ∃ (a : Addr) (ns : List Int), vs = [.ref a] ∧ SqL K H a (ns.map V.int) ∧ ∀ H', Q (.bl true) H'
theorem facts (X : K.In h) (G : h.Ns mainGlobals mg) {f : Addr} (hfa : mg ("law" : Str) = some (.ref f)) (z : obsZ K = valZ w) :
    ∃ fd : FuncData, (∀ (s : Shared) (v : Value), BindsTo s fd ⟨[v], []⟩ [("_law_cells", v)]) ∧ ∀ base : Heap, K.In base → base.Ns mainGlobals mg → FnOk P w K mg base CX0 10 f fd ["_law_cells"] (spLaw K) := by
  have cT : He.SaysT fa fn ts w K := congrArg (fun q : AlZ => q.1) z
  have eX : Ex K := ex_of (congrArg (fun q : AlZ => q.2.1) z)
  have eL : lotW K = lotV := congrArg (fun q : AlZ => q.2.2) z
  have c : He.SaysD fa fn K := cT.d
  obtain ⟨fd, F⟩ := c.def_ 39 (d := ⟨("law", none), "law", "law", defArgs (top 71), defBody (top 71), defScope (top 71), [], []⟩) rfl
  obtain ⟨fdC, FC⟩ := c.def_ 38 (d := ⟨("check_names", none), "check_names", "check_names", defArgs (top 28), defBody (top 28), defScope (top 28), [.non, .adr (He.dflAt ("check_names", none) 1)], []⟩) rfl
  obtain ⟨fdK, FK⟩ := c.def_ 40 (d := ⟨("Kind", some "__init__"), "__init__", "Kind.__init__", defArgs (meth 31 0), defBody (meth 31 0), defScope (meth 31 0), [], [("calm", .bl false)]⟩) rfl
  obtain ⟨fdI, FI⟩ := c.def_ 41 (d := ⟨("Kind", some "images"), "images", "Kind.images", defArgs (meth 31 3), defBody (meth 31 3), defScope (meth 31 3), [], []⟩) rfl
  obtain ⟨fdE, FE⟩ := c.def_ 42 (d := ⟨("Cell", some "__init__"), "__init__", "Cell.__init__", defArgs (meth 41 0), defBody (meth 41 0), defScope (meth 41 0), [], [("begin", .adr (kwAt "__init__" "begin")), ("end", .adr (kwAt "__init__" "end"))]⟩) rfl
  obtain ⟨fdL, FL⟩ := lot_fun eX eL
  have e := hfa.symm.trans (He.glo_ok X G (c.fact 39 (f := .glo "law") rfl))
  cases e
  have B : Free mg := ⟨He.free_ok X G (c.fact 43 (f := .free "isinstance") rfl), He.free_ok X G (c.fact 44 (f := .free "int") rfl), He.free_ok X G (c.fact 45 (f := .free "bool") rfl), He.free_ok X G (c.fact 46 (f := .free "str") rfl), He.free_ok X G (c.fact 47 (f := .free "tuple") rfl), He.free_ok X G (c.fact 48 (f := .free "list") rfl), He.free_ok X G (c.fact 49 (f := .free "dict") rfl), He.free_ok X G (c.fact 50 (f := .free "len") rfl), He.free_ok X G (c.fact 51 (f := .free "all") rfl), He.free_ok X G (c.fact 52 (f := .free "enumerate") rfl), He.free_ok X G (c.fact 53 (f := .free "range") rfl), He.free_ok X G (c.fact 54 (f := .free "sorted") rfl), He.free_ok X G (c.fact 55 (f := .free "abs") rfl), He.free_ok X G (c.fact 56 (f := .free "divmod") rfl), He.free_ok X G (c.fact 57 (f := .free "min") rfl), He.free_ok X G (c.fact 58 (f := .free "max") rfl)⟩
  have clK := He.cls_ok (c.fact 67 (f := .cls "Kind") rfl)
  have clC := He.cls_ok (c.fact 68 (f := .cls "Cell") rfl)
  have inK := insB_ok eX.i1 clK eX.sp eX.tk
  have inC := insB_ok eX.i2 clC eX.sp eX.tk
  have gK := He.glo_ok X G (c.fact 40 (f := .glo "Kind") rfl)
  have gC := He.glo_ok X G (c.fact 41 (f := .glo "Cell") rfl)
  have E1 : KindE w K mg (He.ga K "Kind") (He.ga K "LOTS") := ⟨gK, He.glo_ok X G (c.fact 42 (f := .glo "LOTS") rfl), inK, He.noat_ok (c.fact 69 (f := .noat "Kind" "turns") rfl), He.noat_ok (c.fact 70 (f := .noat "Kind" "calm") rfl), cT.tab 0 rfl, fun z hz => lotB_ok (eX.lots z hz)⟩
  have E2 : CellE K mg (He.ga K "Cell") := ⟨gC, inC, He.noat_ok (c.fact 71 (f := .noat "Cell" "kind") rfl), He.noat_ok (c.fact 72 (f := .noat "Cell" "ins") rfl), He.noat_ok (c.fact 73 (f := .noat "Cell" "inner") rfl), He.noat_ok (c.fact 74 (f := .noat "Cell" "outs") rfl), He.noat_ok (c.fact 75 (f := .noat "Cell" "triples") rfl), He.noat_ok (c.fact 76 (f := .noat "Cell" "stored") rfl), He.noat_ok (c.fact 77 (f := .noat "Cell" "wanted") rfl), He.noat_ok (c.fact 78 (f := .noat "Cell" "begin") rfl), He.noat_ok (c.fact 79 (f := .noat "Cell" "end") rfl)⟩
  refine ⟨fd, fun s v => FunD.bindsA (ps := ["_law_cells"]) F (fun _ _ _ _ _ _ us hl => match us, hl with | [_], _ => rfl) s [v] rfl, fun base Kb Gb => ?_⟩
  have c1 := ok_is_integer (P := P) (w := w) (base := base) B (has_of X G c 0 0 (x := "is_integer") (i := 24) rfl rfl)
  have c2 := ok_is_within c1 (has_of X G c 1 1 (x := "is_within") (i := 25) rfl rfl)
  have c3 := ok_is_row (P := P) (w := w) (base := base) B (has_of X G c 3 3 (x := "is_row") (i := 27) rfl rfl)
  have c4 := ok_is_name (P := P) (w := w) (base := base) B (He.str_ok X G (c.fact 65 (f := .str "LETTERS" LET) rfl)) (He.str_ok X G (c.fact 66 (f := .str "SIGNS" SIG) rfl)) (He.int_ok X G (c.fact 64 (f := .int "LONGEST_NAME" 8) rfl)) (has_of X G c 2 2 (x := "is_name") (i := 26) rfl rfl)
  have k1 := ok_k_init (P := P) (w := w) (base := base) B E1 ⟨_, fdK, He.mkr_ok (c.fact 81 (f := .mkr "Kind") rfl), FK⟩
  have k2 := ok_k_lot (P := P) (w := w) (base := base) E1 ⟨lotP K, lotG K, fdL, ⟨eX.p1, eX.p2, eX.p3, eX.p4⟩, FL⟩
  have k3 := ok_k_images (P := P) (w := w) (base := base) B E1 c1 c3 k2 ⟨_, fdI, He.meth_ok (c.fact 80 (f := .meth "Kind" "images") rfl), FI⟩
  have c5 := ok_check_kind (P := P) (w := w) (base := base) B E1 (has_of X G c 4 4 (x := "check_kind") (i := 32) rfl rfl)
  have c6 := ok_check_cell (P := P) (w := w) (base := base) (CK := He.ga K "Kind") B E2 (has_of X G c 10 10 (x := "check_cell") (i := 42) rfl rfl)
  have c7 := ok_check_count c2 (He.int_ok X G (c.fact 63 (f := .int "MOST_CELLS" 200) rfl)) (has_of X G c 16 16 (x := "check_count") (i := 48) rfl rfl)
  have c8 := ok_keys_of (P := P) (w := w) (base := base) (has_of X G c 5 5 (x := "keys_of") (i := 34) rfl rfl)
  have c9 := ok_thing_of (P := P) (w := w) (base := base) (CK := He.ga K "Kind") E2 (has_of X G c 11 11 (x := "thing_of") (i := 43) rfl rfl)
  have c10 := ok_copies_of B c9 (has_of X G c 12 12 (x := "copies_of") (i := 44) rfl rfl)
  have c11 := ok_chain_triples E2 c10 (has_of X G c 13 13 (x := "chain_triples") (i := 45) rfl rfl)
  have c12 := ok_kept (P := P) (w := w) (base := base) (CK := He.ga K "Kind") B E2 (has_of X G c 15 15 (x := "kept_things") (i := 47) rfl rfl)
  have c13 := cns_of (P := P) (w := w) (base := base) (e := He.dflAt ("check_names", none) 1 K) B c4 ⟨_, fdC, He.glo_ok X G (c.fact 38 (f := .glo "check_names") rfl), FC⟩ (emptB_ok eX.em)
  have c14 := ok_check_sides B c13 (He.int_ok X G (c.fact 59 (f := .int "MOST_SIDE" 3) rfl)) (He.int_ok X G (c.fact 60 (f := .int "MOST_INNER" 6) rfl)) (has_of X G c 8 8 (x := "check_sides") (i := 39) rfl rfl)
  have c15 := ok_check_ct B c3 (He.int_ok X G (c.fact 61 (f := .int "MOST_TRIPLES" 8) rfl)) (has_of X G c 9 9 (x := "check_cell_triples") (i := 40) rfl rfl)
  have c16 := ok_check_lost (CK := He.ga K "Kind") B E2 c3 c2 (has_of X G c 17 17 (x := "check_lost") (i := 49) rfl rfl)
  have c17 := ok_table_of B E1 c8 k3 (has_of X G c 6 6 (x := "table_of") (i := 35) rfl rfl)
  have c18 := ok_check_clash B E2 c11 c17 (has_of X G c 14 14 (x := "check_clash") (i := 46) rfl rfl)
  have c19 := ok_got (P := P) (w := w) (base := base) B (has_of X G c 7 7 (x := "got_things") (i := 37) rfl rfl)
  have k4 := ok_c_init B E2 c5 c14 c15 c13 c18 (He.int_ok X G (c.fact 62 (f := .int "MOST_STORED" 6) rfl)) ⟨_, fdE, He.mkr_ok (c.fact 82 (f := .mkr "Cell") rfl), FE⟩
  have c20 := ok_untold B E2 c6 c7 c16 c19 c11 c12 (has_of X G c 18 18 (x := "untold") (i := 50) rfl rfl)
  have d1 := ok_cell (P := P) (w := w) (base := base) B (has_of X G c 19 19 (x := "_law_cell") (i := 52) rfl rfl)
  have d2 := ok_source (P := P) (w := w) (base := base) B (has_of X G c 20 20 (x := "_law_source") (i := 53) rfl rfl)
  have d3 := ok_draw (P := P) (w := w) (base := base) B (has_of X G c 21 21 (x := "_law_draw") (i := 54) rfl rfl)
  have d4 := ok_names B d3 (has_of X G c 22 22 (x := "_law_names") (i := 55) rfl rfl)
  have d5 := ok_sort B d3 (has_of X G c 23 23 (x := "_law_sort") (i := 56) rfl rfl)
  have d6 := ok_turns (P := P) (w := w) (base := base) (has_of X G c 24 24 (x := "_law_turns") (i := 57) rfl rfl)
  have d7 := ok_lthing (P := P) (w := w) (base := base) (has_of X G c 25 25 (x := "_law_thing") (i := 58) rfl rfl)
  have d8 := ok_laid B d7 (has_of X G c 26 26 (x := "_law_laid") (i := 59) rfl rfl)
  have d9 := ok_lclash B d6 (has_of X G c 27 27 (x := "_law_clashing") (i := 60) rfl rfl)
  have d10 := ok_lrow B d3 (has_of X G c 28 28 (x := "_law_row") (i := 61) rfl rfl)
  have d11 := ok_lsome d3 (has_of X G c 29 29 (x := "_law_some") (i := 62) rfl rfl)
  have d12 := ok_plan B d3 d4 d5 d10 d9 d8 d11 (has_of X G c 30 30 (x := "_law_plan") (i := 63) rfl rfl)
  have d13 := ok_made B gK gC k1 k4 (has_of X G c 31 31 (x := "_law_made") (i := 64) rfl rfl)
  have d14 := ok_lkept (P := P) (w := w) (base := base) B (has_of X G c 32 32 (x := "_law_kept") (i := 65) rfl rfl)
  have d15 := ok_rule d3 (has_of X G c 33 33 (x := "_law_rule") (i := 66) rfl rfl)
  have d16 := ok_holds (P := P) (w := w) (base := base) B (has_of X G c 35 35 (x := "_law_holds") (i := 68) rfl rfl)
  have d17 := ok_fillings B d16 (has_of X G c 34 34 (x := "_law_fillings") (i := 67) rfl rfl)
  have d18 := ok_fixed (P := P) (w := w) (base := base) B (has_of X G c 36 36 (x := "_law_fixed") (i := 69) rfl rfl)
  have d19 := ok_right B d3 d12 d15 c20 d13 d8 d14 d18 d17 (has_of X G c 37 37 (x := "_law_right") (i := 70) rfl rfl)
  refine (fn_law B d1 d2 d19 F).imp fun vs H Q E hq => ?_
  obtain ⟨a, ns, rfl, hS, hQ⟩ := hq
  refine ⟨H, [fCells K ns], fun R => R = fBl true, Evl.Ex.refl _, .cons ⟨a, rfl, hS⟩ .nil, ⟨ns, rfl, rfl⟩, fun v H' F' P' e hp _ => ?_⟩
  subst e
  have hp : v = .bl true := hp
  rw [hp]
  exact hQ H'
end
end TbHead
open PySem PySem.W PySem.Calls PyProof.Rows
theorem PySem.Challenge.cw_thirdback_k92_whole_told_things_in_filli_holds : PySem.Challenge.rw_thirdback_k92_whole_told_things_in_filli.Holds := by
  w_on; o_law
  refine HandSHeadRun.head_any (r := TbHead.RowR) (q := TbHead.qv) (H := TbHead.hkZ) (ob := TbHead.ob) (M := 8000) (loose := TbHead.loose) (d := HandSHeadRun.topDef TbHead.RowR.prog 71) (kwd := []) TbHead.ob_eq
    (by kernel_rfl) (fun s => by kernel_rfl) TbHead.run (by kernel_rfl) (by kernel_rfl) (by kernel_rfl) (by rfl) (by first | assumption | decide +kernel) (by decide +kernel) ⟨rfl, rfl, rfl, rfl, rfl, by decide +kernel⟩ ?hw ?hc
  case hw => w_witness2
  case hc =>
    refine L2.walk_ofE (l := PySem.Challenge.rw_thirdback_k92_whole_told_things_in_filli) (n := 63) (k := 10) (x := "_law_cells") (CX := L2.CX0) rfl (by decide) (by kernel_rfl) ⟨rfl, by decide, by decide⟩ ?F (fun _ _ _ _ z => z)
    intro w mg fa h Y G hmg0
    obtain ⟨K, KX, z⟩ := Y
    have hmg : mg ("law" : PySem.Str) = some (.ref fa) := by
      have e : (HandSHeadRun.topDef TbHead.RowR.prog 71).name = ("law" : PySem.Str) := by kernel_rfl
      rw [← e]
      exact hmg0
    obtain ⟨fd, hb, hF⟩ := TbHead.facts (P := (PySem.Challenge.rw_thirdback_k92_whole_told_things_in_filli).prog) (w := w) KX G hmg z
    exact ⟨K, fd, TbHead.spLaw K, KX, hb, fun H a ns hl _ hS => ⟨a, ns, rfl, hS, fun _ => rfl⟩, hF⟩

