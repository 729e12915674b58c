import PyProof.Rows.All
import HandS.SetTxt0
import HandS.Set
import HandS.SetFor
import HandS.Strs
import PyProof.Rows.SortStr
import PyProof.EqKinds
import Wide.All
import OpenK.AllK
import Wide.FinOn
import HandS.ForMost
import HandS.ForExc
import HandS.Flow
import HandS.Wide
import HandS.TupAny
import PyProof.NeKinds
import HandS.More
import HandS.Style
import HandS.DictComp
import HandS.RaiseMore
import HandS.Conv
import HandS.Text
import HandS.Finally
import HandS.ExcIs
import HandS.TryMany
import HandS.ExcOwn
import HandS.HeadWalk
import HandS.IsInst
import HandS.NoneIn
import KE.GoesEnum
import HandS.ListItems
import HandS.Zip
import HandS.Steps
import HandS.Small
import HandS.Defaults
import HandS.HeadHook2
import HandS.HeadEnd
import HandS.HeadHook3
import HandS.Head0
import HandS.Head1
import HandS.Head2
import KE.KStateDown
import PySem.Challenge.RW_holdwright_k37_papers_refute
set_option Elab.async false
set_option linter.all false
set_option maxRecDepth 100000
set_option maxHeartbeats 0
namespace DL
open PySem PySem.Spec PyProof.Rows L2
/-- a text, by its code points -/
abbrev Tx := List Nat
def tx (l : Tx) : Str := ⟨l.toArray⟩
/-- data: trees, and references to the store's cells -/
inductive D where
  | non | bl (b : Bool) | int (i : Int) | str (s : Tx)
  | tup (xs : List D) | lst (xs : List D) | klst (xs : List D) | dct (ks vs : List D)
  | ins (c : Nat) (ns : List Nat) (fs : List D) | exc (c : Nat) (ns : List Nat) (fs : List D)
  | ref (n : Nat)
  | pin (n : Nat) (d : D)
  deriving Inhabited
mutual
/-- a constant of the written part is a datum -/
def datB (K : PySem.W.Frag) : D → Value → Bool
  | .non, v => (match v with
    | .none => true
    | _ => false)
  | .bl b, v => (match v with
    | .bool c => c == b
    | _ => false)
  | .int i, v => (match v with
    | .int j _ => decide (j = i)
    | _ => false)
  | .str s, v => (match v with
    | .str z _ => decide (z = tx s)
    | _ => false)
  | .tup xs, v => (match v with
    | .ref a => (match K.lookup a with
      | some ⟨.type c, _, .seq its _, _⟩ => decide (c = "tuple") && decide (its.size ≤ sizeLine) && datBs K xs its.toList
      | _ => false)
    | _ => false)
  | .klst xs, v => (match v with
    | .ref a => (match K.lookup a with
      | some ⟨.type c, none, .seq its _, _⟩ => decide (c = "list") && decide (its.size ≤ sizeLine) && datBs K xs its.toList
      | _ => false)
    | _ => false)
  | _, _ => false
def datBs (K : PySem.W.Frag) : List D → List Value → Bool
  | [], l => l.isEmpty
  | d :: r, l => (match l with
    | v :: vs => datB K d v && datBs K r vs
    | [] => false)
end
def obsQ (ck : PySem.W.Frag → Bool) (fn : List He.DefD) (K : PySem.W.Frag) : He.AlD := (ck K && fn.all fun d => d.ok K, fn.map fun d => He.fnW K d.at_)
/-- a global is as the written part has it -/
def gloB (K : PySem.W.Frag) (x : Str) (v : Option Value) : Bool := decide (PySem.W.nsIn K mainGlobals x = some v)
def conB (K : PySem.W.Frag) (x : Str) (d : D) : Bool := match PySem.W.nsIn K mainGlobals x with
  | some (some v) => datB K d v
  | _ => false
/-- what stands in a law's program, by numbers -/
structure Hdr where
  fns : List (Str × Option Str)
  cls : List Str
  frees : List Str
  glos : List (Str × D)
  mths : List (Nat × Nat × Nat)
  flds : List (Nat × Nat)
  inis : List (Nat × Nat)
  subs : List (Nat × Nat)
  nms : List Str
  kds : List (Str × List (Tx × Tx)) := []
  xcs : List Nat := []
  bas : List (Nat × Str × Str) := []
def find3 (a b : Nat) : List (Nat × Nat × Nat) → Option Nat
  | [] => none
  | (x, y, z) :: r => match Nat.beq x a && Nat.beq y b with
    | true => some z
    | false => find3 a b r
def find2 (a : Nat) : List (Nat × Nat) → Option Nat
  | [] => none
  | (x, z) :: r => match Nat.beq x a with
    | true => some z
    | false => find2 a r
def has2 (a b : Nat) : List (Nat × Nat) → Bool
  | [] => false
  | (x, y) :: r => match Nat.beq x a && Nat.beq y b with
    | true => true
    | false => has2 a b r
def findB (a : Nat) : List (Nat × Str × Str) → Option (Str × Str)
  | [] => none
  | (x, z) :: r => match Nat.beq x a with
    | true => some z
    | false => findB a r
def Hdr.ca (h : Hdr) (K : PySem.W.Frag) (c : Nat) : Addr := He.ga K (h.cls.getD c ⟨#[]⟩)
def Hdr.fa (h : Hdr) (K : PySem.W.Frag) (f : Nat) : Addr := match h.fns[f]? with
  | some p => He.fAd K p
  | none => 0
/-- a written dict of texts -/
def kdB (K : PySem.W.Frag) (p : Str × List (Tx × Tx)) : Bool := gloB K p.1 (some (.ref (He.ga K p.1))) && p.2.all fun q => match PySem.W.nsIn K (He.ga K p.1) (tx q.1) with
  | some (some (.str z _)) => decide (z = tx q.2)
  | _ => false
def bTys : List String := ["int", "bool", "str", "tuple", "list", "dict"]
/-- a plain exception class of the program -/
def xcB (K : PySem.W.Frag) (C : Addr) : Bool :=
  PySem.W.excIn K C [.type "ValueError", .type "Exception", .type "BaseException", .type "object"] "ValueError.__new__" && (decide (PySem.W.subIn K (.ref C) (.type "BaseException") = some true) && (decide (PySem.W.typeIn K (.ref C) = some (.type "type")) &&
  (decide (PySem.W.findIn K (.ref C) "__getattribute__" = some (some (.builtin "BaseException.__getattribute__"))) && (decide (PySem.W.findIn K (.ref C) "__getattr__" = some none) && (PySem.W.hasDictIn K C &&
  (decide (PySem.W.findIn K (.ref C) "__class__" = some (some (.builtin "object.__class__"))) && (decide (PySem.W.specialIn K (.builtin "object.__class__") "__get__" = some (some (.builtin "getset_descriptor.__get__"))) &&
  (decide (PySem.W.takesIn K (.builtin "object.__class__") = some true) && (decide (PySem.W.mroIn K C (.type "object") = some true) && decide (PySem.W.kitOne K (.ref C) (.type "ValueError") = some true))))))))))
def Hdr.xck (h : Hdr) (K : PySem.W.Frag) : Bool := (h.xcs.all fun c => Nat.blt c h.cls.length && xcB K (h.ca K c)) && (h.xcs.all fun a => h.xcs.all fun b => decide (PySem.W.exmOne K (.ref (h.ca K a)) (.ref (h.ca K b)) = some (has2 a b h.subs)))
/-- a def called by its class's name -/
def baB (K : PySem.W.Frag) (C : Addr) (m : Str) (f : Addr) : Bool :=
  PySem.W.readsIn K C (.type "type") && (decide (PySem.W.specialIn K (.ref C) "__getattribute__" = some (some (.builtin "type.__getattribute__"))) && (match PySem.W.findCls K (.ref C) (.type "type") m with
    | some (.val (.ref a)) => decide (a = f)
    | _ => false))
def Hdr.bak (h : Hdr) (K : PySem.W.Frag) : Bool := h.bas.all fun p => gloB K p.2.1 (some (.ref (He.ga K p.2.1))) && (PySem.W.keepIn K (.ref (h.fa K p.1)) && baB K (He.ga K p.2.1) p.2.2 (h.fa K p.1))
/-- == and != are object's -/
def eqB (K : PySem.W.Frag) (C : Addr) : Bool := decide (PySem.W.findIn K (.ref C) "__eq__" = some (some (.builtin "object.__eq__"))) && (decide (PySem.W.findIn K (.ref C) "__ne__" = some (some (.builtin "object.__ne__"))) && decide (PySem.W.mroIn K C (.type "object") = some true))
/-- one check of the written part -/
def Hdr.ck (h : Hdr) (K : PySem.W.Frag) : Bool := (h.xck K && h.bak K) && (
  (h.kds.all fun p => kdB K p) && (
  (h.fns.all fun p => match p with
    | (x, none) => gloB K x (some (.ref (He.ga K x))) && PySem.W.keepIn K (.ref (He.ga K x))
    | _ => true) &&
  ((h.frees.all fun x => gloB K x none) && ((h.glos.all fun p => conB K p.1 p.2) &&
  ((h.cls.all fun x => gloB K x (some (.ref (He.ga K x))) && PySem.W.keepIn K (.ref (He.ga K x)) && ((PySem.W.clsIn K (He.ga K x)).isSome && PySem.W.typeIn K (.ref (He.ga K x)) == some (.type "type")) &&
      (bTys.all fun t => decide (PySem.W.kitOne K (.ref (He.ga K x)) (.type t) = some false)) && decide (PySem.W.findIn K (.ref (He.ga K x)) "__class__" = some (some (.builtin "object.__class__"))) &&
      decide (PySem.W.specialIn K (.builtin "object.__class__") "__get__" = some (some (.builtin "getset_descriptor.__get__"))) && decide (PySem.W.takesIn K (.builtin "object.__class__") = some true) && decide (PySem.W.mroIn K (He.ga K x) (.type "object") = some true)) &&
  (((List.range h.cls.length).all fun a => (List.range h.cls.length).all fun b => decide (PySem.W.kitOne K (.ref (h.ca K a)) (.ref (h.ca K b)) = some (has2 a b h.subs))) &&
  ((h.mths.all fun p => decide (PySem.W.findIn K (.ref (h.ca K p.1)) (h.nms.getD p.2.1 ⟨#[]⟩) = some (some (.ref (h.fa K p.2.2)))) && PySem.W.isFn K (.ref (h.fa K p.2.2)) && PySem.W.keepIn K (.ref (h.fa K p.2.2))) &&
  ((h.flds.all fun p => decide (PySem.W.findIn K (.ref (h.ca K p.1)) (h.nms.getD p.2 ⟨#[]⟩) = some none)) &&
  (h.inis.all fun p => (He.Fa.cls (h.cls.getD p.1 ⟨#[]⟩)).ok K && PySem.W.makesIn K (h.ca K p.1) && decide (PySem.W.findIn K (.ref (h.ca K p.1)) "__init__" = some (some (.ref (h.fa K p.2)))) && PySem.W.isFn K (.ref (h.fa K p.2)) && PySem.W.keepIn K (.ref (h.ca K p.1)) && eqB K (h.ca K p.1))))))))))
abbrev AlK : Type := He.AlD × List (Option (List (Option (Str × Int))))
def obsK (h : Hdr) (fn : List He.DefD) (K : PySem.W.Frag) : AlK := (obsQ h.ck fn K, h.kds.map fun p => He.dicW K (He.ga K p.1))
def valK (h : Hdr) (fn : List He.DefD) (w : World) : AlK := (He.valD fn, h.kds.map fun p => some (He.keysIn w.params (p.2.map fun q => tx q.1)))
def wfk (w : World) (b : Bool) : World := { w with params := { w.params with followText := fun r => match decide (r = "special-get-raises") with
  | true => b
  | false => w.params.followText r } }
def obsK1 (n : Nat) (h : Hdr) (fn : List He.DefD) (g : Addr → Option Obj) : AlK :=
  let K := He.frG g (He.asD g n ++ [PySem.cStatics])
  ((fn.all fun d => d.ok K, fn.map fun d => He.fnW K d.at_), h.kds.map fun p => He.dicW K (He.ga K p.1))
def obsK2 (n : Nat) (h : Hdr) (g : Addr → Option Obj) : Bool := h.ck (He.frG g (He.asD g n ++ [PySem.cStatics]))
noncomputable abbrev runOf (r : PySem.W.OpenRow) (M : Nat) (w : World) (os : OsState) : Option PySem.W.SharedT := HandSHeadRun.endF (HandSHeadRun.stepQ (HandSHeadRun.denQ HandSHeadRun.tabQ) r.prog w) M r.prog w os
def obsL1 (as : List Addr) (h : Hdr) (fn : List He.DefD) (g : Addr → Option Obj) : AlK :=
  let K := He.frG g as
  ((fn.all fun d => d.ok K, fn.map fun d => He.fnW K d.at_), h.kds.map fun p => He.dicW K (He.ga K p.1))
def obsL2 (as : List Addr) (h : Hdr) (g : Addr → Option Obj) : Bool := h.ck (He.frG g as)
end DL
namespace K37
open PySem PySem.Spec PyProof.Rows L2 DL
def top (i : Nat) : Stmt := PySem.Challenge.pw_holdwright_k37_papers_refute.main.body.getD i (.Pass ⟨0, 0, 0, 0⟩)
def mem (s : Stmt) (i : Nat) : Stmt := match s with
  | .ClassDef _ _ _ b _ _ _ _ _ _ _ => b.getD i (.Pass ⟨0, 0, 0, 0⟩)
  | _ => .Pass ⟨0, 0, 0, 0⟩
def hdr : Hdr where
  fns := ([("Sum", some "__init__"), ("Sum", some "plus"), ("Sum", some "times"), ("Sum", some "less"), ("sum_of", none), ("is_whole", none), ("is_row", none), ("is_line", none), ("is_adding", none), ("is_cutting", none), ("line_of", none), ("ends_by", none), ("is_parting", none), ("sound", none), ("refutes", none), ("_law_cell_at", none), ("_law_mixed", none), ("_law_next", none), ("_law_sums", none), ("_law_last", none), ("_law_built", none), ("_law_value", none), ("_law_boxes", none), ("_law_met", none)] : List (Str × Option Str)) ++ ([("_law_told", none), ("_law_added", none), ("_law_lines_right", none), ("_law_listed", none), ("law", none)] : List (Str × Option Str))
  cls := ["Sum"]
  frees := ["tuple", "sorted", "isinstance", "int", "bool", "list", "len", "enumerate", "range", "sum", "dict"]
  glos := [("MOST_SPLITS", .int (20))]
  mths := [(0, 2, 1), (0, 3, 2), (0, 4, 3)]
  flds := [(0, 0), (0, 1)]
  inis := [(0, 0)]
  subs := [(0, 0)]
  nms := ["terms", "number", "plus", "times", "less"]
  kds := []
  xcs := []
  bas := []
abbrev st0 : Stmt := mem (top 2) 0
def df0 : He.DefD := ⟨("Sum", some "__init__"), "__init__", "Sum.__init__", defArgs st0, defBody st0, defScope st0, [], []⟩
abbrev st1 : Stmt := mem (top 2) 2
def df1 : He.DefD := ⟨("Sum", some "plus"), "plus", "Sum.plus", defArgs st1, defBody st1, defScope st1, [], []⟩
abbrev st2 : Stmt := mem (top 2) 3
def df2 : He.DefD := ⟨("Sum", some "times"), "times", "Sum.times", defArgs st2, defBody st2, defScope st2, [], []⟩
abbrev st3 : Stmt := mem (top 2) 4
def df3 : He.DefD := ⟨("Sum", some "less"), "less", "Sum.less", defArgs st3, defBody st3, defScope st3, [], []⟩
abbrev st4 : Stmt := top 3
def df4 : He.DefD := ⟨("sum_of", none), "sum_of", "sum_of", defArgs st4, defBody st4, defScope st4, [], []⟩
abbrev st5 : Stmt := top 6
def df5 : He.DefD := ⟨("is_whole", none), "is_whole", "is_whole", defArgs st5, defBody st5, defScope st5, [], []⟩
abbrev st6 : Stmt := top 7
def df6 : He.DefD := ⟨("is_row", none), "is_row", "is_row", defArgs st6, defBody st6, defScope st6, [], []⟩
abbrev st7 : Stmt := top 8
def df7 : He.DefD := ⟨("is_line", none), "is_line", "is_line", defArgs st7, defBody st7, defScope st7, [], []⟩
abbrev st8 : Stmt := top 9
def df8 : He.DefD := ⟨("is_adding", none), "is_adding", "is_adding", defArgs st8, defBody st8, defScope st8, [], []⟩
abbrev st9 : Stmt := top 10
def df9 : He.DefD := ⟨("is_cutting", none), "is_cutting", "is_cutting", defArgs st9, defBody st9, defScope st9, [], []⟩
abbrev st10 : Stmt := top 11
def df10 : He.DefD := ⟨("line_of", none), "line_of", "line_of", defArgs st10, defBody st10, defScope st10, [], []⟩
abbrev st11 : Stmt := top 12
def df11 : He.DefD := ⟨("ends_by", none), "ends_by", "ends_by", defArgs st11, defBody st11, defScope st11, [], []⟩
abbrev st12 : Stmt := top 13
def df12 : He.DefD := ⟨("is_parting", none), "is_parting", "is_parting", defArgs st12, defBody st12, defScope st12, [], []⟩
abbrev st13 : Stmt := top 14
def df13 : He.DefD := ⟨("sound", none), "sound", "sound", defArgs st13, defBody st13, defScope st13, [], []⟩
abbrev st14 : Stmt := top 15
def df14 : He.DefD := ⟨("refutes", none), "refutes", "refutes", defArgs st14, defBody st14, defScope st14, [], []⟩
abbrev st15 : Stmt := top 17
def df15 : He.DefD := ⟨("_law_cell_at", none), "_law_cell_at", "_law_cell_at", defArgs st15, defBody st15, defScope st15, [], []⟩
abbrev st16 : Stmt := top 18
def df16 : He.DefD := ⟨("_law_mixed", none), "_law_mixed", "_law_mixed", defArgs st16, defBody st16, defScope st16, [], []⟩
abbrev st17 : Stmt := top 19
def df17 : He.DefD := ⟨("_law_next", none), "_law_next", "_law_next", defArgs st17, defBody st17, defScope st17, [], []⟩
abbrev st18 : Stmt := top 20
def df18 : He.DefD := ⟨("_law_sums", none), "_law_sums", "_law_sums", defArgs st18, defBody st18, defScope st18, [], []⟩
abbrev st19 : Stmt := top 21
def df19 : He.DefD := ⟨("_law_last", none), "_law_last", "_law_last", defArgs st19, defBody st19, defScope st19, [], []⟩
abbrev st20 : Stmt := top 22
def df20 : He.DefD := ⟨("_law_built", none), "_law_built", "_law_built", defArgs st20, defBody st20, defScope st20, [], []⟩
abbrev st21 : Stmt := top 23
def df21 : He.DefD := ⟨("_law_value", none), "_law_value", "_law_value", defArgs st21, defBody st21, defScope st21, [], []⟩
abbrev st22 : Stmt := top 24
def df22 : He.DefD := ⟨("_law_boxes", none), "_law_boxes", "_law_boxes", defArgs st22, defBody st22, defScope st22, [], []⟩
abbrev st23 : Stmt := top 25
def df23 : He.DefD := ⟨("_law_met", none), "_law_met", "_law_met", defArgs st23, defBody st23, defScope st23, [], []⟩
abbrev st24 : Stmt := top 26
def df24 : He.DefD := ⟨("_law_told", none), "_law_told", "_law_told", defArgs st24, defBody st24, defScope st24, [], []⟩
abbrev st25 : Stmt := top 27
def df25 : He.DefD := ⟨("_law_added", none), "_law_added", "_law_added", defArgs st25, defBody st25, defScope st25, [], []⟩
abbrev st26 : Stmt := top 28
def df26 : He.DefD := ⟨("_law_lines_right", none), "_law_lines_right", "_law_lines_right", defArgs st26, defBody st26, defScope st26, [], []⟩
abbrev st27 : Stmt := top 29
def df27 : He.DefD := ⟨("_law_listed", none), "_law_listed", "_law_listed", defArgs st27, defBody st27, defScope st27, [], []⟩
abbrev st28 : Stmt := top 30
def df28 : He.DefD := ⟨("law", none), "law", "law", defArgs st28, defBody st28, defScope st28, [], []⟩
def fn : List He.DefD := [df0, df1, df2, df3, df4, df5, df6, df7, df8, df9, df10, df11, df12, df13, df14, df15, df16, df17, df18, df19, df20, df21, df22, df23, df24, df25, df26, df27, df28]
def loose : List Str := (["_wall", "Sum", "sum_of", "MOST_SPLITS", "is_whole", "is_row", "is_line", "is_adding", "is_cutting", "line_of", "ends_by", "is_parting", "sound", "refutes", "_law_cell_at", "_law_mixed", "_law_next", "_law_sums", "_law_last", "_law_built", "_law_value", "_law_boxes", "_law_met", "_law_told"] : List Str) ++ (["_law_added", "_law_lines_right", "_law_listed"] : List Str)
abbrev R : PySem.W.OpenRow := PySem.W.OpenLaw.row PySem.Challenge.rw_holdwright_k37_papers_refute
theorem hrunF0 (w : World) : HandSHeadRun.RunEq R (PySem.W.view R.prog [30]) PySem.W.Hook.none (fun _ => ()) 3000 loose (wfk w false) := by
  intro os; kernel_rfl
theorem hrunF1 (w : World) : ∀ os : OsState, (runOf R 3000 (wfk w false) os).map (fun s => obsK1 4 hdr fn (HandSHeadRun.getT s)) = some (valK hdr fn (wfk w false)) := by
  intro os; kernel_rfl
theorem hrunF2 (w : World) : ∀ os : OsState, (runOf R 3000 (wfk w false) os).map (fun s => obsK2 4 hdr (HandSHeadRun.getT s)) = some true := by
  intro os; kernel_rfl
theorem hrunT0 (w : World) : HandSHeadRun.RunEq R (PySem.W.view R.prog [30]) PySem.W.Hook.none (fun _ => ()) 3000 loose (wfk w true) := by
  intro os; kernel_rfl
theorem hrunT1 (w : World) : ∀ os : OsState, (runOf R 3000 (wfk w true) os).map (fun s => obsK1 4 hdr fn (HandSHeadRun.getT s)) = some (valK hdr fn (wfk w true)) := by
  intro os; kernel_rfl
theorem hrunT2 (w : World) : ∀ os : OsState, (runOf R 3000 (wfk w true) os).map (fun s => obsK2 4 hdr (HandSHeadRun.getT s)) = some true := by
  intro os; kernel_rfl
end K37

/-! DL s: set(texts) and sorted(set(texts)) -/
namespace DL
open PySem PySem.Spec PyProof.Rows L2 PySem.Froz
/-- the payload of a set of texts, fit to be walked -/
structure TxW (P : Program) (w : World) (D : SD) (l : List Str) : Prop where
  ok : TxOk P w D l
  nd : l.Nodup
  ris : Ris D.2.2.place.toList
  led : w.params.followText "set-order" = true ∨ D.2.2.led = true
theorem tail_ris {ep : Nat} {es : Array (Int × Value)} {t : SetTable} {b : Bool} (r : Ris t.place.toList) : Ris (tailTx ep es t b).2.2.place.toList := by
  unfold tailTx
  split
  · exact relayAll_ris _ _ _
  · exact r
theorem tail_led {ep : Nat} {es : Array (Int × Value)} {t : SetTable} {b : Bool} : (tailTx ep es t b).2.2.led = t.led := by
  unfold tailTx
  split
  · exact relayAll_led _ _ _
  · rfl
theorem addTx_ris {h : Int} {v : Value} {D : SD} (r : Ris D.2.2.place.toList) : Ris (addTx h v D).2.2.place.toList := by
  have a := layNew_ris D.2.2 D.1 h v r
  unfold addTx
  refine tail_ris ?_
  split <;> exact a
theorem addTx_led {h : Int} {v : Value} {D : SD} : (addTx h v D).2.2.led = D.2.2.led := by
  have a := layNew_led D.2.2 D.1 h v
  unfold addTx
  refine tail_led.trans ?_
  split <;> exact a
theorem TxW.add {P : Program} {w : World} {D : SD} {l : List Str} (F : TxW P w D l) {k : Str} (u : Tok) (hk : k ∉ l) : TxW P w (addTx (hashStr w k) (.str k u) D) (k :: l) :=
  ⟨add_ok u F.ok, List.nodup_cons.mpr ⟨hk, F.nd⟩, addTx_ris F.ris, F.led.imp id fun z => by rw [addTx_led]; exact z⟩
section
variable {P : Program} {w : World} {A : Around} {E : Value → Shared → Prop} {s : Shared}
/-- the add of a text that is there -/
theorem add_there {a : Addr} {T : String} {D : SD} {l : List Str} {k : Str} {u : Tok} {Q : Bool → Shared → Prop} (at_ : s.heap.get? a = some (sObj T D)) (F : TxOk P w D l) (hk : k ∈ l) (few : l.length < scanBound) (q : Q false s) :
    wpAny (model P w) A (setAddHashed a (.str k u) (hashStr w k)) Q E s := by
  obtain ⟨es, ep, t⟩ := D
  have dat : (sObj T (es, ep, t)).data = .set es ep t := rfl
  have fit : t.fits es.size = true := F.fit
  have elem : ElemsOf (strKind P w) es.toList := F.el
  have size : es.size = l.length := F.sz
  have key : (strKind P w).is k (.str k u) = true := is_str k u
  unfold setAddHashed setAddHashedIn
  refine wpAny_holding (wpAny_bind (wpAny_setState_of at_ dat fit ?_))
  dsimp only
  rw [byScan_of rfl (by omega) elem]
  simp only [↓reduceIte]
  unfold setAddByScan
  refine wpAny_bind (wpAny_bind (wpAny_rule (wpAny_bind (wpAny_setScan_of (knd := strKind P w) (k := k) key at_ dat fit elem ?_))))
  cases e : List.findIdx? (fun e => (strKind P w).is k e.2) es.toList with
  | some j =>
    dsimp only
    exact wpAny_pure (wpAny_pure q)
  | none =>
    obtain ⟨x, hx, hq⟩ := (F.mem k).mp hk
    have := List.findIdx?_eq_none_iff.mp e x hx
    rw [hq] at this
    cases this
/-- set.update's loop over texts -/
theorem upd_texts {R : Result → Shared → Prop} {I : Addr} {fp wr : List Addr} {Gn : Array GenState → Array GenState → Prop} {n : Nat} {Pv : Nat → Value → Prop} {St : Nat → Shared → Prop}
    (W : WalksS P w A.in1 I fp wr Gn n Pv St) (p : Addr) (out : p ∉ fp) (xs : List Str) (len : n = xs.length) (few : xs.length + 1 < scanBound) (val : ∀ i v, Pv i v → ∃ x t, xs[i]? = some x ∧ v = .str x t) :
    ∀ (m i : Nat) (s : Shared) (D : SD) (l : List Str), n - i = m → i ≤ n → St i s → s.heap.get? p = some (sObj "set" D) → TxW P w D l → l.length ≤ i → (∀ x, x ∈ l ↔ x ∈ xs.take i) →
      (∀ s' D' l', Moved (p :: wr) Gn s s' → s'.heap.get? p = some (sObj "set" D') → TxW P w D' l' → l'.length ≤ n → (∀ x, x ∈ l' ↔ x ∈ xs) → R (.ok (.ret .none)) s') →
      codeAny (model P w) A (.builtin "set.update.loop" ⟨[.ref p, .ref I], []⟩) R s := by
  have out2 : p ∉ wr := fun z => out (W.sub _ z)
  have inn : ∀ b ∈ wr, b ∈ p :: wr := fun b z => List.mem_cons_of_mem _ z
  intro m
  induction m with
  | zero =>
    intro i s D l hm hi st at_ F ll ml fin
    have e : i = n := by omega
    subst e
    refine codeAny_builtin PyProof.Rows.F.entry_set_update_loop ?_
    rw [Around.under_plainId PyProof.Rows.F.plain_set_update_loop _]
    show wpAny _ A.in1 (pyNext (.ref I) >>= _) _ _ s
    refine wpAny_bind (W.done s _ _ st fun s2 mv => ?_)
    show wpAny _ A.in1 (ret Value.none) _ _ s2
    exact wpAny_pure (fin s2 D l (mv.mono inn) (mv.heap p _ out2 at_) F ll fun x => by rw [ml x, List.take_of_length_le (by omega)])
  | succ m ih =>
    intro i s D l hm hi st at_ F ll ml fin
    have lt : i < n := by omega
    refine codeAny_builtin PyProof.Rows.F.entry_set_update_loop ?_
    rw [Around.under_plainId PyProof.Rows.F.plain_set_update_loop _]
    show wpAny _ A.in1 (pyNext (.ref I) >>= _) _ _ s
    refine wpAny_bind (W.item i s _ _ lt st fun v s2 hP st2 mv => ?_)
    obtain ⟨x, t, hx, rfl⟩ := val i v hP
    have at2 : s2.heap.get? p = some (sObj "set" D) := mv.heap p _ out2 at_
    show wpAny _ A.in1 (holding [Value.str x t] (setAdd p (.str x t)) >>= _) _ _ s2
    refine wpAny_bind (wpAny_holding ?_)
    unfold setAdd
    refine wpAny_holding (wpAny_bind ((strKind P w).pyHash (k := x) (is_str _ _) ?_))
    have mm : ∀ y, y ∈ xs.take (i + 1) ↔ y ∈ xs.take i ∨ y = x := fun y => by
      rw [List.take_add_one, hx]
      simp [List.mem_append]
    by_cases hk : x ∈ l
    · refine add_there (s := { s2 with toks := s2.toks + 1 }) at2 F.ok hk (by omega) ?_
      refine wpAny_pure ⟨plainId_quiet PyProof.Rows.F.plain_set_update_loop _, ih (i + 1) _ D l (by omega) lt (W.frame _ s2 _ _ st2 (Nat.le_succ _) fun b _ o e => e) at2 F (by omega) (fun y => ?_) fun s3 D' l' mv3 at3 F3 l3 m3 => ?_⟩
      · rw [mm y, ← ml y]
        exact ⟨Or.inl, fun z => z.elim id fun e => e ▸ hk⟩
      · exact fin s3 D' l' (Moved.trans W.gtrans ((mv.mono inn).then_heap (Nat.le_succ _) fun b o _ e => e) mv3) at3 F3 l3 m3
    · refine add_x (s := { s2 with toks := s2.toks + 1 }) at2 F.ok hk (by omega) ?_
      have at3 : (s2.heap.update p (fun _ => sObj "set" (addTx (hashStr w x) (.str x t) D))).get? p = some (sObj "set" (addTx (hashStr w x) (.str x t) D)) := get_upd _ at2 rfl
      have other : ∀ b, b ≠ p → (s2.heap.update p (fun _ => sObj "set" (addTx (hashStr w x) (.str x t) D))).get? b = s2.heap.get? b := fun b hb => Heap.get?_update_other _ _ (Ne.symm hb)
      refine wpAny_pure ⟨plainId_quiet PyProof.Rows.F.plain_set_update_loop _, ih (i + 1) _ _ (x :: l) (by omega) lt (W.frame _ s2 _ _ st2 (Nat.le_succ _) fun b hb o e => ?_) at3 (F.add t hk) (by show l.length + 1 ≤ i + 1; omega) (fun y => ?_) fun s3 D' l' mv3 at4 F3 l3 m3 => ?_⟩
      · rw [show ({ s2 with heap := s2.heap.update p (fun _ => sObj "set" (addTx (hashStr w x) (.str x t) D)), toks := s2.toks + 1 } : Shared).heap.get? b = s2.heap.get? b from other b fun z => out (z ▸ hb)]
        exact e
      · rw [mm y, ← ml y, List.mem_cons]
        exact Or.comm
      · refine fin s3 D' l' (Moved.trans W.gtrans ((mv.mono inn).then_heap (Nat.le_succ _) fun b o hb e => ?_) mv3) at4 F3 l3 m3
        refine (other b fun z => hb (by rw [z]; exact List.mem_cons_self)).trans e
end
end DL

namespace DL
open PySem PySem.Spec PyProof.Rows L2 PySem.Froz
abbrev emptyS (w : World) : SD := (#[], 0, .fresh 0 0 (!w.params.followText "set-order"))
theorem TxW.empty (P : Program) (w : World) : TxW P w (emptyS w) [] :=
  ⟨TxOk.nil rfl, List.nodup_nil, List.Pairwise.nil, by
    show _ ∨ (!w.params.followText "set-order") = true
    cases w.params.followText "set-order" <;> simp⟩
abbrev putS (w : World) (h : Heap) : Heap := h.push (sObj "set" (emptyS w))
section
variable {P : Program} {w : World} {A : Around} {E : Value → Shared → Prop} {s : Shared}
set_option maxHeartbeats 3200000 in
/-- set(list of texts) -/
theorem call_setTx {l : Addr} {its : Array Value} (xs : List Str) {Q : Value → Shared → Prop} (hh : A.handled = none) (il : s.heap.IsList l its) (vt : StrsAre its.toList xs) (few : xs.length + 1 < scanBound)
    (q : ∀ (h2 : Heap) (tk : Nat) (D : SD) (ys : List Str), h2.get? s.heap.objs.size = some (sObj "set" D) → TxW P w D ys → ys.length ≤ xs.length → (∀ x, x ∈ ys ↔ x ∈ xs) → (∀ b o, s.heap.get? b = some o → h2.get? b = some o) → Q (.ref s.heap.objs.size) { s with heap := h2, toks := tk }) :
    wpAny (model P w) A (call (.type "set") [.ref l]) Q E s := by
  have size : its.size = xs.length := by rw [← StrsAre.len_eq vt, Array.length_toList]
  obtain ⟨c, tl, mro⟩ := PySem.F.called_set.mro
  have mde := PySem.F.called_set.made
  have sbt := PySem.F.called_set.sub
  refine wpAny_call (codeAny_of_tree ?_)
  show wpAny _ _ (callAny (.type "set") _) _ _ _
  refine wpAny_pure ⟨Code.quiet_builtin _ (by decide +kernel), codeAny_builtin PySem.F.entry_type_call ?_⟩
  rw [Around.under_plain (weight_type_call_type "set" [.ref l] []) rfl]
  have nt := PySem.F.called_set.notType
  have cc := PySem.F.called_set.canCreate
  have ct := PySem.F.typeCall_set_1 (.ref l)
  repeat (any_goals (first | assumption | wp_step))
  refine codeAny_mono (code_set_led1 (.ref l) (E := E) (Q₁ := fun x s1 => x = .ref s.heap.objs.size ∧ s1 = { s with heap := putS w s.heap }) ⟨rfl, rfl⟩) fun r s1 hr => ?_
  cases r with
  | error e => exact hr
  | ok fl =>
    cases fl with
    | ret x =>
      obtain ⟨rfl, rfl⟩ := hr
      have at0 : (putS w s.heap).get? s.heap.objs.size = some (sObj "set" (emptyS w)) := Heap.get?_push_size _ rfl
      have ty0 : Shared.TypeIs { s with heap := putS w s.heap } (.ref s.heap.objs.size) "set" := ⟨_, at0, rfl⟩
      have lk := PySem.F.called_set.init.lookup
      have bd := PySem.F.called_set.init.bind (.ref s.heap.objs.size)
      repeat (any_goals (first | assumption | wp_step))
      refine codeAny_mono (codeAny_call_builtin (R := wants (fun r s2 => r = .none ∧ ∃ h2 tk D ys, s2 = { s with heap := h2, toks := tk } ∧ h2.get? s.heap.objs.size = some (sObj "set" D) ∧ TxW P w D ys ∧ ys.length ≤ xs.length ∧ (∀ x, x ∈ ys ↔ x ∈ xs) ∧
          (∀ b o, s.heap.get? b = some o → h2.get? b = some o)) E) PySem.F.called_set.init.plain PySem.F.entry_set_init (check_set_init_1 ty0 ?_)) fun r2 s2 hr2 => ?_
      · obtain ⟨ol, gl, cl, nl, dl⟩ := il
        obtain ⟨ocls, odict, odata, oslots⟩ := ol
        simp only at cl dl
        subst cl; subst dl
        have gl2 : (putS w s.heap).get? l = some { cls := .type "list", dict := odict, data := .seq its nl, slots := oslots } := Heap.get?_push_of_some _ gl
        have n1 := PySem.F.sub_list_set
        have n2 := PySem.F.sub_list_frozenset
        have n3 : (Value.type "list" == Value.type "dict") = false := by decide
        have il1 : (putS w s.heap).IsList l its := ⟨_, gl2, rfl, nl, rfl⟩
        unfold Builtin.«set.__init__» noKeywords Builtin.Frozenset.updateFrom
        generalize e0 : pyIter = PI
        wp_walk
        subst e0
        refine wpAny_pyIter_list il1 ?_
        refine wpAny_bind (wpAny_runValue ?_)
        have ll : l < s.heap.objs.size := Heap.lt_size gl
        have hh3 : A.in1.in1.in1.handled = none := by simp [hh]
        have sz1 : (putS w s.heap).objs.size = s.heap.objs.size + 1 := Heap.size_push ..
        have ne1 : l ≠ (putS w s.heap).objs.size := by rw [sz1]; exact Nat.ne_of_lt (Nat.lt_succ_of_lt ll)
        have ne2 : s.heap.objs.size ∉ [(putS w s.heap).objs.size, l] := by
          rw [sz1]
          simp only [List.mem_cons, List.not_mem_nil, or_false, not_or]
          exact ⟨Nat.ne_of_lt (Nat.lt_succ_self _), Nat.ne_of_gt ll⟩
        have val : ∀ (i : Nat) (v : Value), its[i]? = some v → ∃ x t, xs[i]? = some x ∧ v = .str x t := fun i v hv => by
          have hi : i < xs.length := by rw [← size]; exact (Array.getElem?_eq_some_iff.mp hv).1
          obtain ⟨t, e⟩ := SS.strs_at vt i v (by rw [Array.getElem?_toList]; exact hv)
          refine ⟨xs[i], t, List.getElem?_eq_getElem hi, ?_⟩
          rw [e, List.getD_eq_getElem?_getD, List.getElem?_eq_getElem hi] <;> rfl
        refine upd_texts ((Walks.list hh3 _ l ne1 its).toS) s.heap.objs.size ne2 xs size few val (its.size - 0) 0 _ (emptyS w) [] (by omega) (Nat.zero_le _) ⟨⟨_, Heap.get?_push_size _ rfl, rfl, rfl⟩, il1.push _⟩ (Heap.get?_push_of_some _ at0) (.empty P w) (Nat.zero_le _) (fun x => by simp) ?_
        intro s3 D ys mv at3 F3 l3 m3
        obtain ⟨h3, g3, d3, t3, o3⟩ := s3
        have eg : g3 = s.gens := mv.gens
        have ed : d3 = s.drawn := mv.drawn
        have eo : o3 = s.os := mv.os
        subst eg; subst ed; subst eo
        show wpAny _ _ _ _ _ _
        refine wpAny_pure ?_
        show wpAny _ _ (ret Value.none) _ _ _
        refine wpAny_pure ⟨rfl, h3, t3, D, ys, rfl, at3, F3, by omega, m3, fun b o e => ?_⟩
        have b0 : b < s.heap.objs.size := Heap.lt_size e
        refine mv.heap b o ?_ (Heap.get?_push_of_some _ (Heap.get?_push_of_some _ e))
        simp only [List.mem_cons, List.not_mem_nil, or_false, not_or, sz1]
        exact ⟨Nat.ne_of_lt b0, Nat.ne_of_lt (Nat.lt_succ_of_lt b0)⟩
      · cases r2 with
        | error e => exact hr2
        | ok fl2 =>
          cases fl2 with
          | ret r =>
            obtain ⟨rfl, h2, tk, D, ys, rfl, a1, a2, a3, a4, a5⟩ := hr2
            repeat (any_goals (first | assumption | wp_step))
            exact q _ _ D ys a1 a2 a3 a4 a5
          | _ => exact hr2.elim
    | _ => exact hr.elim
end
end DL

namespace DL
open PySem PySem.Spec PyProof.Rows L2 PySem.Froz
theorem perm_few : ∀ {ys L : List Str}, ys.Nodup → (∀ x ∈ ys, x ∈ L) → L.length ≤ ys.length → L.Perm ys
  | [], L, _, _, l => by
    cases L with
    | nil => exact .refl _
    | cons a r => simp at l
  | y :: r, L, nd, sub, l => by
    obtain ⟨n1, n2⟩ := List.nodup_cons.mp nd
    have hy := sub y List.mem_cons_self
    have e := List.perm_cons_erase hy
    have el := e.length_eq
    simp only [List.length_cons] at el l
    refine e.trans (.cons y (perm_few n2 (fun x hx => ?_) (by omega)))
    have ne : x ≠ y := fun z => n1 (z ▸ hx)
    exact (List.mem_erase_of_ne ne).mpr (sub x (List.mem_cons_of_mem _ hx))
section
variable {P : Program} {w : World} {A : Around} {E : Value → Shared → Prop} {s : Shared}
theorem strs_of_vals : ∀ (vs : List Value) (P : Program) (w : World), (∀ v ∈ vs, ∃ k : Str, (strKind P w).is k v = true) → StrsAre vs (vs.map strOf)
  | vs, P, w, h => strsAre_map vs fun v hv => by
    obtain ⟨k, q⟩ := h v hv
    cases v <;> first | exact ⟨_, _, rfl⟩ | cases q
/-- sorted(set of texts) -/
theorem sorted_setTx {a : Addr} {D : SD} {ys : List Str} {Q : Value → Shared → Prop} (at_ : s.heap.get? a = some (sObj "set" D)) (F : TxW P w D ys) (few : ys.length < 64) (hh : A.handled = none)
    (q : ∀ (s2 : Shared) (p : Addr) (out : Array Value) (c : Nat) (zs : List Str), (∀ b o, s.heap.get? b = some o → s2.heap.get? b = some o) → s2.gens = s.gens → s2.os = s.os → s.heap.objs.size ≤ p →
      s2.heap.get? p = some (seqObj "list" out c) → StrsAre out.toList zs → zs.Perm ys → sortedS zs = true → Q (.ref p) s2) : wpAny (model P w) A (call (.builtin "sorted") [.ref a]) Q E s := by
  obtain ⟨es, ep, t⟩ := D
  have size : es.size = ys.length := F.ok.sz
  have elem : ElemsOf (strKind P w) es.toList := F.ok.el
  refine Calls.call_function_entry kind_sorted plain_sorted entry_sorted (args_sorted1 _) ?_
  unfold Builtin.«sorted»
  refine wpAny_bind (m := checkCount "sorted" 1 1 _) (wpAny_pure ?_)
  refine wpAny_bind (collect_set (A := A.in1) hh (t := t) ⟨_, at_, rfl, rfl⟩ F.ok.fit (by show es.size < scanBound; unfold scanBound; omega) F.ris F.led fun s1 vs k1 z1 g1 o1 pm => ?_)
  have ln : vs.length = ys.length := by rw [pm.length_eq, List.length_map, Array.length_toList, size]
  have st : StrsAre vs (vs.map strOf) := strs_of_vals vs P w fun v hv => by
    obtain ⟨e, he, rfl⟩ := List.mem_map.mp (pm.mem_iff.mp hv)
    obtain ⟨⟨k, h1, _⟩, _⟩ := elem e he
    exact ⟨k, h1⟩
  have mem : ∀ x, x ∈ vs.map strOf ↔ x ∈ ys := fun x => by
    rw [F.ok.mem x, List.mem_map]
    constructor
    · rintro ⟨v, hv, rfl⟩
      obtain ⟨e, he, rfl⟩ := List.mem_map.mp (pm.mem_iff.mp hv)
      refine ⟨e, he, ?_⟩
      obtain ⟨z, u, ez⟩ := st.all e.2 hv
      rw [ez]
      exact is_str z u
    · rintro ⟨e, he, h1⟩
      refine ⟨e.2, pm.mem_iff.mpr (List.mem_map.mpr ⟨e, he, rfl⟩), ?_⟩
      obtain ⟨z, u, ez⟩ := st.all e.2 (pm.mem_iff.mpr (List.mem_map.mpr ⟨e, he, rfl⟩))
      rw [ez] at h1 ⊢
      exact (strKind P w).inj (.str z u) z x (is_str z u) h1
  have perm : (vs.map strOf).Perm ys := perm_few F.nd (fun x hx => (mem x).mpr hx) (by rw [List.length_map, ln]; exact Nat.le_refl _)
  refine wpAny_bind (wpAny_newList ?_ (by rw [ln, sizeLine_eq]; omega))
  have at1 : (s1.heap.push (seqObj "list" vs.toArray 0)).get? s1.heap.objs.size = some (seqObj "list" vs.toArray 0) := Heap.get?_push_size _ rfl
  refine wpAny_bind (wpAny_holding (wpAny_call_entry slot_list_sort ⟨_, at1, rfl⟩ entry_list_sort (list_sort_treeK strKind_oneLt at1 st.keysOf (fun v1 v2 r e => keyKind_strs (by rw [← e]; exact st)) (by rw [ln]; exact few) fun st2 hp hs => ⟨_, rfl, ?_⟩) (args_list_sort _)))
  obtain ⟨zs, a1, a2, a3⟩ := sorted_out_str st hp hs
  obtain ⟨c, hc⟩ := sortedHeap_at (vs := vs) (out := (arrOf st2).map (·.2)) at1
  refine wpAny_pure ⟨_, rfl, q _ s1.heap.objs.size _ c zs (fun b u e => ?_) g1 o1 z1 hc a1 (a2.trans perm) a3⟩
  have y := k1 b u e
  have lt := Heap.lt_size y
  show (sortedHeap (s1.heap.push (seqObj "list" vs.toArray 0)) s1.heap.objs.size vs _).get? b = some u
  rw [sortedHeap_old (Nat.ne_of_lt lt) (by rw [size_push']; exact Nat.lt_succ_of_lt lt)]
  exact Heap.get?_push_of_some _ y
end
/-- a set of texts in the heap -/
def SetTxO (P : Program) (w : World) (a : Addr) (ys : List Str) : HO := .ext fun h => ∃ D, h.get? a = some (sObj "set" D) ∧ TxW P w D ys
section
variable {X : Cx}
theorem cr_setTx (hc : X.calm = true) : CallR X (.type "set") (fun xs H Q => ∃ (l : Addr) (ts : List Str), xs = [.ref l] ∧ SqL X.K H l (ts.map V.str) ∧ ts.length < 4000 ∧
    ∀ p ys, H p = none → ys.Nodup → ys.length ≤ ts.length → (∀ x, x ∈ ys ↔ x ∈ ts) → Q (.ref p) (upd H p (SetTxO X.prog X.w p ys))) := by
  intro pins s σ H xs us Q I r h
  obtain ⟨l, ts, rfl, hl, few, q⟩ := h
  rw [Vals.ref1 r]
  obtain ⟨its, rv, pl, _⟩ := I.list hl
  have st := rv.strs
  refine call_setTx (P := X.prog) (w := X.w) ts (I.ok.hd hc) pl.isList (by simpa using st) (by unfold scanBound; omega) fun h2 tk D ys at2 F ln mem k => ?_
  refine ⟨.ref s.heap.objs.size, upd H s.heap.objs.size (SetTxO X.prog X.w s.heap.objs.size ys), I.laid (t' := tk) k (Nat.le_refl _) ?_, rfl, q _ ys (I.hok.fresh (Nat.le_refl _)) F.nd ln mem⟩
  exact ⟨⟨D, at2, F⟩, ⟨_, at2⟩, fun h3 h4 ⟨D2, e2, F2⟩ k2 => ⟨D2, k2 _ e2, F2⟩⟩
theorem cr_sortedSetTx (hc : X.calm = true) : CallR X (.builtin "sorted") (fun xs H Q => ∃ (a : Addr) (ys : List Str), xs = [.ref a] ∧ H a = some (SetTxO X.prog X.w a ys) ∧ ys.length < 64 ∧
    ∀ p zs, H p = none → zs.Perm ys → sortedS zs = true → Q (.ref p) (upd H p (.lst (zs.map V.str)))) := by
  intro pins s σ H xs us Q I r h
  obtain ⟨a, ys, rfl, ha, few, q⟩ := h
  obtain ⟨D, at0, F⟩ : ∃ D, s.heap.get? a = some (sObj "set" D) ∧ TxW X.prog X.w D ys := (I.hok a _ ha).1
  rw [Vals.ref1 r]
  refine sorted_setTx at0 F few (I.ok.hd hc) fun s2 p out c zs k g o hp hg st pm so => ?_
  have ln : (zs.map V.str).length ≤ sizeLine := by rw [List.length_map, pm.length_eq, sizeLine_eq]; omega
  have fr : H p = none := I.hok.fresh hp
  have J : Inv X pins σ (upd H p (.lst (zs.map V.str))) { s with heap := s2.heap, gens := s2.gens, drawn := s2.drawn, toks := s2.toks } :=
    I.call (ch := []) (Un.laid k hp fr) (I.hok.laid k hp ⟨ln, out.toList, c, vals_of_strs st, hg⟩) (by rw [g]; exact I.bare) (fun _ z => nomatch z)
  have e : s2 = { s with heap := s2.heap, gens := s2.gens, drawn := s2.drawn, toks := s2.toks } := by
    cases s2
    cases s
    cases o
    rfl
  rw [e]
  exact ⟨.ref p, _, J, rfl, q p zs fr pm so⟩
end
end DL

/-! DL w: xs.count(b), xs.index(b), truths -/
namespace DL
open PySem PySem.Spec PyProof.Rows L2
def cntB (b : Bool) : List Bool → Nat
  | [] => 0
  | c :: r => match c == b with
    | true => cntB b r + 1
    | false => cntB b r
def idxB (b : Bool) : List Bool → Option Nat
  | [] => none
  | c :: r => match c == b with
    | true => some 0
    | false => match idxB b r with
      | some j => some (j + 1)
      | none => none
def eqb (b : Bool) (v : Value) : Bool := match v with
  | .bool c => c == b
  | _ => false
theorem vals_bls : ∀ {bs : List Bool} {us : List Value}, Vals (bs.map V.bl) us → us = bs.map Value.bool
  | [], _, .nil => rfl
  | b :: r, _, .cons h t => by
    rw [vals_bls t]
    cases h
    rfl
theorem count_bls (b : Bool) : ∀ bs : List Bool, (bs.map Value.bool).countP (eqb b) = cntB b bs
  | [] => rfl
  | c :: r => by
    unfold cntB
    rw [List.map_cons, List.countP_cons, count_bls b r]
    show cntB b r + (if (c == b) = true then 1 else 0) = _
    cases c == b <;> rfl
theorem index_bls {b : Bool} : ∀ {bs : List Bool} {j : Nat}, idxB b bs = some j → bs[j]? = some b ∧ ∀ m, m < j → ∃ c, bs[m]? = some c ∧ (c == b) = false
  | [], j, h => by cases h
  | c :: r, j, h => by
    unfold idxB at h
    cases e : c == b with
    | true =>
      rw [e] at h
      cases h
      exact ⟨by rw [eq_of_beq e]; rfl, fun m hm => absurd hm (Nat.not_lt_zero _)⟩
    | false =>
      rw [e] at h
      dsimp only at h
      cases q : idxB b r with
      | none => rw [q] at h; cases h
      | some i =>
        rw [q] at h
        cases h
        obtain ⟨h1, h2⟩ := index_bls q
        refine ⟨h1, fun m hm => ?_⟩
        cases m with
        | zero => exact ⟨c, rfl, e⟩
        | succ m => exact h2 m (Nat.lt_of_succ_lt_succ hm)
section
variable {X : Cx}
theorem mt_countB : MtR X "list.count" (fun x xs H Q => ∃ (p : Addr) (bs : List Bool) (b : Bool), x = .ref p ∧ xs = [.bl b] ∧ SqL X.K H p (bs.map V.bl) ∧ Q (.int (cntB b bs : Nat)) H) := by
  intro pins s σ H x xs v us Q I rx rxs h
  obtain ⟨p, bs, b, rfl, rfl, hs, q⟩ := h
  cases rx
  obtain ⟨u, rfl, ru⟩ := rxs.one
  obtain rfl : u = Value.bool b := ru
  obtain ⟨its, rv, ⟨⟨cls, dd, data, sl⟩, n, ho, hc, hdn, hd⟩, hlen⟩ := I.list hs
  simp only at hc hd
  subst hc hd
  have hi := vals_bls rv
  refine call_meets PySem.F.slot_list_count ⟨_, ho, rfl⟩ PySem.F.entry_list_count (PySem.F.args_list_count_2 _ _)
    (SeqAt.list_countAt p its.toArray n dd sl (.bool b) (eqb b)) ⟨ho, fun y hy => ?_, ?_⟩
  · have hy2 : y ∈ bs.map Value.bool := by rw [← hi]; simpa using hy
    obtain ⟨c, _, rfl⟩ := List.mem_map.mp hy2
    exact PySem.SeqAt.EqAt.bool_bool c b
  · refine ⟨.int (cntB b bs : Nat), H, I.tok _, ⟨s.toks, ?_⟩, q⟩
    show Value.int ((its.toArray.toList.countP (eqb b) : Nat) : Int) s.toks = Value.int ((cntB b bs : Nat) : Int) s.toks
    rw [show its.toArray.toList = bs.map Value.bool by rw [← hi], count_bls]
theorem mt_indexB : MtR X "list.index" (fun x xs H Q => ∃ (p : Addr) (bs : List Bool) (b : Bool) (j : Nat), x = .ref p ∧ xs = [.bl b] ∧ SqL X.K H p (bs.map V.bl) ∧ idxB b bs = some j ∧ Q (.int (j : Nat)) H) := by
  intro pins s σ H x xs v us Q I rx rxs h
  obtain ⟨p, bs, b, j, rfl, rfl, hs, hj, q⟩ := h
  cases rx
  obtain ⟨u, rfl, ru⟩ := rxs.one
  obtain rfl : u = Value.bool b := ru
  obtain ⟨its, rv, ⟨⟨cls, dd, data, sl⟩, n, ho, hc, hdn, hd⟩, hlen⟩ := I.list hs
  simp only at hc hd
  subst hc hd
  have hi := vals_bls rv
  subst hi
  obtain ⟨h1, h2⟩ := index_bls hj
  have jl : j < bs.length := (List.getElem?_eq_some_iff.mp h1).1
  have sz : (bs.map Value.bool).toArray.size = bs.length := by simp
  have gt : ∀ (m : Nat) (hm : m < (bs.map Value.bool).toArray.size) (c : Bool), bs[m]? = some c → (bs.map Value.bool).toArray[m] = .bool c := fun m hm c e => by
    obtain ⟨h3, h4⟩ := List.getElem?_eq_some_iff.mp e
    simp [h4]
  rw [List.length_map] at hlen
  rw [sizeLine_eq] at hlen
  refine call_meets PySem.F.slot_list_index ⟨_, ho, rfl⟩ PySem.F.entry_list_index (PySem.F.args_list_index_2 _ _)
    (SeqAt.list_indexAt p (bs.map Value.bool).toArray n dd sl (.bool b) (eqb b) j (by rw [sz]; exact jl) (by omega) ?_ ?_) ⟨ho, fun y hy => ?_, ?_⟩
  · rw [gt j _ b h1]
    exact beq_self_eq_true b
  · intro m hm hmj
    obtain ⟨c, e1, e2⟩ := h2 m hmj
    rw [gt m hm c e1]
    exact e2
  · have hy2 : y ∈ bs.map Value.bool := by simpa using hy
    obtain ⟨c, _, rfl⟩ := List.mem_map.mp hy2
    exact PySem.SeqAt.EqAt.bool_bool c b
  · exact ⟨.int (j : Nat), H, I.tok _, ⟨s.toks, rfl⟩, q⟩
end
end DL

/-! DL, the data layer, 1: data as trees, a store of cells, and how the hand layer's heap bears them. -/
namespace DL
open PySem PySem.Spec PyProof.Rows L2

theorem tx_inj {a b : Tx} (h : tx a = tx b) : a = b := by
  have := congrArg (fun s : Str => s.cps.toList) h
  simpa [tx] using this

/-- a cell of the store: what may change -/
inductive Cell where
  | lst (xs : List D) | dct (ks vs : List D) | obj (c : Nat) (ns : List Nat) (fs : List D) | dead
  deriving Inhabited
abbrev Store := List Cell
abbrev Sl := List (Option D)

/-- the ground: what a whole law's run stands on -/
structure Gd where
  P : Program
  w : World
  K : PySem.W.Frag
  mg : Str → Option Value
  base : Heap
  ca : Nat → Addr
  fa : Nat → Addr
  fd : Nat → FuncData
  nm : Nat → Str
  /-- what is out of reach here: a caller's cells -/
  Fr : Addr → Prop := fun _ => False

def keyOf : D → Option Key
  | .int i => some (.inl i)
  | .str s => some (.inr (tx s))
  | _ => none
theorem keyOf_kV {d : D} {k : Key} (h : keyOf d = some k) : (∃ i, d = .int i ∧ k = .inl i) ∨ ∃ s, d = .str s ∧ k = .inr (tx s) := by
  cases d <;> simp only [keyOf, Option.some.injEq, reduceCtorEq] at h
  · exact .inl ⟨_, rfl, h.symm⟩
  · exact .inr ⟨_, rfl, h.symm⟩

section
variable (G : Gd) (Lv : Addr → Prop) (ρ : List Addr) (H : Hp)
/-- a tuple, a list that no cell is -/
def FzT (a : Addr) (us : List V) : Prop := (¬ Lv a ∧ Rd H a (.tup us)) ∨
  ∃ (o : Obj) (its : Array Value) (n : Nat), G.K.lookup a = some o ∧ o.cls = .type "tuple" ∧ o.data = .seq its n ∧ its.size ≤ sizeLine ∧ Vals us its.toList
def FzL (a : Addr) (us : List V) : Prop := (¬ Lv a ∧ Rd H a (.lst us)) ∨
  ∃ (o : Obj) (its : Array Value) (n : Nat), G.K.lookup a = some o ∧ o.cls = .type "list" ∧ o.dict = none ∧ o.data = .seq its n ∧ its.size ≤ sizeLine ∧ Vals us its.toList
/-- == and != of instances are as object's -/
structure EqO (K : PySem.W.Frag) (C : Addr) : Prop where
  eq : PySem.W.findIn K (.ref C) "__eq__" = some (some (.builtin "object.__eq__"))
  ne : PySem.W.findIn K (.ref C) "__ne__" = some (some (.builtin "object.__ne__"))
  mro : PySem.W.mroIn K C (.type "object") = some true
/-- an instance's fields' list holds no other names; what the class is -/
structure Closed (c : Nat) (ns : List Nat) (fl : List (Str × V)) : Prop where
  none : ∀ x, (∀ n ∈ ns, x ≠ G.nm n) → fl.lookup x = none
  len : fl.length ≤ ns.length
  noat : ∀ n ∈ ns, NoAttr G.K (G.ca c) (G.nm n)
  cls : Cls G.K (G.ca c)
  nd : ns.Nodup
  eqo : EqO G.K (G.ca c)
mutual
/-- the data d stands for the value -/
inductive RV : D → V → Prop
  | non : RV .non .non
  | bl (b : Bool) : RV (.bl b) (.bl b)
  | int (i : Int) : RV (.int i) (.int i)
  | str (s : Tx) : RV (.str s) (.str (tx s))
  | tup {xs : List D} {us : List V} {a : Addr} (h : FzT G Lv H a us) (r : RVs xs us) : RV (.tup xs) (.ref a)
  | lst {xs : List D} {us : List V} {a : Addr} (h : ¬ Lv a ∧ H a = some (.lst us)) (r : RVs xs us) : RV (.lst xs) (.ref a)
  | klst {xs : List D} {us : List V} {a : Addr} (h : FzL G Lv H a us) (r : RVs xs us) : RV (.klst xs) (.ref a)
  | dct {ks vs : List D} {kus : List (Key × V)} {a : Addr} (h : ¬ Lv a ∧ Rd H a (.dK kus)) (r : RKs ks vs kus) : RV (.dct ks vs) (.ref a)
  | ins {c : Nat} {ns : List Nat} {fs : List D} {a dx : Addr} {fl : List (Str × V)} (h : ¬ Lv a ∧ H a = some (.ins (G.ca c) dx fl)) (k : Closed G c ns fl) (r : RFs fl ns fs) : RV (.ins c ns fs) (.ref a)
  | ref {n : Nat} {a : Addr} (h : ρ[n]? = some a) : RV (.ref n) (.ref a)
  | pin {n : Nat} {d : D} {a : Addr} (h : ρ[n]? = some a) (r : RV d (.ref a)) : RV (.pin n d) (.ref a)
inductive RVs : List D → List V → Prop
  | nil : RVs [] []
  | cons {d : D} {u : V} {ds : List D} {us : List V} (h : RV d u) (t : RVs ds us) : RVs (d :: ds) (u :: us)
inductive RKs : List D → List D → List (Key × V) → Prop
  | nil : RKs [] [] []
  | cons {k v : D} {k' : Key} {u : V} {ks vs : List D} {kus : List (Key × V)} (hk : keyOf k = some k') (h : RV v u) (t : RKs ks vs kus) : RKs (k :: ks) (v :: vs) ((k', u) :: kus)
inductive RFs : List (Str × V) → List Nat → List D → Prop
  | nil {fl} : RFs fl [] []
  | cons {fl : List (Str × V)} {n : Nat} {d : D} {u : V} {ns : List Nat} {ds : List D} (hn : fl.lookup (G.nm n) = some u) (h : RV d u) (t : RFs fl ns ds) : RFs fl (n :: ns) (d :: ds)
end
end

/-- an object that stays; a dict may be locked -/
def Kp (H' : Hp) (a : Addr) (o : HO) : Prop := H' a = some o ∨ ∃ od kvs, o = .dK kvs ∧ H' a = some (.frz od o)
theorem Kp.eq {H' : Hp} {a : Addr} {o : HO} (h : Kp H' a o) (n : ∀ kvs, o ≠ .dK kvs) : H' a = some o := by
  rcases h with h | ⟨_, kvs, e, _⟩
  · exact h
  · exact absurd e (n kvs)
theorem Kp.rd {H' : Hp} {a : Addr} {o : HO} (h : Kp H' a o) : Rd H' a o := by
  rcases h with h | ⟨od, kvs, e, h⟩
  · exact .inl h
  · exact .inr ⟨od, h⟩
theorem Kp.trans {H' H'' : Hp} {a : Addr} {o : HO} (h : Kp H' a o) (k : ∀ o, H' a = some o → Kp H'' a o) : Kp H'' a o := by
  rcases h with h | ⟨od, kvs, e, h⟩
  · exact k o h
  · exact .inr ⟨od, kvs, e, (k _ h).eq fun _ z => nomatch z⟩
/-- from one state to a later one: what is no cell stays, and is none later -/
structure Keep (Lv Lv' : Addr → Prop) (H H' : Hp) : Prop where
  keep : ∀ a o, H a = some o → ¬ Lv a → Kp H' a o ∧ ¬ Lv' a

section
variable {G : Gd} {Lv Lv' : Addr → Prop} {ρ ρ' : List Addr} {H H' : Hp}
theorem Keep.rd {a : Addr} {u : HO} (k : Keep Lv Lv' H H') (n : ¬ Lv a) (h : Rd H a u) : ¬ Lv' a ∧ Rd H' a u := by
  rcases h with h | ⟨o, h⟩
  · exact ⟨(k.keep _ _ h n).2, (k.keep _ _ h n).1.rd⟩
  · exact ⟨(k.keep _ _ h n).2, .inr ⟨o, (k.keep _ _ h n).1.eq fun _ z => nomatch z⟩⟩
theorem FzT.keep {a : Addr} {us : List V} (k : Keep Lv Lv' H H') (h : FzT G Lv H a us) : FzT G Lv' H' a us := by
  rcases h with ⟨n, h⟩ | h
  · exact .inl (k.rd n h)
  · exact .inr h
theorem FzL.keep {a : Addr} {us : List V} (k : Keep Lv Lv' H H') (h : FzL G Lv H a us) : FzL G Lv' H' a us := by
  rcases h with ⟨n, h⟩ | h
  · exact .inl (k.rd n h)
  · exact .inr h
theorem FzT.seq {a : Addr} {us : List V} (h : FzT G Lv H a us) : SqT G.K H a us := by
  rcases h with ⟨_, h⟩ | h
  · exact .inl h
  · exact .inr h
theorem FzL.seq {a : Addr} {us : List V} (h : FzL G Lv H a us) : SqL G.K H a us := by
  rcases h with ⟨_, h⟩ | h
  · exact .inl h
  · exact .inr h
mutual
theorem RV.keep (k : Keep Lv Lv' H H') (hp : ∀ (n : Nat) a, ρ[n]? = some a → ρ'[n]? = some a) : ∀ {d : D} {u : V}, RV G Lv ρ H d u → RV G Lv' ρ' H' d u
  | _, _, .non => .non
  | _, _, .bl b => .bl b
  | _, _, .int i => .int i
  | _, _, .str s => .str s
  | _, _, .tup h r => .tup (h.keep k) (RVs.keep k hp r)
  | _, _, .lst h r => .lst ⟨(k.keep _ _ h.2 h.1).2, (k.keep _ _ h.2 h.1).1.eq fun _ z => nomatch z⟩ (RVs.keep k hp r)
  | _, _, .klst h r => .klst (h.keep k) (RVs.keep k hp r)
  | _, _, .dct h r => .dct (k.rd h.1 h.2) (RKs.keep k hp r)
  | _, _, .ins h c r => .ins ⟨(k.keep _ _ h.2 h.1).2, (k.keep _ _ h.2 h.1).1.eq fun _ z => nomatch z⟩ c (RFs.keep k hp r)
  | _, _, .ref h => .ref (hp _ _ h)
  | _, _, .pin h r => .pin (hp _ _ h) (RV.keep k hp r)
theorem RVs.keep (k : Keep Lv Lv' H H') (hp : ∀ (n : Nat) a, ρ[n]? = some a → ρ'[n]? = some a) : ∀ {ds : List D} {us : List V}, RVs G Lv ρ H ds us → RVs G Lv' ρ' H' ds us
  | _, _, .nil => .nil
  | _, _, .cons h t => .cons (RV.keep k hp h) (RVs.keep k hp t)
theorem RKs.keep (k : Keep Lv Lv' H H') (hp : ∀ (n : Nat) a, ρ[n]? = some a → ρ'[n]? = some a) : ∀ {ks vs : List D} {us : List (Key × V)}, RKs G Lv ρ H ks vs us → RKs G Lv' ρ' H' ks vs us
  | _, _, _, .nil => .nil
  | _, _, _, .cons hk h t => .cons hk (RV.keep k hp h) (RKs.keep k hp t)
theorem RFs.keep (k : Keep Lv Lv' H H') (hp : ∀ (n : Nat) a, ρ[n]? = some a → ρ'[n]? = some a) : ∀ {fl : List (Str × V)} {ns : List Nat} {ds : List D}, RFs G Lv ρ H fl ns ds → RFs G Lv' ρ' H' fl ns ds
  | _, _, _, .nil => .nil
  | _, _, _, .cons hn h t => .cons hn (RV.keep k hp h) (RFs.keep k hp t)
end
end
end DL

namespace DL
open PySem PySem.Spec PyProof.Rows L2

/-- the addresses of the cells that live -/
def Live (G : Gd) (S : Store) (ρ : List Addr) (a : Addr) : Prop := G.Fr a ∨ ∃ (n : Nat) (c : Cell), ρ[n]? = some a ∧ S[n]? = some c ∧ c ≠ .dead
def CellOk (G : Gd) (Lv : Addr → Prop) (ρ : List Addr) (H : Hp) (a : Addr) : Cell → Prop
  | .lst xs => ∃ us, H a = some (.lst us) ∧ RVs G Lv ρ H xs us
  | .dct ks vs => ∃ kus, H a = some (.dK kus) ∧ RKs G Lv ρ H ks vs kus
  | .obj c ns fs => ∃ dx fl, H a = some (.ins (G.ca c) dx fl) ∧ Closed G c ns fl ∧ RFs G Lv ρ H fl ns fs
  | .dead => True
/-- the store is borne by the abstract heap -/
structure Sim (G : Gd) (S : Store) (ρ : List Addr) (H : Hp) : Prop where
  len : ρ.length = S.length
  ok : ∀ (n : Nat) a c, ρ[n]? = some a → S[n]? = some c → CellOk G (Live G S ρ) ρ H a c
  inj : ∀ (n m : Nat) a c c', ρ[n]? = some a → ρ[m]? = some a → S[n]? = some c → c ≠ .dead → S[m]? = some c' → c' ≠ .dead → n = m
  nfr : ∀ (n : Nat) a c, ρ[n]? = some a → S[n]? = some c → c ≠ .dead → ¬ G.Fr a
  frt : ∀ a, G.Fr a → ∃ o, H a = some o ∧ Mut (some o)
/-- from one state to a later one -/
structure Stp (G : Gd) (S S' : Store) (ρ ρ' : List Addr) (H H' : Hp) : Prop where
  pre : ∀ (n : Nat) a, ρ[n]? = some a → ρ'[n]? = some a
  keep : Keep (Live G S ρ) (Live G S' ρ') H H'
  fr : ∀ a, G.Fr a → H' a = H a
abbrev RVl (G : Gd) (S : Store) (ρ : List Addr) (H : Hp) : D → V → Prop := RV G (Live G S ρ) ρ H
abbrev RVsl (G : Gd) (S : Store) (ρ : List Addr) (H : Hp) : List D → List V → Prop := RVs G (Live G S ρ) ρ H
section
variable {G : Gd} {S S' S'' : Store} {ρ ρ' ρ'' : List Addr} {H H' H'' : Hp}
theorem Stp.refl : Stp G S S ρ ρ H H := ⟨fun _ _ h => h, ⟨fun _ _ h n => ⟨.inl h, n⟩⟩, fun _ _ => rfl⟩
theorem Stp.trans (a : Stp G S S' ρ ρ' H H') (b : Stp G S' S'' ρ' ρ'' H' H'') : Stp G S S'' ρ ρ'' H H'' :=
  ⟨fun n x h => b.pre n x (a.pre n x h), ⟨fun x o h n => let ⟨h1, n1⟩ := a.keep.keep x o h n; ⟨h1.trans fun o q => (b.keep.keep x o q n1).1, h1.elim (fun q => (b.keep.keep x o q n1).2) fun ⟨_, _, _, q⟩ => (b.keep.keep x _ q n1).2⟩⟩, fun x h => (b.fr x h).trans (a.fr x h)⟩
theorem Stp.rv (a : Stp G S S' ρ ρ' H H') {d : D} {u : V} (h : RVl G S ρ H d u) : RVl G S' ρ' H' d u := h.keep a.keep a.pre
theorem Stp.rvs (a : Stp G S S' ρ ρ' H H') {d : List D} {u : List V} (h : RVsl G S ρ H d u) : RVsl G S' ρ' H' d u := h.keep a.keep a.pre
theorem CellOk.keep {Lv Lv' : Addr → Prop} {a : Addr} {c : Cell} (k : Keep Lv Lv' H H') (hp : ∀ (n : Nat) a, ρ[n]? = some a → ρ'[n]? = some a) (e : c ≠ .dead → ∀ o, H a = some o → H' a = some o) (h : CellOk G Lv ρ H a c) : CellOk G Lv' ρ' H' a c := by
  cases c with
  | lst xs =>
    obtain ⟨us, h1, h2⟩ := h
    exact ⟨us, e (by simp) _ h1, h2.keep k hp⟩
  | dct ks vs =>
    obtain ⟨us, h1, h2⟩ := h
    exact ⟨us, e (by simp) _ h1, h2.keep k hp⟩
  | obj cl ns fs =>
    obtain ⟨dx, fl, h1, h2, h3⟩ := h
    exact ⟨dx, fl, e (by simp) _ h1, h2, h3.keep k hp⟩
  | dead => trivial
theorem CellOk.there {Lv : Addr → Prop} {a : Addr} {c : Cell} (h : CellOk G Lv ρ H a c) (n : c ≠ .dead) : ∃ o, H a = some o ∧ Mut (some o) := by
  cases c with
  | lst xs => obtain ⟨us, h1, _⟩ := h; exact ⟨_, h1, True.intro⟩
  | dct ks vs => obtain ⟨us, h1, _⟩ := h; exact ⟨_, h1, True.intro⟩
  | obj cl ns fs => obtain ⟨dx, fl, h1, _⟩ := h; exact ⟨_, h1, True.intro⟩
  | dead => exact absurd rfl n
theorem Sim.live_there (s : Sim G S ρ H) {a : Addr} (l : Live G S ρ a) : ∃ o, H a = some o ∧ Mut (some o) := by
  rcases l with l | ⟨n, c, h1, h2, h3⟩
  · exact s.frt a l
  · exact (s.ok n a c h1 h2).there h3
theorem Sim.fresh (s : Sim G S ρ H) {p : Addr} (hp : H p = none) : ¬ Live G S ρ p := fun l => by
  obtain ⟨o, h, _⟩ := s.live_there l
  rw [hp] at h; cases h
/-- an object laid that is no cell -/
theorem Stp.laid (s : Sim G S ρ H) {p : Addr} {o : HO} (hp : H p = none) : Stp G S S ρ ρ H (upd H p o) :=
  ⟨fun _ _ h => h, ⟨fun a ob h n => ⟨.inl (by rw [upd_ne (ne_of_none h hp)]; exact h), n⟩⟩, fun a h => by
    obtain ⟨o, h1, _⟩ := s.frt a h
    exact upd_ne (ne_of_none h1 hp)⟩
theorem Sim.laid (s : Sim G S ρ H) {p : Addr} {o : HO} (hp : H p = none) : Sim G S ρ (upd H p o) :=
  ⟨s.len, fun n a c h1 h2 => (s.ok n a c h1 h2).keep (Stp.laid s hp).keep (fun _ _ h => h) fun nd ob h => by rw [upd_ne (ne_of_none h hp)]; exact h, s.inj, s.nfr, fun a h => by
    obtain ⟨o, h1, h2⟩ := s.frt a h
    exact ⟨o, by rw [upd_ne (ne_of_none h1 hp)]; exact h1, h2⟩⟩
theorem get_snoc {α : Type} {l : List α} {x : α} {n : Nat} {y : α} (h : (l ++ [x])[n]? = some y) : l[n]? = some y ∨ (n = l.length ∧ y = x) := by
  by_cases hn : n < l.length
  · rw [List.getElem?_append_left hn] at h; exact .inl h
  · rw [List.getElem?_append_right (by omega)] at h
    cases e : n - l.length with
    | zero => rw [e] at h; simp at h; exact .inr ⟨by omega, h.symm⟩
    | succ m => rw [e] at h; simp at h
theorem get_pre {α : Type} {l r : List α} {n : Nat} {y : α} (h : l[n]? = some y) : (l ++ r)[n]? = some y := by
  rw [List.getElem?_append_left (List.getElem?_eq_some_iff.mp h).1]; exact h
/-- an object laid that is a new cell -/
theorem live_snoc (s : Sim G S ρ H) {p : Addr} {c : Cell} {a : Addr} (l : Live G (S ++ [c]) (ρ ++ [p]) a) : Live G S ρ a ∨ a = p := by
  rcases l with l | ⟨n, c', h1, h2, h3⟩
  · exact .inl (.inl l)
  rcases get_snoc h1 with h1 | ⟨e1, e2⟩
  · rcases get_snoc h2 with h2 | ⟨e3, e4⟩
    · exact .inl (.inr ⟨n, c', h1, h2, h3⟩)
    · have := (List.getElem?_eq_some_iff.mp h1).1
      have := s.len
      omega
  · exact .inr e2
theorem Stp.cell (s : Sim G S ρ H) {p : Addr} {o : HO} {c : Cell} (hp : H p = none) : Stp G S (S ++ [c]) ρ (ρ ++ [p]) H (upd H p o) :=
  ⟨fun _ _ h => get_pre h, ⟨fun a ob h n => ⟨.inl (by rw [upd_ne (ne_of_none h hp)]; exact h), fun l => by
    rcases live_snoc s l with l | e
    · exact n l
    · rw [e, hp] at h; cases h⟩⟩, fun a h => by
    obtain ⟨o, h1, _⟩ := s.frt a h
    exact upd_ne (ne_of_none h1 hp)⟩
theorem Sim.cell (s : Sim G S ρ H) {p : Addr} {o : HO} {c : Cell} (hp : H p = none) (hc : CellOk G (Live G (S ++ [c]) (ρ ++ [p])) (ρ ++ [p]) (upd H p o) p c) : Sim G (S ++ [c]) (ρ ++ [p]) (upd H p o) := by
  have st : Stp G S (S ++ [c]) ρ (ρ ++ [p]) H (upd H p o) := Stp.cell s hp
  refine ⟨by simp [s.len], fun n a c' h1 h2 => ?_, fun n m a c1 c2 h1 h2 h3 h4 h5 h6 => ?_, fun n a c1 h1 h2 h3 h4 => ?_, fun a h => ?_⟩
  · rcases get_snoc h1 with h1 | ⟨e1, e2⟩
    · rcases get_snoc h2 with h2 | ⟨e3, e4⟩
      · exact (s.ok n a c' h1 h2).keep st.keep st.pre fun nd ob h => by rw [upd_ne (ne_of_none h hp)]; exact h
      · have := (List.getElem?_eq_some_iff.mp h1).1
        have := s.len
        omega
    · rcases get_snoc h2 with h2 | ⟨e3, e4⟩
      · have := (List.getElem?_eq_some_iff.mp h2).1
        have := s.len
        omega
      · subst e2; subst e4; exact hc
  · have key : ∀ {n : Nat} {c1 : Cell}, (ρ ++ [p])[n]? = some a → (S ++ [c])[n]? = some c1 → c1 ≠ .dead → (ρ[n]? = some a ∧ S[n]? = some c1 ∧ H a ≠ none) ∨ (n = ρ.length ∧ a = p) := fun {n c1} q1 q2 q3 => by
      rcases get_snoc q1 with q1 | ⟨e1, e2⟩
      · rcases get_snoc q2 with q2 | ⟨e3, e4⟩
        · refine .inl ⟨q1, q2, fun z => ?_⟩
          obtain ⟨o, q, _⟩ := (s.ok n a c1 q1 q2).there q3
          rw [z] at q; cases q
        · have := (List.getElem?_eq_some_iff.mp q1).1
          have := s.len
          omega
      · exact .inr ⟨e1, e2⟩
    rcases key h1 h3 h4 with ⟨a1, a2, a3⟩ | ⟨a1, a2⟩
    · rcases key h2 h5 h6 with ⟨b1, b2, b3⟩ | ⟨b1, b2⟩
      · exact s.inj n m a c1 c2 a1 b1 a2 h4 b2 h6
      · rw [b2] at a3; exact absurd hp a3
    · rcases key h2 h5 h6 with ⟨b1, b2, b3⟩ | ⟨b1, b2⟩
      · rw [a2] at b3; exact absurd hp b3
      · omega
  · obtain ⟨o, q1, _⟩ := s.frt a h4
    rcases get_snoc h1 with h1 | ⟨e1, e2⟩
    · rcases get_snoc h2 with h2 | ⟨e3, e4⟩
      · exact s.nfr n a c1 h1 h2 h3 h4
      · have := (List.getElem?_eq_some_iff.mp h1).1
        have := s.len
        omega
    · rw [e2, hp] at q1; cases q1
  · obtain ⟨o, q1, q2⟩ := s.frt a h
    exact ⟨o, by rw [upd_ne (ne_of_none q1 hp)]; exact q1, q2⟩
/-- a cell written -/
theorem live_set {n : Nat} {c c' : Cell} {a : Addr} (hn : S[n]? = some c) (nd : c ≠ .dead) (l : Live G (S.set n c') ρ a) : Live G S ρ a := by
  rcases l with l | ⟨m, c2, h1, h2, h3⟩
  · exact .inl l
  by_cases e : m = n
  · subst e
    exact .inr ⟨m, c, h1, hn, nd⟩
  · rw [List.getElem?_set_ne (Ne.symm e)] at h2
    exact .inr ⟨m, c2, h1, h2, h3⟩
theorem Stp.write (s : Sim G S ρ H) {n : Nat} {a : Addr} {c c' : Cell} {o : HO} (ha : ρ[n]? = some a) (hn : S[n]? = some c) (nd : c ≠ .dead) : Stp G S (S.set n c') ρ ρ H (upd H a o) :=
  ⟨fun _ _ h => h, ⟨fun b ob h l => ⟨.inl (by
    rw [upd_ne]
    · exact h
    · intro e
      subst e
      exact l (.inr ⟨n, c, ha, hn, nd⟩)), fun q => l (live_set hn nd q)⟩⟩, fun b h => by
    rw [upd_ne]
    intro e
    subst e
    exact s.nfr n b c ha hn nd h⟩
theorem Sim.write (s : Sim G S ρ H) {n : Nat} {a : Addr} {c c' : Cell} {o : HO} (ha : ρ[n]? = some a) (hn : S[n]? = some c) (nd : c ≠ .dead)
    (hc : CellOk G (Live G (S.set n c') ρ) ρ (upd H a o) a c') : Sim G (S.set n c') ρ (upd H a o) := by
  have st : Stp G S (S.set n c') ρ ρ H (upd H a o) := Stp.write s ha hn nd
  have hlt := (List.getElem?_eq_some_iff.mp hn).1
  have key : ∀ {i : Nat} {c1 : Cell}, (S.set n c')[i]? = some c1 → c1 ≠ .dead → ∃ c0, S[i]? = some c0 ∧ c0 ≠ .dead := fun {i c1} q1 q2 => by
    by_cases e : i = n
    · subst e; exact ⟨c, hn, nd⟩
    · rw [List.getElem?_set_ne (Ne.symm e)] at q1
      exact ⟨c1, q1, q2⟩
  refine ⟨by simp [s.len], fun m b c2 h1 h2 => ?_, fun i j b c1 c2 h1 h2 h3 h4 h5 h6 => ?_, fun i b c1 h1 h2 h3 h4 => ?_, fun b h => ?_⟩
  · by_cases e : m = n
    · subst e
      rw [ha] at h1; cases h1
      rw [List.getElem?_set_self hlt] at h2; cases h2
      exact hc
    · rw [List.getElem?_set_ne (Ne.symm e)] at h2
      refine (s.ok m b c2 h1 h2).keep st.keep st.pre fun nd2 ob h => ?_
      rw [upd_ne]
      · exact h
      · intro q
        subst q
        exact e (s.inj m n _ c2 c h1 ha h2 nd2 hn nd)
  · obtain ⟨d1, a1, a2⟩ := key h3 h4
    obtain ⟨d2, b1, b2⟩ := key h5 h6
    exact s.inj i j b d1 d2 h1 h2 a1 a2 b1 b2
  · obtain ⟨d1, a1, a2⟩ := key h2 h3
    exact s.nfr i b d1 h1 a1 a2 h4
  · obtain ⟨o2, q1, q2⟩ := s.frt b h
    refine ⟨o2, ?_, q2⟩
    rw [upd_ne]
    · exact q1
    · intro e
      subst e
      exact s.nfr n b c ha hn nd h
/-! ### lists of data -/
theorem RVs.length {Lv : Addr → Prop} : ∀ {ds : List D} {us : List V}, RVs G Lv ρ H ds us → ds.length = us.length
  | _, _, .nil => rfl
  | _, _, .cons _ t => by simp [RVs.length t]
theorem RVs.append {Lv : Addr → Prop} : ∀ {ds : List D} {us : List V} {es : List D} {ws : List V}, RVs G Lv ρ H ds us → RVs G Lv ρ H es ws → RVs G Lv ρ H (ds ++ es) (us ++ ws)
  | _, _, _, _, .nil, s => s
  | _, _, _, _, .cons h t, s => .cons h (RVs.append t s)
theorem RVs.get {Lv : Addr → Prop} : ∀ {ds : List D} {us : List V} {i : Nat} {d : D}, RVs G Lv ρ H ds us → ds[i]? = some d → ∃ u, us[i]? = some u ∧ RV G Lv ρ H d u
  | _, _, i, d, .nil, e => by simp at e
  | _, _, 0, d, .cons h t, e => by simp at e; subst e; exact ⟨_, rfl, h⟩
  | _, _, i + 1, d, .cons h t, e => by
    obtain ⟨u, h1, h2⟩ := RVs.get t (by simpa using e)
    exact ⟨u, by simpa using h1, h2⟩
theorem RVs.get' {Lv : Addr → Prop} : ∀ {ds : List D} {us : List V} {i : Nat} {u : V}, RVs G Lv ρ H ds us → us[i]? = some u → ∃ d, ds[i]? = some d ∧ RV G Lv ρ H d u
  | _, _, i, d, .nil, e => by simp at e
  | _, _, 0, d, .cons h t, e => by simp at e; subst e; exact ⟨_, rfl, h⟩
  | _, _, i + 1, d, .cons h t, e => by
    obtain ⟨u, h1, h2⟩ := RVs.get' t (by simpa using e)
    exact ⟨u, by simpa using h1, h2⟩
theorem RVs.set {Lv : Addr → Prop} {d : D} {u : V} (h : RV G Lv ρ H d u) : ∀ {ds : List D} {us : List V} (i : Nat), RVs G Lv ρ H ds us → RVs G Lv ρ H (ds.set i d) (us.set i u)
  | _, _, _, .nil => .nil
  | _, _, 0, .cons _ t => .cons h t
  | _, _, i + 1, .cons q t => .cons q (RVs.set h i t)
theorem RVs.take {Lv : Addr → Prop} : ∀ {ds : List D} {us : List V} (n : Nat), RVs G Lv ρ H ds us → RVs G Lv ρ H (ds.take n) (us.take n)
  | _, _, 0, _ => .nil
  | _, _, _ + 1, .nil => .nil
  | _, _, n + 1, .cons h t => .cons h (RVs.take n t)
theorem RVs.drop {Lv : Addr → Prop} : ∀ {ds : List D} {us : List V} (n : Nat), RVs G Lv ρ H ds us → RVs G Lv ρ H (ds.drop n) (us.drop n)
  | _, _, 0, r => r
  | _, _, _ + 1, .nil => .nil
  | _, _, n + 1, .cons _ t => RVs.drop n t
theorem RVs.erase {Lv : Addr → Prop} : ∀ {ds : List D} {us : List V} (n : Nat), RVs G Lv ρ H ds us → RVs G Lv ρ H (ds.eraseIdx n) (us.eraseIdx n)
  | _, _, _, .nil => .nil
  | _, _, 0, .cons _ t => t
  | _, _, n + 1, .cons h t => .cons h (RVs.erase n t)
theorem RVs.reverse {Lv : Addr → Prop} : ∀ {ds : List D} {us : List V}, RVs G Lv ρ H ds us → RVs G Lv ρ H ds.reverse us.reverse
  | _, _, .nil => .nil
  | _, _, .cons h t => by rw [List.reverse_cons, List.reverse_cons]; exact RVs.append (RVs.reverse t) (.cons h .nil)
end
/-! ### cells below a bound; cells forgotten -/
mutual
/-- no reference to a cell from n on -/
def bel (n : Nat) : D → Bool
  | .ref m => Nat.blt m n
  | .pin m d => Nat.blt m n && bel n d
  | .tup xs => bels n xs
  | .lst xs => bels n xs
  | .klst xs => bels n xs
  | .dct _ vs => bels n vs
  | .ins _ _ fs => bels n fs
  | .exc _ _ fs => bels n fs
  | .non => true
  | .bl _ => true
  | .int _ => true
  | .str _ => true
def bels (n : Nat) : List D → Bool
  | [] => true
  | d :: r => bel n d && bels n r
end
def belC (n : Nat) : Cell → Bool
  | .lst xs => bels n xs
  | .dct _ vs => bels n vs
  | .obj _ _ fs => bels n fs
  | .dead => true
def belS (n : Nat) : Store → Bool
  | [] => true
  | c :: r => belC n c && belS n r
section
variable {G : Gd} {S S' : Store} {ρ ρ' : List Addr} {H H' : Hp}
mutual
theorem RV.trim {Lv Lv' : Addr → Prop} (hl : ∀ a, Lv' a → Lv a) {n : Nat} (hp : ∀ (m : Nat) a, m < n → ρ[m]? = some a → ρ'[m]? = some a) : ∀ {d : D} {u : V}, bel n d = true → RV G Lv ρ H d u → RV G Lv' ρ' H d u
  | _, _, _, .non => .non
  | _, _, _, .bl b => .bl b
  | _, _, _, .int i => .int i
  | _, _, _, .str s => .str s
  | _, _, b, .tup h r => .tup (h.imp (fun z => ⟨fun q => z.1 (hl _ q), z.2⟩) id) (RVs.trim hl hp b r)
  | _, _, b, .lst h r => .lst ⟨fun q => h.1 (hl _ q), h.2⟩ (RVs.trim hl hp b r)
  | _, _, b, .klst h r => .klst (h.imp (fun z => ⟨fun q => z.1 (hl _ q), z.2⟩) id) (RVs.trim hl hp b r)
  | _, _, b, .dct h r => .dct ⟨fun q => h.1 (hl _ q), h.2⟩ (RKs.trim hl hp b r)
  | _, _, b, .ins h c r => .ins ⟨fun q => h.1 (hl _ q), h.2⟩ c (RFs.trim hl hp b r)
  | _, _, b, .ref h => .ref (hp _ _ (Nat.le_of_ble_eq_true b) h)
  | _, _, b, .pin h r => .pin (hp _ _ (Nat.le_of_ble_eq_true (Bool.and_eq_true_iff.mp b).1) h) (RV.trim hl hp (Bool.and_eq_true_iff.mp b).2 r)
theorem RVs.trim {Lv Lv' : Addr → Prop} (hl : ∀ a, Lv' a → Lv a) {n : Nat} (hp : ∀ (m : Nat) a, m < n → ρ[m]? = some a → ρ'[m]? = some a) : ∀ {d : List D} {u : List V}, bels n d = true → RVs G Lv ρ H d u → RVs G Lv' ρ' H d u
  | _, _, _, .nil => .nil
  | _, _, b, .cons h t => .cons (RV.trim hl hp (Bool.and_eq_true_iff.mp b).1 h) (RVs.trim hl hp (Bool.and_eq_true_iff.mp b).2 t)
theorem RKs.trim {Lv Lv' : Addr → Prop} (hl : ∀ a, Lv' a → Lv a) {n : Nat} (hp : ∀ (m : Nat) a, m < n → ρ[m]? = some a → ρ'[m]? = some a) : ∀ {ks vs : List D} {us : List (Key × V)}, bels n vs = true → RKs G Lv ρ H ks vs us → RKs G Lv' ρ' H ks vs us
  | _, _, _, _, .nil => .nil
  | _, _, _, b, .cons hk h t => .cons hk (RV.trim hl hp (Bool.and_eq_true_iff.mp b).1 h) (RKs.trim hl hp (Bool.and_eq_true_iff.mp b).2 t)
theorem RFs.trim {Lv Lv' : Addr → Prop} (hl : ∀ a, Lv' a → Lv a) {n : Nat} (hp : ∀ (m : Nat) a, m < n → ρ[m]? = some a → ρ'[m]? = some a) : ∀ {fl : List (Str × V)} {ns : List Nat} {ds : List D}, bels n ds = true → RFs G Lv ρ H fl ns ds → RFs G Lv' ρ' H fl ns ds
  | _, _, _, _, .nil => .nil
  | _, _, _, b, .cons hn h t => .cons hn (RV.trim hl hp (Bool.and_eq_true_iff.mp b).1 h) (RFs.trim hl hp (Bool.and_eq_true_iff.mp b).2 t)
end
theorem belS_get {n : Nat} : ∀ {S : Store} {i : Nat} {c : Cell}, belS n S = true → S[i]? = some c → belC n c = true
  | [], _, _, _, e => by simp at e
  | _ :: _, 0, _, b, e => by simp at e; subst e; exact (Bool.and_eq_true_iff.mp b).1
  | _ :: _, i + 1, _, b, e => belS_get (Bool.and_eq_true_iff.mp b).2 (by simpa using e)
theorem CellOk.trim {Lv Lv' : Addr → Prop} (hl : ∀ a, Lv' a → Lv a) {n : Nat} (hp : ∀ (m : Nat) a, m < n → ρ[m]? = some a → ρ'[m]? = some a) {a : Addr} {c : Cell} (b : belC n c = true) (h : CellOk G Lv ρ H a c) : CellOk G Lv' ρ' H a c := by
  cases c with
  | lst xs =>
    obtain ⟨us, h1, h2⟩ := h
    exact ⟨us, h1, h2.trim hl hp b⟩
  | dct ks vs =>
    obtain ⟨us, h1, h2⟩ := h
    exact ⟨us, h1, h2.trim hl hp b⟩
  | obj cl ns fs =>
    obtain ⟨dx, fl, h1, h2, h3⟩ := h
    exact ⟨dx, fl, h1, h2, h3.trim hl hp b⟩
  | dead => trivial
theorem get_take {α : Type} {l : List α} {n m : Nat} {x : α} (h : (l.take n)[m]? = some x) : m < n ∧ l[m]? = some x := by
  rw [List.getElem?_take] at h
  split at h
  · exact ⟨by assumption, h⟩
  · cases h
/-- the last cells forgotten -/
theorem live_trim {A T : Store} {a : Addr} (l : Live G A (ρ.take A.length) a) : Live G (A ++ T) ρ a := by
  rcases l with l | ⟨m, c, h1, h2, h3⟩
  · exact .inl l
  · exact .inr ⟨m, c, (get_take h1).2, get_pre h2, h3⟩
theorem Sim.trim {A T : Store} (s : Sim G (A ++ T) ρ H) (b : belS A.length A = true) : Sim G A (ρ.take A.length) H := by
  have hl := s.len
  simp only [List.length_append] at hl
  refine ⟨by simp; omega, fun n a c h1 h2 => ?_, fun n m a c c' h1 h2 h3 h4 h5 h6 => s.inj n m a c c' (get_take h1).2 (get_take h2).2 (get_pre h3) h4 (get_pre h5) h6, fun n a c h1 h2 h3 => s.nfr n a c (get_take h1).2 (get_pre h2) h3, s.frt⟩
  exact (s.ok n a c (get_take h1).2 (get_pre h2)).trim (fun _ => live_trim) (fun m a hm e => by rw [List.getElem?_take_of_lt hm]; exact e) (belS_get b h2)
theorem Sim.trimV {A T : Store} (s : Sim G (A ++ T) ρ H) {d : D} {u : V} (b : bel A.length d = true) (h : RVl G (A ++ T) ρ H d u) : RVl G A (ρ.take A.length) H d u :=
  h.trim (fun _ => live_trim) (fun m a hm e => by rw [List.getElem?_take_of_lt hm]; exact e) b
/-- a cell that lives no more -/
theorem live_kill {n : Nat} {a : Addr} (l : Live G (S.set n .dead) ρ a) : Live G S ρ a := by
  rcases l with l | ⟨m, c, h1, h2, h3⟩
  · exact .inl l
  by_cases e : m = n
  · subst e
    by_cases hm : m < S.length
    · rw [List.getElem?_set_self hm] at h2; cases h2; exact absurd rfl h3
    · rw [List.getElem?_eq_none (by simpa using hm)] at h2; cases h2
  · rw [List.getElem?_set_ne (Ne.symm e)] at h2
    exact .inr ⟨m, c, h1, h2, h3⟩
theorem Sim.kill (s : Sim G S ρ H) (n : Nat) : Sim G (S.set n .dead) ρ H := by
  have st : Keep (Live G S ρ) (Live G (S.set n .dead) ρ) H H := ⟨fun a o h l => ⟨.inl h, fun q => l (live_kill q)⟩⟩
  have key : ∀ {i : Nat} {c : Cell}, (S.set n .dead)[i]? = some c → c ≠ .dead → S[i]? = some c := fun {i c} q1 q2 => by
    by_cases e : i = n
    · subst e
      by_cases hm : i < S.length
      · rw [List.getElem?_set_self hm] at q1; cases q1; exact absurd rfl q2
      · rw [List.getElem?_eq_none (by simpa using hm)] at q1; cases q1
    · rw [List.getElem?_set_ne (Ne.symm e)] at q1; exact q1
  refine ⟨by simp [s.len], fun m a c h1 h2 => ?_, fun i j a c c' h1 h2 h3 h4 h5 h6 => ?_, fun i a c h1 h2 h3 => s.nfr i a c h1 (key h2 h3) h3, s.frt⟩
  · by_cases e : m = n
    · subst e
      by_cases hm : m < S.length
      · rw [List.getElem?_set_self hm] at h2; cases h2; trivial
      · rw [List.getElem?_eq_none (by simpa using hm)] at h2; cases h2
    · rw [List.getElem?_set_ne (Ne.symm e)] at h2
      exact (s.ok m a c h1 h2).keep st (fun _ _ h => h) fun _ _ h => h
  · exact s.inj i j a c c' h1 h2 (key h3 h4) h4 (key h5 h6) h6
theorem Stp.kill {n : Nat} : Stp G S (S.set n .dead) ρ ρ H H := ⟨fun _ _ h => h, ⟨fun a o h l => ⟨.inl h, fun q => l (live_kill q)⟩⟩, fun _ _ => rfl⟩
theorem Sim.killed (s : Sim G S ρ H) {n : Nat} {a : Addr} {c : Cell} (hn : S[n]? = some c) (nd : c ≠ .dead) (ha : ρ[n]? = some a) : ¬ Live G (S.set n .dead) ρ a := fun l => by
  rcases l with l | ⟨m, c', h1, h2, h3⟩
  · exact s.nfr n a c ha hn nd l
  by_cases e : m = n
  · subst e
    rw [List.getElem?_set_self (List.getElem?_eq_some_iff.mp hn).1] at h2; cases h2; exact h3 rfl
  · rw [List.getElem?_set_ne (Ne.symm e)] at h2
    exact e (s.inj m n a c' c h1 ha h2 h3 hn nd)
/-- a list's cell frozen: the list is a datum from here on -/
theorem Sim.frz (s : Sim G S ρ H) {n : Nat} {xs : List D} {u : V} (hn : S[n]? = some (.lst xs)) (h : RVl G S ρ H (.ref n) u) : RVl G (S.set n .dead) ρ H (.lst xs) u := by
  cases h with
  | ref ha =>
    obtain ⟨us, h1, h2⟩ := s.ok n _ _ ha hn
    exact .lst ⟨s.killed hn (by simp) ha, h1⟩ (h2.keep Stp.kill.keep (fun _ _ h => h))
theorem Sim.frzD (s : Sim G S ρ H) {n : Nat} {ks vs : List D} {u : V} (hn : S[n]? = some (.dct ks vs)) (h : RVl G S ρ H (.ref n) u) : RVl G (S.set n .dead) ρ H (.dct ks vs) u := by
  cases h with
  | ref ha =>
    obtain ⟨us, h1, h2⟩ := s.ok n _ _ ha hn
    exact .dct ⟨s.killed hn (by simp) ha, .inl h1⟩ (h2.keep Stp.kill.keep (fun _ _ h => h))
theorem Sim.frzO (s : Sim G S ρ H) {n c : Nat} {ns : List Nat} {fs : List D} {u : V} (hn : S[n]? = some (.obj c ns fs)) (h : RVl G S ρ H (.ref n) u) : RVl G (S.set n .dead) ρ H (.ins c ns fs) u := by
  cases h with
  | ref ha =>
    obtain ⟨dx, fl, h1, h2, h3⟩ := s.ok n _ _ ha hn
    exact .ins ⟨s.killed hn (by simp) ha, h1⟩ h2 (h3.keep Stp.kill.keep (fun _ _ h => h))
end
end DL

/-! DL 3: the intermediate code of bodies and its weakest preconditions -/
namespace DL
open PySem PySem.Spec PyProof.Rows L2

/-! ### the code -/
inductive Bi where | len | abs | max2 | min2 | max1 | min1 | all | any | sum | sorted | str | int | list | tuple | set | divmod | repr | dict
inductive Bm where | append | extend | insert | pop0 | pop1 | clear | reverse | index | count | join | split | startswith | endswith | strip1 | lstrip1 | rstrip1 | partition | replace
  | get1 | get2 | update | setdefault | isalpha | isdigit | dclear
inductive ItK where | e | rng1 | rng2 | rng3 | zip | enum | revd | items | values
/-- a class that isinstance asks for -/
inductive Cs where | own (c : Nat) | int | bool | str | tuple | list | dict
inductive Tg where | nm (i : Nat) | tp (is : List Nat)
mutual
inductive IE where
  | var (i : Nat) | con (d : D) | glo (g : Nat)
  | bin (op : Operator) (fz : Bool) (a b : IE) | modp (a b : IE) | divp (a b : IE)
  | neg (a : IE) | not (a : IE) | and_ (a b : IE) | or_ (a b : IE)
  | cmp (op : CmpOp) (a b : IE) | chn (op op' : CmpOp) (a b c : IE) | ifx (c : IT) (a b : IE)
  | idx (a b : IE) | kget (g : Nat) (a : IE) | slc (fz : Bool) (a : IE) (lo hi : List IE) | rev (fz : Bool) (a : IE) | srt (fz : Bool) (a : IE)
  | fld (a : IE) (f : Nat)
  | call (f : Nat) (es : List IE) | new (c : Nat) (es : List IE) | meth (a : IE) (m : Nat) (es : List IE)
  | bi (b : Bi) (fz : Bool) (es : List IE) | bm (m : Bm) (fz : Bool) (a : IE) (es : List IE)
  | isi (a : IE) (one : Bool) (cs : List Cs)
  | tup (es : List IE) | lst (fz : Bool) (es : List IE) | dct (ks vs : List IE) | lvals (fz : Bool) (a : IE)
  | lc (fz : Bool) (own : List Nat) (tg : Tg) (it : ItK) (src : List IE) (ifs : List IT) (elt : IE)
/-- tests -/
inductive IT where
  | val (e : IE) | not (t : IT) | and_ (a b : IT) | or_ (a b : IT) | chn (op op' : CmpOp) (a b c : IE)
end
/-- a clause's one statement -/
inductive HS where | ret (e : IE) | cont | pass
/-- what is asked of a caught exception, and a clause's statements with it -/
inductive XE where | isi (one : Bool) (cs : List (Option Nat)) | and_ (a b : XE) | or_ (a b : XE) | not (a : XE)
inductive XS where | ifr (t : XE) (e : IE) | ret (t : XE)
inductive IS where
  | set (i : Nat) (e : IE) | setF (a : IE) (f : Nat) (v : IE) | setI (a i v : IE) | setT (is : List Nat) (e : IE) | par (i j : Nat) (a b : IE)
  | aug (i : Nat) (op : Operator) (e : IE) | augF (a : IE) (f : Nat) (op : Operator) (e : IE) | augI (a i : IE) (op : Operator) (e : IE)
  | ex (e : IE) | ret (e : IE) | retN | pass | brk | cont
  | ite (c : IT) (a b : List IS) | whl (c : IT) (b : List IS) | for_ (tg : Tg) (it : ItK) (src : List IE) (b : List IS)
  | raise (c : Nat) (es : List IE) | gh | rno
  | try_ (b : List IS) (hs : List (Nat × HS)) | tryA (b : List IS) (c i : Nat) (ss : List XS)
/-- methods of classes, by numbers -/
structure Tab where
  mth : Nat → Nat → Option Nat
  sub : Nat → Nat → Bool
  exf : Nat → List Nat
  glo : Nat → D
  kd : Nat → List (Tx × Tx) := fun _ => []
  kdn : Nat → Option Str := fun _ => none
  fld : Nat → Nat → Bool
  nms : List Str
  fn : Nat → Option Str
  cl : Nat → Option Str
  gl : Nat → Option Str
  ini : Nat → Option Nat
  fre : Str → Bool
  xc : Nat → Bool := fun _ => false
  bas : Nat → Option (Str × Str) := fun _ => none
def Tab.nm (T : Tab) (i : Nat) : Str := T.nms.getD i ⟨#[]⟩

/-- a written dict's text -/
def findT (s : Tx) : List (Tx × Tx) → Option Tx
  | [] => none
  | p :: r => match decide (p.1 = s) with
    | true => some p.2
    | false => findT s r
abbrev QD := D → Store → Prop
abbrev QL := List D → Store → Prop
/-- what a call is worth -/
structure Orc where
  call : Nat → List D → Store → QD → QD → Prop
  new : Nat → List D → Store → QD → QD → Prop

/-! ### data: looks -/
def seqOf (S : Store) : D → Option (List D)
  | .tup xs => some xs
  | .klst xs => some xs
  | .lst xs => some xs
  | .ref n => match S[n]? with
    | some (.lst xs) => some xs
    | _ => none
  | _ => none
def lstOf (S : Store) : D → Option (List D)
  | .lst xs => some xs
  | .ref n => match S[n]? with
    | some (.lst xs) => some xs
    | _ => none
  | _ => none
def dctOf (S : Store) : D → Option (List D × List D)
  | .dct ks vs => some (ks, vs)
  | .ref n => match S[n]? with
    | some (.dct ks vs) => some (ks, vs)
    | _ => none
  | _ => none
/-- a list's cell as a datum -/
def snap (S : Store) : D → D
  | .ref n => match S[n]? with
    | some (.lst xs) => .lst xs
    | some (.dct ks vs) => .dct ks vs
    | _ => .ref n
  | d => d
mutual
def isPy : D → Bool
  | .non => true
  | .bl _ => true
  | .int _ => true
  | .str _ => true
  | .tup xs => isPys xs
  | .lst xs => isPys xs
  | _ => false
def isPys : List D → Bool
  | [] => true
  | x :: r => isPy x && isPys r
end
mutual
def dep : D → Nat
  | .tup xs => deps xs + 1
  | .lst xs => deps xs + 1
  | _ => 0
def deps : List D → Nat
  | [] => 0
  | x :: r => max (dep x) (deps r)
end
mutual
/-- == of data -/
def eqD : D → D → Bool
  | .non, .non => true
  | .bl a, .bl b => a == b
  | .bl a, .int j => (if a then 1 else 0) == j
  | .int i, .bl b => i == (if b then 1 else 0)
  | .int i, .int j => decide (i = j)
  | .str x, .str y => decide (x = y)
  | .tup xs, .tup ys => eqDs xs ys
  | .lst xs, .lst ys => eqDs xs ys
  | _, _ => false
def eqDs : List D → List D → Bool
  | [], [] => true
  | x :: xs, y :: ys => eqD x y && eqDs xs ys
  | _, _ => false
end
def flat : D → Bool
  | .non => true
  | .bl _ => true
  | .int _ => true
  | .str _ => true
  | _ => false
def keyD : D → Bool
  | .int _ => true
  | .str _ => true
  | _ => false
def keyEq : D → D → Bool
  | .int i, .int j => decide (i = j)
  | .str x, .str y => decide (x = y)
  | _, _ => false
def dget : List D → List D → D → Option D
  | k :: ks, v :: vs, x => match keyEq k x with
    | true => some v
    | false => dget ks vs x
  | _, _, _ => none
def hasK : List D → D → Bool
  | [], _ => false
  | k :: ks, x => match keyEq k x with
    | true => true
    | false => hasK ks x
def replV : List D → List D → D → D → List D
  | k :: ks, v :: vs, x, y => match keyEq k x with
    | true => y :: replV ks vs x y
    | false => v :: replV ks vs x y
  | _, _, _, _ => []
def dputK (ks : List D) (x : D) : List D := match hasK ks x with
  | true => ks
  | false => ks ++ [x]
def dputV (ks vs : List D) (x y : D) : List D := match hasK ks x with
  | true => replV ks vs x y
  | false => vs ++ [y]
def ixOf (n : Nat) (i : Int) : Option Nat := match i with
  | .ofNat j => if j < n then some j else none
  | .negSucc j => if j < n then some (n - 1 - j) else none
def getF : List Nat → List D → Nat → Option D
  | n :: ns, d :: ds, f => match Nat.beq n f with
    | true => some d
    | false => getF ns ds f
  | _, _, _ => none
def putFd : List Nat → List D → Nat → D → List D
  | n :: ns, d :: ds, f, v => match Nat.beq n f with
    | true => v :: ds
    | false => d :: putFd ns ds f v
  | _, _, _, v => [v]
def putFn : List Nat → Nat → List Nat
  | n :: ns, f => match Nat.beq n f with
    | true => n :: ns
    | false => n :: putFn ns f
  | [], f => [f]
def getS : Sl → Nat → Option D
  | [], _ => none
  | x :: _, 0 => x
  | _ :: r, n + 1 => getS r n
def setS : Sl → Nat → D → Sl
  | [], _, _ => []
  | _ :: r, 0, d => some d :: r
  | x :: r, n + 1, d => x :: setS r n d
/-- slots forgotten -/
def wipeS : Sl → List Nat → Sl
  | τ, [] => τ
  | τ, i :: r => wipeS (τ.set i none) r
/-- a cut's bounds: as Python's, clipped -/
def clipIx (n : Nat) (d : Nat) : Option Int → Nat
  | none => d
  | some (.ofNat j) => min j n
  | some (.negSucc j) => n - (j + 1)
def cutL {α : Type} (xs : List α) (lo hi : Option Int) : List α := (xs.take (clipIx xs.length xs.length hi)).drop (clipIx xs.length 0 lo)

/-! ### where the outcome hangs on a truth -/
@[irreducible] def iteW (b : Bool) (A B : Prop) : Prop := match b with
  | true => A
  | false => B
theorem iteW_t {A B : Prop} (h : A) : iteW true A B := by unfold iteW; exact h
theorem iteW_f {A B : Prop} (h : B) : iteW false A B := by unfold iteW; exact h
theorem iteW_i {b : Bool} {A B : Prop} (h1 : b = true → A) (h2 : b = false → B) : iteW b A B := by
  cases b with
  | true => exact iteW_t (h1 rfl)
  | false => exact iteW_f (h2 rfl)
theorem iteW_d {p : Prop} [Decidable p] {A B : Prop} (h1 : p → A) (h2 : ¬ p → B) : iteW (decide p) A B :=
  iteW_i (fun h => h1 (of_decide_eq_true h)) fun h => h2 (of_decide_eq_false h)
theorem iteW_e {b : Bool} {A B : Prop} (h : iteW b A B) : (b = true ∧ A) ∨ (b = false ∧ B) := by
  unfold iteW at h
  cases b with
  | true => exact .inl ⟨rfl, h⟩
  | false => exact .inr ⟨rfl, h⟩

/-! ### operations -/
/-- a new list: a datum, or a cell -/
def mkL (fz : Bool) (xs : List D) (S : Store) (Q : QD) : Prop := match fz with
  | true => Q (.lst xs) S
  | false => Q (.ref S.length) (S ++ [.lst xs])
def mulOk (i j : Int) : Prop := (i.natAbs < 18446744073709551616 ∨ j.natAbs < 18446744073709551616) ∨ i.natAbs.log2 + j.natAbs.log2 < 1000000
def addW (fz : Bool) (x y : D) (S : Store) (Q : QD) : Prop := match x, y with
  | .int i, .int j => Q (.int (i + j)) S
  | .str a, .str b => a.length + b.length ≤ 16777216 ∧ Q (.str (a ++ b)) S
  | .tup a, .tup b => a.length + b.length ≤ 16777216 ∧ Q (.tup (a ++ b)) S
  | .lst a, .lst b => a.length + b.length ≤ 16777216 ∧ mkL fz (a ++ b) S Q
  | .lst a, .ref m => match S[m]? with
    | some (.lst b) => a.length + b.length ≤ 16777216 ∧ mkL fz (a ++ b) S Q
    | _ => False
  | .ref n, y => match S[n]?, lstOf S y with
    | some (.lst a), some b => a.length + b.length ≤ 16777216 ∧ mkL fz (a ++ b) S Q
    | _, _ => False
  | _, _ => False
def mulW (fz : Bool) (x y : D) (S : Store) (Q : QD) : Prop := match x, y with
  | .int i, .int j => mulOk i j ∧ Q (.int (i * j)) S
  | .str a, .int k => (0 ≤ k ∧ k ≤ 1000 ∧ a.length ≤ 1000) ∧ Q (.str (List.replicate k.toNat a).flatten) S
  | .lst a, .int k => (-(2 ^ 63) ≤ k ∧ k < 2 ^ 63 ∧ a.length * k.toNat ≤ 16777216) ∧ mkL fz (List.replicate k.toNat a).flatten S Q
  | _, _ => False
def subW (x y : D) (S : Store) (Q : QD) : Prop := match x, y with
  | .int i, .int j => Q (.int (i - j)) S
  | _, _ => False
def modW (x y : D) (S : Store) (Q : QD) : Prop := match x, y with
  | .int i, .int j => j ≠ 0 ∧ Q (.int (i.fmod j)) S
  | _, _ => False
def divW (x y : D) (S : Store) (Q : QD) : Prop := match x, y with
  | .int i, .int j => (j ≠ 0 ∧ j.natAbs.log2 < 9000) ∧ Q (.int (i.fdiv j)) S
  | _, _ => False
def powW (x y : D) (S : Store) (Q : QD) : Prop := match x, y with
  | .int i, .int j => (0 ≤ j ∧ j ≤ 1000000 ∧ i.natAbs < 2 ^ 64) ∧ Q (.int (i ^ j.toNat)) S
  | _, _ => False
def binW (op : Operator) (fz : Bool) (x y : D) (S : Store) (Q : QD) : Prop := match op with
  | .Add => addW fz x y S Q
  | .Sub => subW x y S Q
  | .Mult => mulW fz x y S Q
  | .Mod => modW x y S Q
  | .FloorDiv => divW x y S Q
  | .Pow => powW x y S Q
  | _ => False
def modpW : D → D → Store → QD → Prop
  | .int i, .int j, S, Q => 0 < j ∧ Q (.int (i % j)) S
  | _, _, _, _ => False
def divpW : D → D → Store → QD → Prop
  | .int i, .int j, S, Q => (0 < j ∧ j.natAbs.log2 < 9000) ∧ Q (.int (i / j)) S
  | _, _, _, _ => False
/-- the same plain datum -/
def sameF : D → D → Bool
  | .non, .non => true
  | .bl a, .bl b => a == b
  | .int i, .int j => decide (i = j)
  | .str x, .str y => decide (x = y)
  | _, _ => false
/-- a dict's items are another one's -/
def subD (ks2 vs2 : List D) : List D → List D → Bool
  | k :: ks, v :: vs => (keyD k && match dget ks2 vs2 k with
    | some y => sameF v y
    | none => false) && subD ks2 vs2 ks vs
  | _, _ => true
/-- the very same things -/
def samePs : List D → List D → Bool
  | [], [] => true
  | .pin n _ :: xs, .pin m _ :: ys => Nat.beq n m && samePs xs ys
  | _, _ => false
/-- what == asks, and tells -/
def eqW (x y : D) (R : Bool → Prop) : Prop := match x, y with
  | .int i, .int j => R (decide (i = j))
  | .str a, .str b => R (decide (a = b))
  | .bl a, .bl b => R (a == b)
  | .non, .non => R true
  | .lst xs, .lst [] => R xs.isEmpty
  | .tup xs, .tup [] => R xs.isEmpty
  | .dct ks vs, .dct ks2 vs2 => (ks.length = ks2.length ∧ subD ks2 vs2 ks vs = true) ∧ R true
  | .pin n (.ins _ _ _), .pin m (.ins _ _ _) => n = m ∧ R true
  | .lst (.pin n d :: xs), .lst (.pin m e :: ys) => samePs (.pin n d :: xs) (.pin m e :: ys) = true ∧ R true
  | x, y => (isPy x = true ∧ isPy y = true ∧ dep x ≤ 150) ∧ R (eqD x y)
def inL (x : D) (xs : List D) : Bool := xs.any fun y => eqD y x
/-- in a list, a tuple: flat data, or plain ones -/
def inSeq (x : D) (xs : List D) (R : Bool → Prop) : Prop := match flat x with
  | true => (flat x = true ∧ xs.all flat = true) ∧ R (inL x xs)
  | false => (isPy x = true ∧ isPys xs = true ∧ deps xs ≤ 150) ∧ R (inL x xs)
def inSW (x : D) (s : Tx) (R : Bool → Prop) : Prop := match x with
  | .str [c] => R (decide (c ∈ s))
  | _ => False
def inW (x y : D) (S : Store) (R : Bool → Prop) : Prop := match y with
  | .str s => inSW x s R
  | .tup xs => inSeq x xs R
  | .lst xs => inSeq x xs R
  | .dct ks vs => keyD x = true ∧ R (dget ks vs x).isSome
  | .ref n => match S[n]? with
    | some (.lst xs) => inSeq x xs R
    | some (.dct ks vs) => keyD x = true ∧ R (dget ks vs x).isSome
    | _ => False
  | _ => False
def isNonD : D → Bool
  | .non => true
  | _ => false
def isW (x y : D) (R : Bool → Prop) : Prop := match y with
  | .non => R (isNonD x)
  | .bl b => match x with
    | .bl a => R (a == b)
    | _ => False
  | _ => False
def ordW (f : Int → Int → Bool) (x y : D) (S : Store) (Q : QD) : Prop := match x, y with
  | .int i, .int j => Q (.bl (f i j)) S
  | _, _ => False
def cmpW (op : CmpOp) (x y : D) (S : Store) (Q : QD) : Prop := match op with
  | .Eq => eqW (snap S x) (snap S y) fun b => Q (.bl b) S
  | .NotEq => eqW (snap S x) (snap S y) fun b => Q (.bl (!b)) S
  | .Lt => ordW (fun i j => decide (i < j)) x y S Q
  | .LtE => ordW (fun i j => decide (i ≤ j)) x y S Q
  | .Gt => ordW (fun i j => decide (j < i)) x y S Q
  | .GtE => ordW (fun i j => decide (j ≤ i)) x y S Q
  | .Is => isW x y fun b => Q (.bl b) S
  | .IsNot => isW x y fun b => Q (.bl (!b)) S
  | .In => inW x y S fun b => Q (.bl b) S
  | .NotIn => inW x y S fun b => Q (.bl (!b)) S
def idxW (x y : D) (S : Store) (Q : QD) : Prop := match x, y with
  | .str s, .int i => s.length ≤ 16777216 ∧ ∃ c, (ixOf s.length i).bind (s[·]?) = some c ∧ Q (.str [c]) S
  | .tup xs, .int i => ∃ d, (ixOf xs.length i).bind (xs[·]?) = some d ∧ Q d S
  | .lst xs, .int i => ∃ d, (ixOf xs.length i).bind (xs[·]?) = some d ∧ Q d S
  | .klst xs, .int i => ∃ d, (ixOf xs.length i).bind (xs[·]?) = some d ∧ Q d S
  | .dct ks vs, k => keyD k = true ∧ ∃ d, dget ks vs k = some d ∧ Q d S
  | .ref n, k => match S[n]? with
    | some (.lst xs) => match k with
      | .int i => ∃ d, (ixOf xs.length i).bind (xs[·]?) = some d ∧ Q d S
      | _ => False
    | some (.dct ks vs) => keyD k = true ∧ ∃ d, dget ks vs k = some d ∧ Q d S
    | _ => False
  | _, _ => False
def ptW : D → Option (Option Int)
  | .int i => some (some i)
  | _ => none
def slcW (fz : Bool) (x : D) (lo hi : Option Int) (S : Store) (Q : QD) : Prop := match x with
  | .str s => s.length ≤ 16777216 ∧ Q (.str (cutL s lo hi)) S
  | .tup xs => Q (.tup (cutL xs lo hi)) S
  | .lst xs => mkL fz (cutL xs lo hi) S Q
  | .klst xs => mkL fz (cutL xs lo hi) S Q
  | .ref n => match S[n]? with
    | some (.lst xs) => mkL fz (cutL xs lo hi) S Q
    | _ => False
  | _ => False
def revW (fz : Bool) (x : D) (S : Store) (Q : QD) : Prop := match x with
  | .tup xs => Q (.tup xs.reverse) S
  | x => match lstOf S x with
    | some xs => mkL fz xs.reverse S Q
    | none => False
def fldW (x : D) (f : Nat) (S : Store) (Q : QD) : Prop := match x with
  | .ins _ ns fs => ∃ d, getF ns fs f = some d ∧ Q d S
  | .pin _ (.ins _ ns fs) => ∃ d, getF ns fs f = some d ∧ Q d S
  | .ref n => match S[n]? with
    | some (.obj _ ns fs) => ∃ d, getF ns fs f = some d ∧ Q d S
    | _ => False
  | _ => False
def clsOf (S : Store) : D → Option Nat
  | .ins c _ _ => some c
  | .ref n => match S[n]? with
    | some (.obj c _ _) => some c
    | _ => none
  | _ => none
def nsOf (S : Store) : D → Option (List Nat)
  | .ins _ ns _ => some ns
  | .ref n => match S[n]? with
    | some (.obj _ ns _) => some ns
    | _ => none
  | _ => none
def hasN : List Nat → Nat → Bool
  | [], _ => false
  | n :: r, m => match Nat.beq n m with
    | true => true
    | false => hasN r m
/-- the def that a datum's method is -/
def mthOf (T : Tab) (S : Store) (d : D) (m : Nat) : Option Nat := match clsOf S d, nsOf S d with
  | some c, some ns => match hasN ns m with
    | false => T.mth c m
    | true => none
  | _, _ => none
def kn (T : Tab) (c : Nat) : Bool := (T.cl c).isSome
def isB (t : Nat) : Cs → Bool
  | .own _ => false
  | .int => Nat.beq t 1 || Nat.beq t 2
  | .bool => Nat.beq t 1
  | .str => Nat.beq t 3
  | .tuple => Nat.beq t 4
  | .list => Nat.beq t 5
  | .dict => Nat.beq t 6
/-- the type that a datum has: 0 None, 1 bool, 2 int, 3 str, 4 tuple, 5 list, 6 dict, 7 + c an own class -/
def tyN (S : Store) : D → Option Nat
  | .non => some 0
  | .bl _ => some 1
  | .int _ => some 2
  | .str _ => some 3
  | .tup _ => some 4
  | .lst _ => some 5
  | .dct _ _ => some 6
  | .ins c _ _ => some (7 + c)
  | .ref n => match S[n]? with
    | some (.lst _) => some 5
    | some (.dct _ _) => some 6
    | some (.obj c _ _) => some (7 + c)
    | _ => none
  | _ => none
def isT (T : Tab) (t : Nat) (c : Cs) : Option Bool := match t with
  | 0 => some (isB 0 c)
  | 1 => some (isB 1 c)
  | 2 => some (isB 2 c)
  | 3 => some (isB 3 c)
  | 4 => some (isB 4 c)
  | 5 => some (isB 5 c)
  | 6 => some (isB 6 c)
  | k + 7 => match kn T k with
    | true => match c with
      | .own d => match kn T d with
        | true => some (T.sub k d)
        | false => none
      | _ => some false
    | false => none
def isA (T : Tab) (S : Store) (d : D) (c : Cs) : Option Bool := match tyN S d with
  | some t => isT T t c
  | none => none
def isAny (T : Tab) (S : Store) (x : D) : List Cs → Option Bool
  | [] => some false
  | c :: r => match isA T S x c with
    | some true => some true
    | some false => isAny T S x r
    | none => none
def truthW (x : D) (S : Store) (R : Bool → Prop) : Prop := match x with
  | .bl b => R b
  | .non => R false
  | .int i => R (i != 0)
  | _ => False
end DL

/-! DL 4: built-ins, walks, and the weakest preconditions -/
namespace DL
open PySem PySem.Spec PyProof.Rows L2

def allB : List D → Option Bool
  | [] => some true
  | .bl b :: r => match allB r with
    | some c => some (b && c)
    | none => none
  | _ :: _ => none
def anyB : List D → Option Bool
  | [] => some false
  | .bl b :: r => match anyB r with
    | some c => some (b || c)
    | none => none
  | _ :: _ => none
def intsOf : List D → Option (List Int)
  | [] => some []
  | .int i :: r => match intsOf r with
    | some l => some (i :: l)
    | none => none
  | _ :: _ => none
def strsOf : List D → Option (List Tx)
  | [] => some []
  | .str i :: r => match strsOf r with
    | some l => some (i :: l)
    | none => none
  | _ :: _ => none
def blsOf : List D → Option (List Bool)
  | [] => some []
  | .bl i :: r => match blsOf r with
    | some l => some (i :: l)
    | none => none
  | _ :: _ => none
def maxL : Int → List Int → Int
  | m, [] => m
  | m, x :: r => maxL (max m x) r
def minL : Int → List Int → Int
  | m, [] => m
  | m, x :: r => minL (min m x) r
def sumL : List Int → Int
  | [] => 0
  | x :: r => x + sumL r
/-- the order of texts -/
def leT : Tx → Tx → Bool
  | [], _ => true
  | _ :: _, [] => false
  | a :: r, b :: s => if a < b then true else if b < a then false else leT r s
def insT (x : Tx) : List Tx → List Tx
  | [] => [x]
  | y :: r => match leT x y with
    | true => x :: y :: r
    | false => y :: insT x r
def sortT : List Tx → List Tx
  | [] => []
  | x :: r => insT x (sortT r)
def insI (x : Int) : List Int → List Int
  | [] => [x]
  | y :: r => if x ≤ y then x :: y :: r else y :: insI x r
def sortI : List Int → List Int
  | [] => []
  | x :: r => insI x (sortI r)
/-- a number's figures -/
def showI (i : Int) : Tx := (toString i).toList.map Char.toNat
def joinT (sep : Tx) : List Tx → Tx
  | [] => []
  | [x] => x
  | x :: y :: r => x ++ sep ++ joinT sep (y :: r)
def lens : List Tx → Nat
  | [] => 0
  | x :: r => x.length + lens r
def sortW (fz : Bool) (xs : List D) (S : Store) (Q : QD) : Prop := match strsOf xs with
  | some ts => ts.length < 64 ∧ mkL fz ((sortT ts).map .str) S Q
  | none => match intsOf xs with
    | some is => is.length < 64 ∧ mkL fz ((sortI is).map .int) S Q
    | none => False
def lenW (xs : List D) (S : Store) (Q : QD) : Prop := match xs with
  | [.str s] => s.length ≤ 16777216 ∧ Q (.int s.length) S
  | [.tup xs] => Q (.int xs.length) S
  | [.lst xs] => Q (.int xs.length) S
  | [.klst xs] => Q (.int xs.length) S
  | [.dct ks _] => Q (.int ks.length) S
  | [.ref n] => match S[n]? with
    | some (.lst xs) => Q (.int xs.length) S
    | some (.dct ks _) => Q (.int ks.length) S
    | _ => False
  | _ => False
def absW (xs : List D) (S : Store) (Q : QD) : Prop := match xs with
  | [.int i] => Q (.int i.natAbs) S
  | _ => False
def int2W (f : Int → Int → Int) (xs : List D) (S : Store) (Q : QD) : Prop := match xs with
  | [.int i, .int j] => Q (.int (f i j)) S
  | _ => False
def int1W (f : Int → List Int → Int) (xs : List D) (S : Store) (Q : QD) : Prop := match xs with
  | [x] => match lstOf S x with
    | some xs => match intsOf xs with
      | some (i :: r) => Q (.int (f i r)) S
      | _ => False
    | none => False
  | _ => False
def bolW (f : List D → Option Bool) (xs : List D) (S : Store) (Q : QD) : Prop := match xs with
  | [x] => match lstOf S x with
    | some xs => match f xs with
      | some b => Q (.bl b) S
      | none => False
    | none => False
  | _ => False
def sumW (xs : List D) (S : Store) (Q : QD) : Prop := match xs with
  | [x] => match lstOf S x with
    | some xs => match intsOf xs with
      | some is => Q (.int (sumL is)) S
      | none => False
    | none => False
  | _ => False
def sortedW (fz : Bool) (xs : List D) (S : Store) (Q : QD) : Prop := match xs with
  | [x] => match lstOf S x with
    | some xs => sortW fz xs S Q
    | none => match dctOf S x with
      | some (ks, _) => match strsOf ks with
        | some ts => ts.length < 64 ∧ mkL fz ((sortT ts).map .str) S Q
        | none => False
      | none => False
  | _ => False
/-- texts, each once -/
def nubT : List Tx → List Tx
  | [] => []
  | x :: r => match decide (x ∈ r) with
    | true => nubT r
    | false => x :: nubT r
/-- sorted(set(x)) -/
def srtW (fz : Bool) (x : D) (S : Store) (Q : QD) : Prop := match lstOf S x with
  | some xs => match strsOf xs with
    | some ts => (ts.length < 4000 ∧ (nubT ts).length < 64) ∧ mkL fz ((sortT (nubT ts)).map .str) S Q
    | none => False
  | none => False
def strW (xs : List D) (S : Store) (Q : QD) : Prop := match xs with
  | [.int i] => i.natAbs.log2 < 1920 ∧ Q (.str (showI i)) S
  | _ => False
def intW (xs : List D) (S : Store) (Q : QD) : Prop := match xs with
  | [.int i] => Q (.int i) S
  | [.bl b] => Q (.int (if b then 1 else 0)) S
  | [.str s] => ∃ n, PySem.intText? (tx s) = some n ∧ s.length ≤ 640 ∧ Q (.int n) S
  | _ => False
def listW (fz : Bool) (xs : List D) (S : Store) (Q : QD) : Prop := match xs with
  | [x] => match seqOf S x with
    | some xs => mkL fz xs S Q
    | none => match dctOf S x with
      | some (ks, _) => mkL fz ks S Q
      | none => False
  | _ => False
/-- a new dict -/
def mkD (fz : Bool) (ks vs : List D) (S : Store) (Q : QD) : Prop := match fz with
  | true => Q (.dct ks vs) S
  | false => Q (.ref S.length) (S ++ [.dct ks vs])
/-- pairs put into a dict -/
def mkPs : List D → List D → List D → Option (List D × List D)
  | ks, vs, [] => some (ks, vs)
  | ks, vs, .tup [k, v] :: r => match keyD k with
    | true => mkPs (dputK ks k) (dputV ks vs k v) r
    | false => none
  | _, _, _ :: _ => none
def dictW (fz : Bool) (xs : List D) (S : Store) (Q : QD) : Prop := match xs with
  | [x] => match dctOf S x with
    | some (ks, vs) => mkD fz ks vs S Q
    | none => match lstOf S x with
      | some ps => match mkPs [] [] ps with
        | some (ks, vs) => mkD fz ks vs S Q
        | none => False
      | none => False
  | _ => False
def tupleW (xs : List D) (S : Store) (Q : QD) : Prop := match xs with
  | [x] => match seqOf S x with
    | some xs => Q (.tup xs) S
    | none => False
  | _ => False
def dvmW (xs : List D) (S : Store) (Q : QD) : Prop := match xs with
  | [.int i, .int j] => (j ≠ 0 ∧ j.natAbs < 1073741824) ∧ Q (.tup [.int (i.fdiv j), .int (i.fmod j)]) S
  | _ => False
def reprB (b : Bool) : Tx := match b with
  | true => [84, 114, 117, 101]
  | false => [70, 97, 108, 115, 101]
def reprW (xs : List D) (S : Store) (Q : QD) : Prop := match xs with
  | [.bl b] => Q (.str (reprB b)) S
  | [.int i] => i.natAbs.log2 < 1920 ∧ Q (.str (showI i)) S
  | [.non] => Q (.str [78, 111, 110, 101]) S
  | _ => False
def biW (b : Bi) (fz : Bool) (xs : List D) (S : Store) (Q : QD) : Prop := match b with
  | .len => lenW xs S Q
  | .abs => absW xs S Q
  | .max2 => int2W max xs S Q
  | .min2 => int2W min xs S Q
  | .max1 => int1W maxL xs S Q
  | .min1 => int1W minL xs S Q
  | .all => bolW allB xs S Q
  | .any => bolW anyB xs S Q
  | .sum => sumW xs S Q
  | .sorted => sortedW fz xs S Q
  | .str => strW xs S Q
  | .int => intW xs S Q
  | .list => listW fz xs S Q
  | .tuple => tupleW xs S Q
  | .divmod => dvmW xs S Q
  | .dict => dictW fz xs S Q
  | .repr => reprW xs S Q
  | _ => False
/-- a prefix -/
def preT : Tx → Tx → Bool
  | [], _ => true
  | _ :: _, [] => false
  | a :: r, b :: s => match Nat.beq a b with
    | true => preT r s
    | false => false
/-- a list's cell that is asked -/
def lcW1 (x : D) (S : Store) (R : Nat → List D → Prop) : Prop := match x with
  | .ref n => match S[n]? with
    | some (.lst xs) => R n xs
    | _ => False
  | _ => False
def appendW (x : D) (es : List D) (S : Store) (Q : QD) : Prop := match es with
  | [v] => lcW1 x S fun n xs => xs.length < 16777216 ∧ Q .non (S.set n (.lst (xs ++ [v])))
  | _ => False
def extendW (x : D) (es : List D) (S : Store) (Q : QD) : Prop := match es with
  | [y] => lcW1 x S fun n xs => match lstOf S y with
    | some ys => xs.length + ys.length ≤ 16777216 ∧ Q .non (S.set n (.lst (xs ++ ys)))
    | none => False
  | _ => False
def insertW (x : D) (es : List D) (S : Store) (Q : QD) : Prop := match es with
  | [.int i, v] => lcW1 x S fun n xs => (xs.length < 16777216 ∧ 0 ≤ i ∧ i < 2 ^ 63) ∧ Q .non (S.set n (.lst (xs.take i.toNat ++ [v] ++ xs.drop i.toNat)))
  | _ => False
def popW (x : D) (es : List D) (S : Store) (Q : QD) : Prop := match es with
  | [] => lcW1 x S fun n xs => ∃ v, xs.getLast? = some v ∧ Q v (S.set n (.lst xs.dropLast))
  | _ => False
def popAtW (x : D) (es : List D) (S : Store) (Q : QD) : Prop := match es with
  | [.int i] => lcW1 x S fun n xs => (0 ≤ i ∧ i < 1000000000) ∧ ∃ v, xs[i.toNat]? = some v ∧ Q v (S.set n (.lst (xs.eraseIdx i.toNat)))
  | _ => False
def dclearW (x : D) (es : List D) (S : Store) (Q : QD) : Prop := match x, es with
  | .ref n, [] => match S[n]? with
    | some (.dct _ _) => Q .non (S.set n (.dct [] []))
    | _ => False
  | _, _ => False
def clearW (x : D) (es : List D) (S : Store) (Q : QD) : Prop := match es with
  | [] => lcW1 x S fun n _ => Q .non (S.set n (.lst []))
  | _ => False
def reverseW (x : D) (es : List D) (S : Store) (Q : QD) : Prop := match es with
  | [] => lcW1 x S fun n xs => Q .non (S.set n (.lst xs.reverse))
  | _ => False
def joinW (x : D) (es : List D) (S : Store) (Q : QD) : Prop := match x, es with
  | .str a, [y] => match seqOf S y with
    | some ys => match strsOf ys with
      | some ts => lens ts + ts.length * a.length ≤ 16777216 ∧ Q (.str (joinT a ts)) S
      | none => False
    | none => False
  | _, _ => False
def startsW (x : D) (es : List D) (S : Store) (Q : QD) : Prop := match x, es with
  | .str a, [.str b] => Q (.bl (preT b a)) S
  | _, _ => False
def getW (x : D) (es : List D) (S : Store) (Q : QD) : Prop := match es with
  | [k] => match dctOf S x with
    | some (ks, vs) => keyD k = true ∧ Q ((dget ks vs k).getD .non) S
    | none => False
  | _ => False
def get2W (x : D) (es : List D) (S : Store) (Q : QD) : Prop := match es with
  | [k, d] => match dctOf S x with
    | some (ks, vs) => keyD k = true ∧ Q ((dget ks vs k).getD d) S
    | none => False
  | _ => False
def countW (x : D) (es : List D) (S : Store) (Q : QD) : Prop := match es with
  | [.bl b] => match lstOf S x with
    | some xs => match blsOf xs with
      | some bs => Q (.int (cntB b bs : Nat)) S
      | none => False
    | none => False
  | _ => False
def indexW (x : D) (es : List D) (S : Store) (Q : QD) : Prop := match es with
  | [.bl b] => match lstOf S x with
    | some xs => match blsOf xs with
      | some bs => ∃ j, idxB b bs = some j ∧ Q (.int (j : Nat)) S
      | none => False
    | none => False
  | _ => False
/-- a dict's items put into another -/
def mrgD : List D → List D → List D → List D → List D × List D
  | ks, vs, k :: ks2, v :: vs2 => mrgD (dputK ks k) (dputV ks vs k v) ks2 vs2
  | ks, vs, _, _ => (ks, vs)
def notRef (n : Nat) : D → Bool
  | .ref m => !Nat.beq m n
  | _ => true
def updateW (x : D) (es : List D) (S : Store) (Q : QD) : Prop := match x, es with
  | .ref n, [y] => match S[n]? with
    | some (.dct ks vs) => match dctOf S y with
      | some (ks2, vs2) => (notRef n y = true ∧ ks.length + ks2.length ≤ 16777216) ∧ Q .non (S.set n (.dct (mrgD ks vs ks2 vs2).1 (mrgD ks vs ks2 vs2).2))
      | none => False
    | _ => False
  | _, _ => False
def bmW (m : Bm) (fz : Bool) (x : D) (es : List D) (S : Store) (Q : QD) : Prop := match m with
  | .append => appendW x es S Q
  | .extend => extendW x es S Q
  | .insert => insertW x es S Q
  | .pop0 => popW x es S Q
  | .pop1 => popAtW x es S Q
  | .dclear => dclearW x es S Q
  | .clear => clearW x es S Q
  | .reverse => reverseW x es S Q
  | .join => joinW x es S Q
  | .startswith => startsW x es S Q
  | .get1 => getW x es S Q
  | .get2 => get2W x es S Q
  | .count => countW x es S Q
  | .index => indexW x es S Q
  | .update => updateW x es S Q
  | _ => False
/-- what a built-in method is asked of -/
inductive Kn where | list | str | dict
def bmKn : Bm → Kn
  | .append => .list | .extend => .list | .insert => .list | .pop0 => .list | .pop1 => .list | .clear => .list | .reverse => .list
  | .index => .list | .count => .list
  | .get1 => .dict | .get2 => .dict | .update => .dict | .setdefault => .dict | .dclear => .dict
  | _ => .str
def isStrD : D → Bool
  | .str _ => true
  | _ => false
def rcvB (m : Bm) (x : D) (S : Store) : Bool := match bmKn m with
  | .list => match lstOf S x with
    | some _ => true
    | none => false
  | .str => isStrD x
  | .dict => match dctOf S x with
    | some _ => true
    | none => false
/-! ### what is walked: the items, and what must stay meanwhile -/
def zipD : List D → List D → List D
  | x :: r, y :: s => .tup [x, y] :: zipD r s
  | _, _ => []
def enumD : Nat → List D → List D
  | _, [] => []
  | n, x :: r => .tup [.int n, x] :: enumD (n + 1) r
def upD : Int → Nat → List D
  | _, 0 => []
  | a, n + 1 => .int a :: upD (a + 1) n
def srcV (x : D) (S : Store) (R : List D → (Store → Prop) → Prop) : Prop := match x with
  | .tup xs => R xs fun _ => True
  | .lst xs => R xs fun _ => True
  | .klst xs => R xs fun _ => True
  | .str s => R (s.map fun c => .str [c]) fun _ => True
  | .dct ks _ => R ks fun _ => True
  | .ref n => match S[n]? with
    | some (.lst xs) => R xs fun S' => S'[n]? = some (.lst xs)
    | _ => False
  | _ => False
/-- enumerate(x) -/
def srcEn (xs : List D) (S : Store) (R : List D → (Store → Prop) → Prop) : Prop := match xs with
  | [.tup xs] => R (enumD 0 xs) fun _ => True
  | [.lst xs] => R (enumD 0 xs) fun _ => True
  | [.ref n] => match S[n]? with
    | some (.lst xs) => R (enumD 0 xs) fun S' => S'[n]? = some (.lst xs)
    | _ => False
  | _ => False
/-- zip(x, y) -/
def srcZp (xs : List D) (R : List D → (Store → Prop) → Prop) : Prop := match xs with
  | [.tup xs, .tup ys] => R (zipD xs ys) fun _ => True
  | [.lst xs, .lst ys] => R (zipD xs ys) fun _ => True
  | _ => False
def srcIt (xs : List D) (R : List D → (Store → Prop) → Prop) : Prop := match xs with
  | [.dct ks vs] => R (zipD ks vs) fun _ => True
  | _ => False
def srcVs (xs : List D) (R : List D → (Store → Prop) → Prop) : Prop := match xs with
  | [.dct _ vs] => R vs fun _ => True
  | _ => False
def srcE (xs : List D) (S : Store) (R : List D → (Store → Prop) → Prop) : Prop := match xs with
  | [x] => srcV x S R
  | _ => False
def srcR1 (xs : List D) (R : List D → (Store → Prop) → Prop) : Prop := match xs with
  | [.int n] => (-(2 ^ 62) ≤ n ∧ n < 2 ^ 62) ∧ R (upD 0 n.toNat) fun _ => True
  | _ => False
def srcR2 (xs : List D) (R : List D → (Store → Prop) → Prop) : Prop := match xs with
  | [.int a, .int b] => (-(2 ^ 62) ≤ a ∧ a < 2 ^ 62 ∧ -(2 ^ 62) ≤ b ∧ b < 2 ^ 62) ∧ R (upD a (b - a).toNat) fun _ => True
  | _ => False
def srcW (it : ItK) (xs : List D) (S : Store) (R : List D → (Store → Prop) → Prop) : Prop := match it with
  | .e => srcE xs S R
  | .rng1 => srcR1 xs R
  | .rng2 => srcR2 xs R
  | .enum => srcEn xs S R
  | .zip => srcZp xs R
  | .items => srcIt xs R
  | .values => srcVs xs R
  | _ => False
/-- written keys -/
def consOf : List IE → List D
  | [] => []
  | .con d :: r => d :: consOf r
  | _ :: r => .non :: consOf r
/-- the slots that a target sets -/
def bindTg : Tg → D → Store → Sl → (Sl → Prop) → Prop
  | .nm i, d, _, τ, Q => Q (setS τ i d)
  | .tp is, d, S, τ, Q => match d with
    | .tup xs => xs.length = is.length ∧ Q (setMany τ is xs)
    | .lst xs => xs.length = is.length ∧ Q (setMany τ is xs)
    | _ => False
where setMany : Sl → List Nat → List D → Sl
  | τ, i :: is, x :: xs => setMany (setS τ i x) is xs
  | τ, _, _ => τ

structure Post where
  nx : Sl → Store → Prop
  rt : QD
  bk : Sl → Store → Prop
  ct : Sl → Store → Prop
  ex : Sl → QD
mutual
/-- a cell's name put out by a datum -/
def sbD (n : Nat) (x : D) : D → D
  | .ref m => match Nat.beq m n with
    | true => x
    | false => .ref m
  | .tup xs => .tup (sbDs n x xs)
  | .lst xs => .lst (sbDs n x xs)
  | .klst xs => .klst (sbDs n x xs)
  | .dct ks vs => .dct ks (sbDs n x vs)
  | .ins c ns fs => .ins c ns (sbDs n x fs)
  | .exc c ns fs => .exc c ns (sbDs n x fs)
  | .pin m d => .pin m (sbD n x d)
  | .non => .non
  | .bl b => .bl b
  | .int i => .int i
  | .str s => .str s
def sbDs (n : Nat) (x : D) : List D → List D
  | [] => []
  | d :: r => sbD n x d :: sbDs n x r
end
def sbC (n : Nat) (x : D) : Cell → Cell
  | .lst xs => .lst (sbDs n x xs)
  | .dct ks vs => .dct ks (sbDs n x vs)
  | .obj c ns fs => .obj c ns (sbDs n x fs)
  | .dead => .dead
def sbS (n : Nat) (x : D) : Store → Store
  | [] => []
  | c :: r => sbC n x c :: sbS n x r
/-- what a cell is as a datum -/
def frzC : Cell → Option D
  | .lst xs => some (.lst xs)
  | .dct ks vs => some (.dct ks vs)
  | .obj c ns fs => some (.ins c ns fs)
  | .dead => none
/-- things of their own -/
def isR : D → Bool
  | .tup _ => true
  | .lst _ => true
  | .klst _ => true
  | .dct _ _ => true
  | .ins _ _ _ => true
  | _ => false
mutual
/-- a datum with some of its parts named: names from n on, up to m -/
inductive PinR : Nat → D → D → Nat → Prop
  | refl {n d} : PinR n d d n
  | tup {n xs ys m} (h : PinRs n xs ys m) : PinR n (.tup xs) (.tup ys) m
  | lst {n xs ys m} (h : PinRs n xs ys m) : PinR n (.lst xs) (.lst ys) m
  | ins {n c ns xs ys m} (h : PinRs n xs ys m) : PinR n (.ins c ns xs) (.ins c ns ys) m
  | pin {n d e m} (r : isR d = true) (h : PinR n d e m) : PinR n d (.pin m e) (m + 1)
inductive PinRs : Nat → List D → List D → Nat → Prop
  | nil {n} : PinRs n [] [] n
  | cons {n d e m ds es l} (h : PinR n d e m) (t : PinRs m ds es l) : PinRs n (d :: ds) (e :: es) l
end
/-- ghost steps of a datum and a store, where n0 cells were there at first -/
inductive Gh (n0 : Nat) : D → Store → D → Store → Prop
  | refl {d S} : Gh n0 d S d S
  | frz {d S d2 S2} (n : Nat) (c : Cell) (x : D) (h : S[n]? = some c) (e : frzC c = some x) (t : Gh n0 (sbD n x d) (sbS n x (S.set n .dead)) d2 S2) : Gh n0 d S d2 S2
  | trim {d S d2 S2} (A T : Store) (e : S = A ++ T) (l : n0 ≤ A.length) (b : belS A.length A = true) (c : bel A.length d = true) (t : Gh n0 d A d2 S2) : Gh n0 d S d2 S2
  | pin {d S d1 m d2 S2} (p : PinR S.length d d1 m) (t : Gh n0 d1 (S ++ List.replicate (m - S.length) .dead) d2 S2) : Gh n0 d S d2 S2
def sbSl (n : Nat) (x : D) : Sl → Sl
  | [] => []
  | none :: r => none :: sbSl n x r
  | some d :: r => some (sbD n x d) :: sbSl n x r
def belSl (n : Nat) : Sl → Bool
  | [] => true
  | none :: r => belSl n r
  | some d :: r => bel n d && belSl n r
/-- ghost steps of the slots and a store -/
inductive Fg (n0 : Nat) : Sl → Store → Sl → Store → Prop
  | refl {τ S} : Fg n0 τ S τ S
  | frz {τ S τ2 S2} (n : Nat) (c : Cell) (x : D) (h : S[n]? = some c) (e : frzC c = some x) (t : Fg n0 (sbSl n x τ) (sbS n x (S.set n .dead)) τ2 S2) : Fg n0 τ S τ2 S2
  | trim {τ S τ2 S2} (A T : Store) (e : S = A ++ T) (l : n0 ≤ A.length) (b : belS A.length A = true) (c : belSl A.length τ = true) (t : Fg n0 τ A τ2 S2) : Fg n0 τ S τ2 S2
  | pin {τ S τ2 S2} (i : Nat) (d d1 : D) (m : Nat) (h : getS τ i = some d) (p : PinR S.length d d1 m) (t : Fg n0 (setS τ i d1) (S ++ List.replicate (m - S.length) .dead) τ2 S2) : Fg n0 τ S τ2 S2
  | wipe {τ S τ2 S2} (is : List Nat) (t : Fg n0 (wipeS τ is) S τ2 S2) : Fg n0 τ S τ2 S2
/-- a for's turns -/
def forW0 (n0 : Nat) (bind : D → Store → Sl → (Sl → Prop) → Prop) (body : Post → Sl → Store → Prop) (src : Store → Prop) (P : Post) : List D → Sl → Store → Prop
  | [], τ, S => src S ∧ P.nx τ S
  | x :: r, τ, S => src S ∧ bind x S τ fun τ1 =>
      body { P with
        nx := fun τ2 S2 => ∃ τ3 S3, Fg n0 τ2 S2 τ3 S3 ∧ forW0 n0 bind body src P r τ3 S3
        ct := fun τ2 S2 => ∃ τ3 S3, Fg n0 τ2 S2 τ3 S3 ∧ forW0 n0 bind body src P r τ3 S3
        bk := P.nx } τ1 S
@[irreducible] def forW := forW0
/-- a while's turns: an invariant with a measure -/
@[irreducible] def whlW (n0 : Nat) (test : Sl → Store → (Bool → Store → Prop) → Prop) (body : Post → Sl → Store → Prop) (P : Post) (τ : Sl) (S : Store) : Prop :=
  ∃ I : Nat → Sl → Store → Prop, (∃ m, I m τ S) ∧ ∀ m τ S, I m τ S → test τ S fun b S1 => iteW b
    (body { P with
        nx := fun τ2 S2 => ∃ τ3 S3 m', Fg n0 τ2 S2 τ3 S3 ∧ m' < m ∧ I m' τ3 S3
        ct := fun τ2 S2 => ∃ τ3 S3 m', Fg n0 τ2 S2 τ3 S3 ∧ m' < m ∧ I m' τ3 S3
        bk := P.nx } τ S1) (P.nx τ S1)
/-- a comprehension's turns -/
def lcW0 (bind : D → Store → Sl → (Sl → Prop) → Prop) (test : Sl → Store → (Bool → Store → Prop) → Prop) (elt : Sl → Store → QD → Prop) (src : Store → Prop) (τ : Sl) (Q : QL) : List D → List D → Store → Prop
  | [], acc, S => src S ∧ Q acc S
  | x :: r, acc, S => src S ∧ bind x S τ fun τ1 => test τ1 S fun b S1 => iteW b
      (elt τ1 S1 fun v S2 => acc.length < 16777216 ∧ ∃ v2 S3, Gh S.length v S2 v2 S3 ∧ lcW0 bind test elt src τ Q r (acc ++ [v2]) S3)
      (lcW0 bind test elt src τ Q r acc S1)

@[irreducible] def lcW := lcW0

section
variable (T : Tab) (O : Orc)
mutual
def wpE : IE → Sl → Store → QD → QD → Prop
  | .var i, τ, S, Q, _ => match getS τ i with
    | some d => Q d S
    | none => False
  | .con d, _, S, Q, _ => Q d S
  | .glo g, _, S, Q, _ => Q (T.glo g) S
  | .bin op fz a b, τ, S, Q, E => wpE a τ S (fun x S1 => wpE b τ S1 (fun y S2 => binW op fz x y S2 Q) E) E
  | .modp a b, τ, S, Q, E => wpE a τ S (fun x S1 => wpE b τ S1 (fun y S2 => modpW x y S2 Q) E) E
  | .divp a b, τ, S, Q, E => wpE a τ S (fun x S1 => wpE b τ S1 (fun y S2 => divpW x y S2 Q) E) E
  | .neg a, τ, S, Q, E => wpE a τ S (fun x S1 => match x with
    | .int i => Q (.int (-i)) S1
    | _ => False) E
  | .not a, τ, S, Q, E => wpE a τ S (fun x S1 => match x with
    | .bl b => Q (.bl (!b)) S1
    | _ => False) E
  | .and_ a b, τ, S, Q, E => wpE a τ S (fun x S1 => match x with
    | .bl c => iteW c (wpE b τ S1 Q E) (Q (.bl false) S1)
    | _ => False) E
  | .or_ a b, τ, S, Q, E => wpE a τ S (fun x S1 => match x with
    | .bl c => iteW c (Q (.bl true) S1) (wpE b τ S1 Q E)
    | _ => False) E
  | .cmp op a b, τ, S, Q, E => wpE a τ S (fun x S1 => wpE b τ S1 (fun y S2 => cmpW op x y S2 Q) E) E
  | .chn op op' a b c, τ, S, Q, E => wpE a τ S (fun x S1 => wpE b τ S1 (fun y S2 => cmpW op x y S2 fun r S3 => match r with
    | .bl k => iteW k (wpE c τ S3 (fun z S4 => cmpW op' y z S4 Q) E) (Q (.bl false) S3)
    | _ => False) E) E
  | .ifx c a b, τ, S, Q, E => wpT c τ S (fun k S1 => iteW k (wpE a τ S1 Q E) (wpE b τ S1 Q E)) E
  | .idx a b, τ, S, Q, E => wpE a τ S (fun x S1 => wpE b τ S1 (fun y S2 => idxW x y S2 Q) E) E
  | .kget g a, τ, S, Q, E => wpE a τ S (fun x S1 => match x with
    | .str s => match findT s (T.kd g) with
      | some y => Q (.str y) S1
      | none => False
    | _ => False) E
  | .slc fz a lo hi, τ, S, Q, E => wpE a τ S (fun x S1 => wpP lo τ S1 (fun l S2 => wpP hi τ S2 (fun h S3 => slcW fz x l h S3 Q) E) E) E
  | .rev fz a, τ, S, Q, E => wpE a τ S (fun x S1 => revW fz x S1 Q) E
  | .srt fz a, τ, S, Q, E => wpE a τ S (fun x S1 => srtW fz x S1 Q) E
  | .fld a f, τ, S, Q, E => wpE a τ S (fun x S1 => fldW x f S1 Q) E
  | .call f es, τ, S, Q, E => wpL es τ S (fun xs S1 => O.call f xs S1 Q E) E
  | .new c es, τ, S, Q, E => wpL es τ S (fun xs S1 => O.new c xs S1 Q E) E
  | .meth a m es, τ, S, Q, E => wpE a τ S (fun x S1 => match mthOf T S1 x m with
    | some f => wpL es τ S1 (fun xs S2 => O.call f (x :: xs) S2 Q E) E
    | none => False) E
  | .bi b fz es, τ, S, Q, E => wpL es τ S (fun xs S1 => biW b fz xs S1 Q) E
  | .bm m fz a es, τ, S, Q, E => wpE a τ S (fun x S1 => match rcvB m x S1 with
    | true => wpL es τ S1 (fun xs S2 => bmW m fz x xs S2 Q) E
    | false => False) E
  | .isi a _ cs, τ, S, Q, E => wpE a τ S (fun x S1 => match isAny T S1 x cs with
    | some b => Q (.bl b) S1
    | none => False) E
  | .tup es, τ, S, Q, E => wpL es τ S (fun xs S1 => Q (.tup xs) S1) E
  | .lst fz es, τ, S, Q, E => wpL es τ S (fun xs S1 => mkL fz xs S1 Q) E
  | .dct ks vs, τ, S, Q, E => match ks with
    | [] => Q (.ref S.length) (S ++ [.dct [] []])
    | k :: r => wpL vs τ S (fun xs S1 => ((k :: r).length = xs.length ∧ xs.length ≤ 15) ∧ match mkPs [] [] (zipD (consOf (k :: r)) xs) with
      | some (ks', vs') => Q (.ref S1.length) (S1 ++ [.dct ks' vs'])
      | none => False) (fun _ _ => False)
  | .lvals fz a, τ, S, Q, E => wpE a τ S (fun x S1 => match dctOf S1 x with
    | some (_, vs) => mkL fz vs S1 Q
    | none => False) E
  | .lc fz own tg it src ifs elt, τ, S, Q, E => wpL src τ S (fun xs S1 => srcW it xs S1 fun items st =>
      lcW (bindTg tg) (fun τ1 S2 R => wpI ifs τ1 S2 R (fun _ _ => False)) (fun τ1 S2 R => wpE elt τ1 S2 R (fun _ _ => False)) st (wipeS τ own) (fun ys S3 => mkL fz ys S3 Q) items [] S1) E
/-- as a test -/
def wpT : IT → Sl → Store → (Bool → Store → Prop) → QD → Prop
  | .not a, τ, S, Q, E => wpT a τ S (fun b S1 => Q (!b) S1) E
  | .and_ a b, τ, S, Q, E => wpT a τ S (fun c S1 => iteW c (wpT b τ S1 Q E) (Q false S1)) E
  | .or_ a b, τ, S, Q, E => wpT a τ S (fun c S1 => iteW c (Q true S1) (wpT b τ S1 Q E)) E
  | .val e, τ, S, Q, E => wpE e τ S (fun r S3 => truthW r S3 fun k => Q k S3) E
  | .chn op op' a b c, τ, S, Q, E => wpE a τ S (fun x S1 => wpE b τ S1 (fun y S2 => cmpW op x y S2 fun r S3 => match r with
    | .bl k => iteW k (wpE c τ S3 (fun z S4 => cmpW op' y z S4 fun r S5 => match r with
      | .bl k => Q k S5
      | _ => False) E) (Q false S3)
    | _ => False) E) E
def wpL : List IE → Sl → Store → QL → QD → Prop
  | [], _, S, Q, _ => Q [] S
  | e :: es, τ, S, Q, E => wpE e τ S (fun x S1 => wpL es τ S1 (fun xs S2 => Q (x :: xs) S2) E) E
/-- a cut's bound -/
def wpP : List IE → Sl → Store → (Option Int → Store → Prop) → QD → Prop
  | [], _, S, Q, _ => Q none S
  | e :: _, τ, S, Q, E => wpE e τ S (fun r S3 => match r with
    | .int i => Q (some i) S3
    | _ => False) E
/-- none or one test -/
def wpI : List IT → Sl → Store → (Bool → Store → Prop) → QD → Prop
  | [], _, S, Q, _ => Q true S
  | c :: _, τ, S, Q, E => wpT c τ S Q E
end
end
end DL

/-! DL 5: statements -/
namespace DL
open PySem PySem.Spec PyProof.Rows L2

def augAddW (x y : D) (S : Store) (Q : QD) : Prop := match x, y with
  | .int i, .int j => Q (.int (i + j)) S
  | .str a, .str b => a.length + b.length ≤ 16777216 ∧ Q (.str (a ++ b)) S
  | .ref n, y => match S[n]?, lstOf S y with
    | some (.lst a), some b => a.length + b.length ≤ 16777216 ∧ Q (.ref n) (S.set n (.lst (a ++ b)))
    | _, _ => False
  | _, _ => False
def augW (op : Operator) (x y : D) (S : Store) (Q : QD) : Prop := match op with
  | .Add => augAddW x y S Q
  | .Sub => subW x y S Q
  | _ => False
/-- a cell's item that is put anew -/
def idxR (x k : D) (S : Store) (Q : QD) : Prop := match x with
  | .ref n => match S[n]? with
    | some (.lst xs) => match k with
      | .int i => ∃ d, (ixOf xs.length i).bind (xs[·]?) = some d ∧ Q d S
      | _ => False
    | some (.dct ks vs) => keyD k = true ∧ ∃ d, dget ks vs k = some d ∧ Q d S
    | _ => False
  | _ => False
def setIW (x k v : D) (S : Store) (R : Store → Prop) : Prop := match x with
  | .ref n => match S[n]? with
    | some (.lst xs) => match k with
      | .int i => ∃ j, ixOf xs.length i = some j ∧ R (S.set n (.lst (xs.set j v)))
      | _ => False
    | some (.dct ks vs) => (keyD k = true ∧ ks.length < 16777216) ∧ R (S.set n (.dct (dputK ks k) (dputV ks vs k v)))
    | _ => False
  | _ => False
def setFW (T : Tab) (x : D) (f : Nat) (v : D) (S : Store) (R : Store → Prop) : Prop := match x with
  | .ref n => match S[n]? with
    | some (.obj c ns fs) => (ns.length < 900 ∧ T.fld c f = true) ∧ R (S.set n (.obj c (putFn ns f) (putFd ns fs f v)))
    | _ => False
  | _ => False
/-- what is asked of an exception of the class c -/
def xAny (T : Tab) (c : Nat) : List (Option Nat) → Bool
  | [] => false
  | none :: _ => true
  | some d :: r => match T.sub c d with
    | true => true
    | false => xAny T c r
def evX (T : Tab) (c : Nat) : XE → Bool
  | .isi _ cs => xAny T c cs
  | .and_ a b => match evX T c a with
    | true => evX T c b
    | false => false
  | .or_ a b => match evX T c a with
    | true => true
    | false => evX T c b
  | .not a => !evX T c a
section
variable (T : Tab) (O : Orc)
def hsW : HS → Post → Sl → Store → Prop
  | .ret e, P, τ, S => wpE T O e τ S P.rt (fun _ _ => False)
  | .cont, P, τ, S => P.ct τ S
  | .pass, P, τ, S => P.nx τ S
def hndW : List (Nat × HS) → Post → Sl → D → Store → Prop
  | [], P, τ, d, S => P.ex τ d S
  | (c', s) :: r, P, τ, d, S => match d with
    | .exc c _ _ => T.xc c = true ∧ match T.sub c c' with
      | true => hsW T O s P τ S
      | false => hndW r P τ d S
    | _ => False
def xsW (c : Nat) : List XS → Post → Sl → Store → Prop
  | [], P, τ, S => P.nx τ S
  | .ifr t e :: r, P, τ, S => match evX T c t with
    | true => wpE T O e τ S P.rt (fun _ _ => False)
    | false => xsW c r P τ S
  | .ret t :: _, P, _, S => P.rt (.bl (evX T c t)) S
/-- behind a clause with a name, its slot is empty -/
def postA (i : Nat) (P : Post) : Post where
  nx := fun τ S => P.nx (wipeS τ [i]) S
  rt := P.rt
  bk := fun τ S => P.bk (wipeS τ [i]) S
  ct := fun τ S => P.ct (wipeS τ [i]) S
  ex := fun _ _ _ => False
def handA (c' i : Nat) (ss : List XS) (P : Post) (τ : Sl) (d : D) (S : Store) : Prop := match d with
  | .exc c ns _ => T.xc c = true ∧ match T.sub c c' with
    | true => (ns = [] ∧ Nat.blt i τ.length = true) ∧ xsW T O c ss (postA i P) (wipeS τ [i]) S
    | false => P.ex τ d S
  | _ => False
mutual
def wpS : IS → Post → Sl → Store → Prop
  | .set i e, P, τ, S => wpE T O e τ S (fun d S1 => P.nx (setS τ i d) S1) (P.ex τ)
  | .setF a f v, P, τ, S => wpE T O v τ S (fun d S1 => wpE T O a τ S1 (fun x S2 => setFW T x f d S2 (P.nx τ)) (P.ex τ)) (P.ex τ)
  | .setI a i v, P, τ, S => wpE T O v τ S (fun d S1 => wpE T O a τ S1 (fun x S2 => wpE T O i τ S2 (fun k S3 => setIW x k d S3 (P.nx τ)) (P.ex τ)) (P.ex τ)) (P.ex τ)
  | .setT is e, P, τ, S => wpE T O e τ S (fun d S1 => bindTg (.tp is) d S1 τ fun τ1 => P.nx τ1 S1) (P.ex τ)
  | .par i j a b, P, τ, S => wpL T O [a, b] τ S (fun xs S1 => match xs with
    | [x, y] => P.nx (setS (setS τ i x) j y) S1
    | _ => False) (P.ex τ)
  | .aug i op e, P, τ, S => match getS τ i with
    | some x => wpE T O e τ S (fun y S1 => augW op x y S1 fun z S2 => P.nx (setS τ i z) S2) (P.ex τ)
    | none => False
  | .augF a f op e, P, τ, S => wpE T O a τ S (fun x S1 => fldW x f S1 fun old S2 => wpE T O e τ S2 (fun y S3 => augW op old y S3 fun z S4 => setFW T x f z S4 (P.nx τ)) (P.ex τ)) (P.ex τ)
  | .augI a i op e, P, τ, S => wpE T O a τ S (fun x S1 => wpE T O i τ S1 (fun k S2 => idxR x k S2 fun old S3 => wpE T O e τ S3 (fun y S4 => augW op old y S4 fun z S5 => setIW x k z S5 (P.nx τ)) (P.ex τ)) (P.ex τ)) (P.ex τ)
  | .ex e, P, τ, S => wpE T O e τ S (fun _ S1 => P.nx τ S1) (P.ex τ)
  | .ret e, P, τ, S => wpE T O e τ S P.rt (P.ex τ)
  | .retN, P, _, S => P.rt .non S
  | .pass, P, τ, S => P.nx τ S
  | .brk, P, τ, S => P.bk τ S
  | .cont, P, τ, S => P.ct τ S
  | .ite c a b, P, τ, S => wpT T O c τ S (fun k S1 => iteW k (wpSs a P τ S1) (wpSs b P τ S1)) (P.ex τ)
  | .whl c b, P, τ, S => whlW S.length (fun τ1 S1 R => wpT T O c τ1 S1 R (P.ex τ1)) (fun P' τ1 S1 => wpSs b P' τ1 S1) P τ S
  | .for_ tg it src b, P, τ, S => wpL T O src τ S (fun xs S1 => srcW it xs S1 fun items st => forW S1.length (bindTg tg) (fun P' τ1 S2 => wpSs b P' τ1 S2) st P items τ S1) (P.ex τ)
  | .gh, P, τ, S => ∃ τ2 S2, Fg S.length τ S τ2 S2 ∧ P.nx τ2 S2
  | .raise c _, P, τ, S => P.ex τ (.exc c [] []) S
  | .rno, _, _, _ => False
  | .try_ b hs, P, τ, S => wpSs b { P with ex := fun τ1 d S1 => hndW T O hs P τ1 d S1 } τ S
  | .tryA b c i ss, P, τ, S => wpSs b { P with ex := fun τ1 d S1 => handA T O c i ss P τ1 d S1 } τ S
def wpSs : List IS → Post → Sl → Store → Prop
  | [], P, τ, S => P.nx τ S
  | s :: r, P, τ, S => wpS s { P with nx := fun τ1 S1 => wpSs r P τ1 S1 } τ S
end
end

end DL

set_option maxHeartbeats 1000000
/-! DL 6: the operations are what the hand layer's are -/
namespace DL
open PySem PySem.Spec PyProof.Rows L2

/-- from the data's post to the value's -/
abbrev Fin (G : Gd) (S : Store) (ρ : List Addr) (H : Hp) (P : QD) (Q : VK) : Prop :=
  ∀ (d : D) (S' : Store) (ρ' : List Addr) (H' : Hp) (r : V), P d S' → Sim G S' ρ' H' → Stp G S S' ρ ρ' H H' → RVl G S' ρ' H' d r → Q r H'
def rd2 (G : Gd) (W : D → D → Store → QD → Prop) : R2 := fun u v H Q => ∃ S ρ x y P, Sim G S ρ H ∧ RVl G S ρ H x u ∧ RVl G S ρ H y v ∧ W x y S P ∧ Fin G S ρ H P Q
section
variable {G : Gd} {S : Store} {ρ : List Addr} {H : Hp} {P : QD} {Q : VK}
theorem line : sizeLine = 16777216 := sizeLine_eq
theorem Fin.here (s : Sim G S ρ H) (f : Fin G S ρ H P Q) {d : D} {r : V} (p : P d S) (h : RVl G S ρ H d r) : Q r H := f d S ρ H r p s Stp.refl h
/-- a new list -/
theorem Fin.new (s : Sim G S ρ H) (f : Fin G S ρ H P Q) {p : Addr} {fz : Bool} {xs : List D} {us : List V} (hp : H p = none) (r : RVsl G S ρ H xs us) (m : mkL fz xs S P) : Q (.ref p) (upd H p (.lst us)) := by
  cases fz with
  | true =>
    exact f _ S ρ _ _ m (s.laid hp) (Stp.laid s hp) (.lst ⟨s.fresh hp, upd_same⟩ ((Stp.laid s hp).rvs r))
  | false =>
    have st : Stp G S (S ++ [.lst xs]) ρ (ρ ++ [p]) H (upd H p (.lst us)) := Stp.cell s hp
    refine f (.ref S.length) (S ++ [.lst xs]) (ρ ++ [p]) (upd H p (.lst us)) _ (show P (.ref S.length) (S ++ [Cell.lst xs]) from m) (Sim.cell (c := .lst xs) s hp ⟨us, upd_same, st.rvs r⟩) st (.ref ?_)
    rw [← s.len, List.getElem?_append_right (Nat.le_refl _)]
    simp
/-- a new tuple -/
theorem Fin.newT (s : Sim G S ρ H) (f : Fin G S ρ H P Q) {p : Addr} {xs : List D} {us : List V} (hp : H p = none) (r : RVsl G S ρ H xs us) (m : P (.tup xs) S) : Q (.ref p) (upd H p (.tup us)) :=
  f _ S ρ _ _ m (s.laid hp) (Stp.laid s hp) (.tup (.inl ⟨s.fresh hp, .inl upd_same⟩) ((Stp.laid s hp).rvs r))
/-- a list's look -/
theorem Sim.lst_at (s : Sim G S ρ H) {n : Nat} {xs : List D} {u : V} (hn : S[n]? = some (.lst xs)) (h : RVl G S ρ H (.ref n) u) : ∃ a us, u = .ref a ∧ H a = some (.lst us) ∧ RVsl G S ρ H xs us ∧ ρ[n]? = some a := by
  cases h with
  | ref ha =>
    obtain ⟨us, h1, h2⟩ := s.ok n _ _ ha hn
    exact ⟨_, us, rfl, h1, h2, ha⟩
theorem Sim.dct_at (s : Sim G S ρ H) {n : Nat} {ks vs : List D} {u : V} (hn : S[n]? = some (.dct ks vs)) (h : RVl G S ρ H (.ref n) u) : ∃ a kus, u = .ref a ∧ H a = some (.dK kus) ∧ RKs G (Live G S ρ) ρ H ks vs kus ∧ ρ[n]? = some a := by
  cases h with
  | ref ha =>
    obtain ⟨us, h1, h2⟩ := s.ok n _ _ ha hn
    exact ⟨_, us, rfl, h1, h2, ha⟩
theorem Sim.obj_at (s : Sim G S ρ H) {n c : Nat} {ns : List Nat} {fs : List D} {u : V} (hn : S[n]? = some (.obj c ns fs)) (h : RVl G S ρ H (.ref n) u) :
    ∃ a dx fl, u = .ref a ∧ H a = some (.ins (G.ca c) dx fl) ∧ Closed G c ns fl ∧ RFs G (Live G S ρ) ρ H fl ns fs ∧ ρ[n]? = some a := by
  cases h with
  | ref ha =>
    obtain ⟨dx, fl, h1, h2, h3⟩ := s.ok n _ _ ha hn
    exact ⟨_, dx, fl, rfl, h1, h2, h3, ha⟩
/-- a datum that is a list: tracked -/
theorem lstOf_at (s : Sim G S ρ H) {d : D} {xs : List D} {u : V} (e : lstOf S d = some xs) (h : RVl G S ρ H d u) : ∃ a us, u = .ref a ∧ H a = some (.lst us) ∧ RVsl G S ρ H xs us := by
  unfold lstOf at e
  split at e
  · cases e
    cases h with
    | lst h r => exact ⟨_, _, rfl, h.2, r⟩
  · split at e
    · cases e
      obtain ⟨a, us, e1, h1, h2, _⟩ := s.lst_at (by assumption) h
      exact ⟨a, us, e1, h1, h2⟩
    · cases e
  · cases e
theorem seqOf_at (s : Sim G S ρ H) {d : D} {xs : List D} {u : V} (e : seqOf S d = some xs) (h : RVl G S ρ H d u) : ∃ a us, u = .ref a ∧ (SqL G.K H a us ∨ SqT G.K H a us) ∧ RVsl G S ρ H xs us := by
  unfold seqOf at e
  split at e
  · cases e
    cases h with
    | tup h r => exact ⟨_, _, rfl, .inr h.seq, r⟩
  · cases e
    cases h with
    | klst h r => exact ⟨_, _, rfl, .inl h.seq, r⟩
  · cases e
    cases h with
    | lst h r => exact ⟨_, _, rfl, .inl (SqL.of h.2), r⟩
  · split at e
    · cases e
      obtain ⟨a, us, e1, h1, h2, _⟩ := s.lst_at (by assumption) h
      exact ⟨a, us, e1, .inl (SqL.of h1), h2⟩
    · cases e
  · cases e
end

theorem tx_append (a b : Tx) : tx a ++ tx b = tx (a ++ b) := by
  show (⟨a.toArray ++ b.toArray⟩ : Str) = ⟨(a ++ b).toArray⟩
  simp
theorem tx_length (a : Tx) : (tx a).length = a.length := by
  show a.toArray.size = a.length
  simp
theorem mulOk_ok {i j : Int} (h : mulOk i j) : IntMulOk i j := by
  rcases h with (h | h) | h
  · exact IntMulOk.of_left (PyProof.Rows.intBits_le (k := 64) (show _ < 2 ^ 64 from h))
  · exact IntMulOk.of_right (PyProof.Rows.intBits_le (k := 64) (show _ < 2 ^ 64 from h))
  · exact CMulW.ok h
theorem op_mulM {X : Cx} : OpR X (binaryOp .Mult) (rI mulOk fun i j => .int (i * j)) := opI fun _ _ _ _ _ _ _ hc q => mul_int q (mulOk_ok hc)
section
variable {G : Gd} {X : Cx}
theorem add_ok (hK : X.K = G.K) (fz : Bool) : OpR X (binaryOp .Add) (rd2 G (addW fz)) := by
  intro pins s σ H x y v u Q I rx ry h
  obtain ⟨S, ρ, dx, dy, P, sim, r1, r2, w, fin⟩ := h
  have lists : ∀ {a b : List D}, lstOf S dx = some a → lstOf S dy = some b → a.length + b.length ≤ 16777216 → mkL fz (a ++ b) S P → wpAny (model X.prog X.w) X.A (binaryOp .Add v u) (EP X pins σ Q) X.xe s := fun {a b} e1 e2 hl m => by
    obtain ⟨p1, us, rfl, h1, q1⟩ := lstOf_at sim e1 r1
    obtain ⟨p2, ws, rfl, h2, q2⟩ := lstOf_at sim e2 r2
    refine op_cat pins s σ H _ _ v u Q I rx ry ⟨p1, p2, us, ws, rfl, rfl, h1, h2, by rw [line, ← q1.length, ← q2.length]; exact hl, fun p hp => Fin.new sim fin hp (q1.append q2) m⟩
  unfold addW at w
  split at w
  · cases r1
    cases r2
    exact op_add pins s σ H _ _ v u Q I rx ry ⟨_, _, rfl, rfl, fin.here sim w (.int _)⟩
  · cases r1
    cases r2
    refine op_add_str pins s σ H _ _ v u Q I rx ry ⟨_, _, rfl, rfl, by rw [tx_length, tx_length, line]; exact w.1, ?_⟩
    rw [tx_append]
    exact fin.here sim w.2 (.str _)
  · obtain ⟨w1, w2⟩ := w
    cases r1 with
    | tup h1 q1 =>
      cases r2 with
      | tup h2 q2 =>
        rename_i us1 p1 us2 p2
        refine op_catA pins s σ H _ _ v u Q I rx ry ⟨_, _, us1, us2, rfl, rfl, by rw [hK]; exact h1.seq, by rw [hK]; exact h2.seq, by rw [line, ← q1.length, ← q2.length]; exact w1, fun e => ?_, fun e1 e => ?_, fun e1 e2 p hp => ?_⟩
        · subst e
          cases q1
          exact fin.here sim w2 (.tup h2 q2)
        · subst e
          cases q2
          rw [List.append_nil] at w2
          exact fin.here sim w2 (.tup h1 q1)
        · exact fin.newT sim hp (q1.append q2) w2
  · exact lists rfl rfl w.1 w.2
  · split at w
    · rename_i e
      exact lists rfl (by simp only [lstOf, e]) w.1 w.2
    · exact w.elim
  · split at w
    · rename_i e1 e2
      exact lists (by simp only [lstOf, e1]) e2 w.1 w.2
    · exact w.elim
  · exact w.elim
theorem sub_ok : OpR X (binaryOp .Sub) (rd2 G subW) := by
  intro pins s σ H x y v u Q I rx ry h
  obtain ⟨S, ρ, dx, dy, P, sim, r1, r2, w, fin⟩ := h
  unfold subW at w
  split at w
  · cases r1
    cases r2
    exact op_sub pins s σ H _ _ v u Q I rx ry ⟨_, _, rfl, rfl, fin.here sim w (.int _)⟩
  · exact w.elim
theorem rvs_rep {Lv : Addr → Prop} {ρ : List Addr} {H : Hp} {xs : List D} {us : List V} (r : RVs G Lv ρ H xs us) : ∀ n : Nat, RVs G Lv ρ H (List.replicate n xs).flatten (List.replicate n us).flatten
  | 0 => .nil
  | n + 1 => by
    rw [List.replicate_succ, List.replicate_succ, List.flatten_cons, List.flatten_cons]
    exact r.append (rvs_rep r n)
theorem mul_ok (fz : Bool) : OpR X (binaryOp .Mult) (rd2 G (mulW fz)) := by
  intro pins s σ H x y v u Q I rx ry h
  obtain ⟨S, ρ, dx, dy, P, sim, r1, r2, w, fin⟩ := h
  unfold mulW at w
  split at w
  · cases r1
    cases r2
    exact op_mulM pins s σ H _ _ v u Q I rx ry ⟨_, _, rfl, rfl, w.1, fin.here sim w.2 (.int _)⟩
  · cases r1
    cases r2
    rename_i a k
    obtain ⟨⟨w1, w2, w3⟩, w⟩ := w
    obtain ⟨t, rfl⟩ := rx
    obtain ⟨t', rfl⟩ := ry
    have hk : ∃ n : Nat, k = n := ⟨k.toNat, by omega⟩
    obtain ⟨n, rfl⟩ := hk
    have hn : n ≤ 1000 := by omega
    have hm : a.length * n ≤ 1000 * 1000 := Nat.mul_le_mul w3 hn
    have el : (tx a).length = a.length := tx_length a
    refine PySem.P.mul_str (by rw [decide_eq_false (by omega), decide_eq_false (by omega)]; rfl) (fun h1 _ => ?_) (fun _ _ => ?_) ?_
    · rw [el]
      have h2 : (1 : Int) ≤ n := by omega
      have : (1000 : Int) ≤ (2 ^ 63 - 1) / n := (Int.le_ediv_iff_mul_le (by omega)).mpr (by omega)
      omega
    · rw [el]
      show decide _ = false
      rw [Int.toNat_natCast]
      exact decide_eq_false (by have := line; omega)
    · have fin1 : ∀ z : Tx, z = (List.replicate n a).flatten → EP X pins σ Q (.str (tx z) s.toks) { s with toks := s.toks + 1 } := fun z e => ⟨.str (tx z), H, I.tok _, ⟨_, rfl⟩, by subst e; exact fin.here sim w (.str _)⟩
      split
      · rename_i h1
        have h0 : n = 0 := by omega
        subst h0
        exact ⟨by decide, fin1 [] rfl⟩
      · split
        · rename_i h1 h2
          have e : a = (List.replicate n a).flatten := by
            rw [el] at h2
            rcases Bool.or_eq_true_iff.mp h2 with h2 | h2
            · have : n = 1 := by have := eq_of_beq h2; omega
              subst this
              simp
            · have : a = [] := List.length_eq_zero_iff.mp (eq_of_beq h2)
              subst this
              simp
          exact ⟨.str (tx a), H, I, ⟨t, rfl⟩, by have := fin.here sim w (.str (G := G) (Lv := Live G S ρ) (ρ := ρ) (H := H) (List.replicate n a).flatten); rw [← e] at this; exact this⟩
        · have e2 : (⟨(List.replicate (n : Int).toNat (tx a).cps).foldl (· ++ ·) #[]⟩ : Str) = tx (List.replicate n a).flatten := by
            have gen : ∀ (m : Nat) (acc : Array Nat), (List.replicate m a.toArray).foldl (· ++ ·) acc = (acc.toList ++ (List.replicate m a).flatten).toArray := fun m => by
              induction m with
              | zero => intro acc; simp
              | succ m ih =>
                intro acc
                rw [List.replicate_succ, List.foldl_cons, ih, List.replicate_succ]
                simp
            rw [Int.toNat_natCast]
            have := gen n #[]
            show (⟨(List.replicate n a.toArray).foldl (· ++ ·) #[]⟩ : Str) = _
            rw [this]
            simp [tx]
          rw [e2]
          refine ⟨?_, fin1 _ rfl⟩
          have : ((List.replicate n a).flatten).length = n * a.length := by simp
          rw [tx_length, this, line, Nat.mul_comm]
          omega
  · cases r1 with
    | lst h q =>
      cases r2
      refine op_rep pins s σ H _ _ v u Q I rx ry ⟨_, _, _, rfl, rfl, h.2, w.1.1, w.1.2.1, by rw [line, ← q.length]; exact w.1.2.2, fun p hp => fin.new sim hp (rvs_rep q _) w.2⟩
  · exact w.elim
theorem mod_ok : OpR X (binaryOp .Mod) (rd2 G modW) := by
  intro pins s σ H x y v u Q I rx ry h
  obtain ⟨S, ρ, dx, dy, P, sim, r1, r2, w, fin⟩ := h
  unfold modW at w
  split at w
  · cases r1
    cases r2
    exact op_modN pins s σ H _ _ v u Q I rx ry ⟨_, _, rfl, rfl, w.1, fin.here sim w.2 (.int _)⟩
  · exact w.elim
theorem modp_ok : OpR X (binaryOp .Mod) (rd2 G modpW) := by
  intro pins s σ H x y v u Q I rx ry h
  obtain ⟨S, ρ, dx, dy, P, sim, r1, r2, w, fin⟩ := h
  unfold modpW at w
  split at w
  · cases r1
    cases r2
    exact op_mod pins s σ H _ _ v u Q I rx ry ⟨_, _, rfl, rfl, w.1, fin.here sim w.2 (.int _)⟩
  · exact w.elim
theorem op_fdivWN : OpR X (binaryOp .FloorDiv) (rI (fun _ j => j ≠ 0 ∧ j.natAbs.log2 < 9000) fun i j => .int (i.fdiv j)) := opI fun _ _ _ _ _ _ _ hc q => floordiv_int hc.1 q (.inl (PyProof.noPylong_of_log2 hc.2))
theorem div_ok : OpR X (binaryOp .FloorDiv) (rd2 G divW) := by
  intro pins s σ H x y v u Q I rx ry h
  obtain ⟨S, ρ, dx, dy, P, sim, r1, r2, w, fin⟩ := h
  unfold divW at w
  split at w
  · cases r1
    cases r2
    exact op_fdivWN pins s σ H _ _ v u Q I rx ry ⟨_, _, rfl, rfl, w.1, fin.here sim w.2 (.int _)⟩
  · exact w.elim
theorem divp_ok : OpR X (binaryOp .FloorDiv) (rd2 G divpW) := by
  intro pins s σ H x y v u Q I rx ry h
  obtain ⟨S, ρ, dx, dy, P, sim, r1, r2, w, fin⟩ := h
  unfold divpW at w
  split at w
  · cases r1
    cases r2
    exact op_fdivW pins s σ H _ _ v u Q I rx ry ⟨_, _, rfl, rfl, w.1, fin.here sim w.2 (.int _)⟩
  · exact w.elim
theorem pow_ok : OpR X (binaryOp .Pow) (rd2 G powW) := by
  intro pins s σ H x y v u Q I rx ry h
  obtain ⟨S, ρ, dx, dy, P, sim, r1, r2, w, fin⟩ := h
  unfold powW at w
  split at w
  · cases r1
    cases r2
    exact op_pow pins s σ H _ _ v u Q I rx ry ⟨_, _, rfl, rfl, w.1, fin.here sim w.2 (.int _)⟩
  · exact w.elim
theorem bin_ok (hK : X.K = G.K) (op : Operator) (fz : Bool) : OpR X (binaryOp op) (rd2 G (binW op fz)) := by
  cases op with
  | Add => exact add_ok hK fz
  | Sub => exact sub_ok
  | Mult => exact mul_ok fz
  | Mod => exact mod_ok
  | FloorDiv => exact div_ok
  | Pow => exact pow_ok
  | _ =>
    intro pins s σ H x y v u Q I rx ry h
    obtain ⟨_, _, _, _, _, _, _, _, w, _⟩ := h
    exact w.elim
end
end DL

set_option maxHeartbeats 1000000
/-! DL 6b: == of data -/
namespace DL
open PySem PySem.Spec PyProof.Rows L2

mutual
/-- the datum read off the heap -/
inductive Rdh (h : Heap) : D → Value → Prop
  | non : Rdh h .non .none
  | bl (b : Bool) : Rdh h (.bl b) (.bool b)
  | int (i : Int) (t : Tok) : Rdh h (.int i) (.int i t)
  | str (s : Tx) (t : Tok) : Rdh h (.str s) (.str (tx s) t)
  | tup {a : Addr} {xs : List D} {us : List Value} (e : h.IsTuple a us.toArray) (r : Rdhs h xs us) : Rdh h (.tup xs) (.ref a)
  | lst {a : Addr} {xs : List D} {us : List Value} (e : h.IsList a us.toArray) (r : Rdhs h xs us) : Rdh h (.lst xs) (.ref a)
inductive Rdhs (h : Heap) : List D → List Value → Prop
  | nil : Rdhs h [] []
  | cons {d : D} {u : Value} {ds : List D} {us : List Value} (r : Rdh h d u) (t : Rdhs h ds us) : Rdhs h (d :: ds) (u :: us)
end
theorem Rdhs.length {h : Heap} : ∀ {ds : List D} {us : List Value}, Rdhs h ds us → ds.length = us.length
  | _, _, .nil => rfl
  | _, _, .cons _ t => by simp [Rdhs.length t]
section
variable {G : Gd} {X : Cx} {S : Store} {ρ : List Addr} {σ : L2.St} {H : Hp} {pins : List (Addr × Obj)} {s : Shared}
mutual
theorem RV.rdh (hK : X.K = G.K) (I : Inv X pins σ H s) : ∀ {d : D} {v : V} {u : Value}, isPy d = true → RVl G S ρ H d v → RelV v u → Rdh s.heap d u
  | .non, _, _, _, .non, r => by cases r; exact .non
  | .bl b, _, _, _, .bl _, r => by cases r; exact .bl b
  | .int i, _, _, _, .int _, r => by obtain ⟨t, rfl⟩ := r; exact .int i t
  | .str x, _, _, _, .str _, r => by obtain ⟨t, rfl⟩ := r; exact .str x t
  | .tup xs, _, _, p, .tup h q, r => by
    cases r
    obtain ⟨its, r1, e, _⟩ := I.tuple (by rw [hK]; exact h.seq)
    exact .tup (us := its) e (RVs.rdh hK I p q r1)
  | .lst xs, _, _, p, .lst h q, r => by
    cases r
    obtain ⟨its, r1, e, _⟩ := I.list (SqL.of h.2)
    exact .lst (us := its) e.isList (RVs.rdh hK I p q r1)
theorem RVs.rdh (hK : X.K = G.K) (I : Inv X pins σ H s) : ∀ {d : List D} {v : List V} {u : List Value}, isPys d = true → RVsl G S ρ H d v → Vals v u → Rdhs s.heap d u
  | [], _, _, _, .nil, .nil => .nil
  | x :: r, _, _, p, .cons h t, .cons q z => .cons (RV.rdh hK I (Bool.and_eq_true_iff.mp p).1 h q) (RVs.rdh hK I (Bool.and_eq_true_iff.mp p).2 t z)
end
end
mutual
/-- one value, two readings -/
theorem Rdh.same {h : Heap} : ∀ {x y : D} {u : Value}, Rdh h x u → Rdh h y u → x = y
  | .non, _, _, .non, .non => rfl
  | .bl _, _, _, .bl _, .bl _ => rfl
  | .int _, _, _, .int _ _, .int _ _ => rfl
  | .str a, y, _, .str _ t, q => by
    generalize e : Value.str (tx a) t = v at q
    cases q <;> cases e
    rfl
  | .tup xs, _, _, .tup e r, .tup e' r' => by
    obtain ⟨o, h1, _, n, h2⟩ := e
    obtain ⟨o', h1', _, n', h2'⟩ := e'
    rw [h1] at h1'; cases h1'
    rw [h2] at h2'
    injection h2' with h3 _
    have h4 := congrArg Array.toList h3
    simp only at h4
    subst h4
    rw [Rdhs.same r r']
  | .tup xs, _, _, .tup e r, .lst e' r' => by
    obtain ⟨o, h1, c1, n, h2⟩ := e
    obtain ⟨o', h1', c2, n', h2'⟩ := e'
    rw [h1] at h1'; cases h1'
    exact absurd (c1.symm.trans c2) (by simp)
  | .lst xs, _, _, .lst e r, .lst e' r' => by
    obtain ⟨o, h1, _, n, h2⟩ := e
    obtain ⟨o', h1', _, n', h2'⟩ := e'
    rw [h1] at h1'; cases h1'
    rw [h2] at h2'
    injection h2' with h3 _
    have h4 := congrArg Array.toList h3
    simp only at h4
    subst h4
    rw [Rdhs.same r r']
  | .lst xs, _, _, .lst e r, .tup e' r' => by
    obtain ⟨o, h1, c1, n, h2⟩ := e
    obtain ⟨o', h1', c2, n', h2'⟩ := e'
    rw [h1] at h1'; cases h1'
    exact absurd (c1.symm.trans c2) (by simp)
theorem Rdhs.same {h : Heap} : ∀ {x y : List D} {u : List Value}, Rdhs h x u → Rdhs h y u → x = y
  | [], _, _, .nil, .nil => rfl
  | _ :: _, _, _, .cons a b, .cons c d => by rw [Rdh.same a c, Rdhs.same b d]
end
mutual
theorem eqD_refl : ∀ {d : D}, isPy d = true → eqD d d = true
  | .non, _ => rfl
  | .bl b, _ => by simp [eqD]
  | .int _, _ => by simp [eqD]
  | .str _, _ => by simp [eqD]
  | .tup xs, h => by rw [eqD]; exact eqDs_refl h
  | .lst xs, h => by rw [eqD]; exact eqDs_refl h
theorem eqDs_refl : ∀ {d : List D}, isPys d = true → eqDs d d = true
  | [], _ => rfl
  | x :: r, h => by
    rw [eqDs, eqD_refl (Bool.and_eq_true_iff.mp h).1, eqDs_refl (Bool.and_eq_true_iff.mp h).2]
    rfl
end
theorem Rdh.isPy {h : Heap} : ∀ {d : D} {u : Value}, Rdh h d u → isPy d = true := by
  intro d u r
  exact Rdh.rec (motive_1 := fun d _ _ => DL.isPy d = true) (motive_2 := fun d _ _ => isPys d = true) rfl (fun _ => rfl) (fun _ _ => rfl) (fun _ _ => rfl) (fun _ _ ih => ih) (fun _ _ ih => ih) rfl
    (fun _ _ a b => by rw [isPys, a, b]; rfl) r
theorem Rdhs.isPys {h : Heap} : ∀ {d : List D} {u : List Value}, Rdhs h d u → isPys d = true
  | _, _, .nil => rfl
  | _, _, .cons a b => by rw [DL.isPys, a.isPy, Rdhs.isPys b]; rfl
/-- place by place -/
abbrev pEq (xs ys : List D) (j : Nat) : Bool := eqD (xs.getD j .non) (ys.getD j .non)
theorem eqDs_places : ∀ xs ys : List D, ((List.range (min xs.length ys.length)).all (pEq xs ys) && xs.length == ys.length) = eqDs xs ys
  | [], [] => rfl
  | [], _ :: _ => by simp [eqDs]
  | _ :: _, [] => by simp [eqDs]
  | x :: xs, y :: ys => by
    have ih := eqDs_places xs ys
    have e1 : min (x :: xs).length (y :: ys).length = min xs.length ys.length + 1 := by simp only [List.length_cons]; omega
    have e2 : ((x :: xs).length == (y :: ys).length) = (xs.length == ys.length) := by simp
    have e3 : (List.range (min xs.length ys.length + 1)).all (pEq (x :: xs) (y :: ys)) = (eqD x y && (List.range (min xs.length ys.length)).all (pEq xs ys)) := by
      rw [List.range_succ_eq_map, List.all_cons, List.all_map]
      rfl
    rw [e1, e2, e3, eqDs, ← ih, Bool.and_assoc]
theorem getD_of {xs : List D} {j : Nat} (h : j < xs.length) : xs.getD j .non = xs[j] := by simp [h]
mutual
/-- == within a list, a tuple -/
theorem eqAtD (x y : D) (A : Around) (s : Shared) (u v : Value) (r : Rdh s.heap x u) (q : Rdh s.heap y v) (hu : A.units + dep x < cLine) : SeqAt.EqAt A s u v (eqD x y) := by
  cases x with
  | non =>
    cases r
    cases q with
    | non => exact SeqAt.EqAt.same _
    | bl y => exact SeqAt.EqAt.none_bool y
    | int y t => exact SeqAt.EqAt.none_int y t
    | str y t => exact SeqAt.EqAt.none_str _ t
    | tup e _ => exact SeqAt.EqAt.none_tuple e hu
    | lst e _ => exact SeqAt.EqAt.none_list e hu
  | bl b =>
    cases r
    cases q with
    | non => exact SeqAt.EqAt.bool_none _
    | bl y => exact SeqAt.EqAt.bool_bool _ y
    | int y t => exact SeqAt.EqAt.bool_int _ y t
    | str y t => exact SeqAt.EqAt.bool_str _ _ t
    | tup e _ => exact SeqAt.EqAt.bool_tuple _ e hu
    | lst e _ => exact SeqAt.EqAt.bool_list _ e hu
  | int i =>
    cases r
    cases q with
    | non => exact SeqAt.EqAt.int_none _ _
    | bl y => exact SeqAt.EqAt.int_bool _ _ y
    | int y t => exact SeqAt.EqAt.int_int _ _ y t
    | str y t => exact SeqAt.EqAt.int_str _ _ _ t
    | tup e _ => exact SeqAt.EqAt.int_tuple _ _ e hu
    | lst e _ => exact SeqAt.EqAt.int_list _ _ e hu
  | str a =>
    cases r
    cases q with
    | non => exact SeqAt.EqAt.str_none _ _
    | bl y => exact SeqAt.EqAt.str_bool _ _ y
    | int y t => exact SeqAt.EqAt.str_int _ _ y t
    | str y t =>
      have e : decide (a = y) = (tx a == tx y) := by
        rw [Bool.eq_iff_iff]
        simp only [decide_eq_true_eq, beq_iff_eq]
        exact ⟨fun h => by rw [h], tx_inj⟩
      rw [eqD, e]
      exact SeqAt.EqAt.str_str _ _ _ t
    | tup e _ => exact SeqAt.EqAt.str_tuple _ _ e hu
    | lst e _ => exact SeqAt.EqAt.str_list _ _ e hu
  | tup xs =>
    have h0 : A.units < cLine := by omega
    cases r with
    | @tup a _ us e r =>
      cases q with
      | non => exact SeqAt.EqAt.tuple_none e h0
      | bl y => exact SeqAt.EqAt.tuple_bool y e h0
      | int y t => exact SeqAt.EqAt.tuple_int y t e h0
      | str y t => exact SeqAt.EqAt.tuple_str _ t e h0
      | lst e' _ => exact SeqAt.EqAt.tuple_list e e' h0
      | @tup b ys ws e' r' =>
        by_cases hab : a = b
        · subst hab
          have z := Rdh.same (.tup e r) (.tup e' r')
          injection z with z
          subst z
          rw [eqD_refl (Rdh.tup e r).isPy]
          exact SeqAt.EqAt.same _
        · have n1 := r.length
          have n2 := r'.length
          rw [eqD, ← eqDs_places, n1, n2, ← List.size_toArray, ← List.size_toArray]
          refine SeqAt.EqAt.of_refs hab (SeqAt.RcAt.tuples e e' h0 fun j h1 h2 => ?_)
          exact eqAtDs xs ys A.in1 s us ws r r' (by have : A.in1.units = A.units + 1 := rfl; rw [dep] at hu; omega) j (by simpa using h1) (by simpa using h2)
  | lst xs =>
    have h0 : A.units < cLine := by omega
    cases r with
    | @lst a _ us e r =>
      cases q with
      | non => exact SeqAt.EqAt.list_none e h0
      | bl y => exact SeqAt.EqAt.list_bool y e h0
      | int y t => exact SeqAt.EqAt.list_int y t e h0
      | str y t => exact SeqAt.EqAt.list_str _ t e h0
      | tup e' _ => exact SeqAt.EqAt.list_tuple e e' h0
      | @lst b ys ws e' r' =>
        by_cases hab : a = b
        · subst hab
          have z := Rdh.same (.lst e r) (.lst e' r')
          injection z with z
          subst z
          rw [eqD_refl (Rdh.lst e r).isPy]
          exact SeqAt.EqAt.same _
        · have n1 := r.length
          have n2 := r'.length
          by_cases hsz : us.length = ws.length
          · rw [eqD, ← eqDs_places, n1, n2, hsz, Nat.min_self, show (ws.length == ws.length) = true from beq_self_eq_true _, Bool.and_true, ← hsz, ← List.size_toArray]
            refine SeqAt.EqAt.of_refs hab (SeqAt.RcAt.lists e e' (by simpa using hsz) h0 fun j h1 h2 => ?_)
            exact eqAtDs xs ys A.in1 s us ws r r' (by have : A.in1.units = A.units + 1 := rfl; rw [dep] at hu; omega) j (by simpa using h1) (by simpa using h2)
          · rw [eqD, ← eqDs_places, n1, n2, show (us.length == ws.length) = false from beq_eq_false_iff_ne.mpr hsz, Bool.and_false]
            exact SeqAt.EqAt.of_refs hab (SeqAt.RcAt.lists_lengths e e' (by simpa using hsz) h0)
  | _ => exact absurd r.isPy (by intro z; cases z)
theorem eqAtDs (xs ys : List D) (A : Around) (s : Shared) (us ws : List Value) (r : Rdhs s.heap xs us) (q : Rdhs s.heap ys ws) (hu : A.units + deps xs < cLine) :
    ∀ (j : Nat) (h1 : j < us.length) (h2 : j < ws.length), SeqAt.EqAt A s us[j] ws[j] (pEq xs ys j) := by
  cases xs with
  | nil =>
    cases r
    intro j h1
    exact absurd h1 (Nat.not_lt_zero _)
  | cons x xs =>
    cases r with
    | cons r1 r2 =>
      cases q with
      | nil =>
        intro j h1 h2
        exact absurd h2 (Nat.not_lt_zero _)
      | @cons y _ ys _ q1 q2 =>
        intro j h1 h2
        have hm : deps (x :: xs) = max (dep x) (deps xs) := rfl
        cases j with
        | zero => exact eqAtD x y A s _ _ r1 q1 (by omega)
        | succ j => exact eqAtDs xs ys A s _ _ r2 q2 (by omega) j (by simpa using h1) (by simpa using h2)
end
end DL

set_option maxHeartbeats 1000000
/-! DL 6c: comparisons -/
namespace DL
open PySem PySem.Spec PyProof.Rows L2
theorem rcAtD {x y : D} {A : Around} {s : Shared} {u v : Value} (r : Rdh s.heap x u) (q : Rdh s.heap y v) (hu : A.units + dep x < cLine) : SeqAt.RcAt A s u v (eqD x y) := by
  have h0 : A.units < cLine := by omega
  cases r with
  | non =>
    cases q with
    | non => exact SeqAt.RcAt.none_none
    | bl c2 => exact SeqAt.RcAt.none_bool _
    | int i2 t2 => exact SeqAt.RcAt.none_int _ _
    | str a2 t2 => exact SeqAt.RcAt.none_str _ _
    | @tup p2 ys ws e2 r2 => exact SeqAt.RcAt.none_tuple e2 h0
    | @lst p2 ys ws e2 r2 => exact SeqAt.RcAt.none_list e2 h0
  | bl c =>
    cases q with
    | non => exact SeqAt.RcAt.bool_none _
    | bl c2 => exact SeqAt.RcAt.bool_bool _ _
    | int i2 t2 => exact SeqAt.RcAt.bool_int _ _ _
    | str a2 t2 => exact SeqAt.RcAt.bool_str _ _ _
    | @tup p2 ys ws e2 r2 => exact SeqAt.RcAt.bool_tuple _ e2 h0
    | @lst p2 ys ws e2 r2 => exact SeqAt.RcAt.bool_list _ e2 h0
  | int i t =>
    cases q with
    | non => exact SeqAt.RcAt.int_none _ _
    | bl c2 => exact SeqAt.RcAt.int_bool _ _ _
    | int i2 t2 => exact SeqAt.RcAt.int_int _ _ _ _
    | str a2 t2 => exact SeqAt.RcAt.int_str _ _ _ _
    | @tup p2 ys ws e2 r2 => exact SeqAt.RcAt.int_tuple _ _ e2 h0
    | @lst p2 ys ws e2 r2 => exact SeqAt.RcAt.int_list _ _ e2 h0
  | str a t =>
    cases q with
    | non => exact SeqAt.RcAt.str_none _ _
    | bl c2 => exact SeqAt.RcAt.str_bool _ _ _
    | int i2 t2 => exact SeqAt.RcAt.str_int _ _ _ _
    | str a2 t2 => 
      have e : decide (a = a2) = (tx a == tx a2) := by
        rw [Bool.eq_iff_iff]
        simp only [decide_eq_true_eq, beq_iff_eq]
        exact ⟨fun h => by rw [h], tx_inj⟩
      rw [eqD, e]
      exact SeqAt.RcAt.str_str _ _ _ _
    | @tup p2 ys ws e2 r2 => exact SeqAt.RcAt.str_tuple _ _ e2 h0
    | @lst p2 ys ws e2 r2 => exact SeqAt.RcAt.str_list _ _ e2 h0
  | @tup p xs us e r =>
    cases q with
    | non => exact SeqAt.RcAt.tuple_none e h0
    | bl c2 => exact SeqAt.RcAt.tuple_bool _ e h0
    | int i2 t2 => exact SeqAt.RcAt.tuple_int _ _ e h0
    | str a2 t2 => exact SeqAt.RcAt.tuple_str _ _ e h0
    | @tup p2 ys ws e2 r2 => 
      have n1 := r.length
      have n2 := r2.length
      rw [eqD, ← eqDs_places, n1, n2, ← List.size_toArray, ← List.size_toArray]
      refine SeqAt.RcAt.tuples e e2 h0 fun j h1 h2 => ?_
      exact eqAtDs xs ys A.in1 s us ws r r2 (by have : A.in1.units = A.units + 1 := rfl; rw [dep] at hu; omega) j (by simpa using h1) (by simpa using h2)
    | @lst p2 ys ws e2 r2 => exact SeqAt.RcAt.tuple_list e e2 h0
  | @lst p xs us e r =>
    cases q with
    | non => exact SeqAt.RcAt.list_none e h0
    | bl c2 => exact SeqAt.RcAt.list_bool _ e h0
    | int i2 t2 => exact SeqAt.RcAt.list_int _ _ e h0
    | str a2 t2 => exact SeqAt.RcAt.list_str _ _ e h0
    | @tup p2 ys ws e2 r2 => exact SeqAt.RcAt.list_tuple e e2 h0
    | @lst p2 ys ws e2 r2 => 
      have n1 := r.length
      have n2 := r2.length
      by_cases hsz : us.length = ws.length
      · rw [eqD, ← eqDs_places, n1, n2, hsz, Nat.min_self, show (ws.length == ws.length) = true from beq_self_eq_true _, Bool.and_true, ← hsz, ← List.size_toArray]
        refine SeqAt.RcAt.lists e e2 (by simpa using hsz) h0 fun j h1 h2 => ?_
        exact eqAtDs xs ys A.in1 s us ws r r2 (by have : A.in1.units = A.units + 1 := rfl; rw [dep] at hu; omega) j (by simpa using h1) (by simpa using h2)
      · rw [eqD, ← eqDs_places, n1, n2, show (us.length == ws.length) = false from beq_eq_false_iff_ne.mpr hsz, Bool.and_false]
        exact SeqAt.RcAt.lists_lengths e e2 (by simpa using hsz) h0
theorem rcNeAtD {x y : D} {A : Around} {s : Shared} {u v : Value} (r : Rdh s.heap x u) (q : Rdh s.heap y v) (hu : A.units + dep x < cLine) : SeqAt.RcNeAt A s u v (!eqD x y) := by
  have h0 : A.units < cLine := by omega
  cases r with
  | non =>
    cases q with
    | non => exact SeqAt.RcNeAt.none_none
    | bl c2 => exact SeqAt.RcNeAt.none_bool _
    | int i2 t2 => exact SeqAt.RcNeAt.none_int _ _
    | str a2 t2 => exact SeqAt.RcNeAt.none_str _ _
    | @tup p2 ys ws e2 r2 => exact SeqAt.RcNeAt.none_tuple e2 h0
    | @lst p2 ys ws e2 r2 => exact SeqAt.RcNeAt.none_list e2 h0
  | bl c =>
    cases q with
    | non => exact SeqAt.RcNeAt.bool_none _
    | bl c2 => exact SeqAt.RcNeAt.bool_bool _ _
    | int i2 t2 => exact SeqAt.RcNeAt.bool_int _ _ _
    | str a2 t2 => exact SeqAt.RcNeAt.bool_str _ _ _
    | @tup p2 ys ws e2 r2 => exact SeqAt.RcNeAt.bool_tuple _ e2 h0
    | @lst p2 ys ws e2 r2 => exact SeqAt.RcNeAt.bool_list _ e2 h0
  | int i t =>
    cases q with
    | non => exact SeqAt.RcNeAt.int_none _ _
    | bl c2 => exact SeqAt.RcNeAt.int_bool _ _ _
    | int i2 t2 => exact SeqAt.RcNeAt.int_int _ _ _ _
    | str a2 t2 => exact SeqAt.RcNeAt.int_str _ _ _ _
    | @tup p2 ys ws e2 r2 => exact SeqAt.RcNeAt.int_tuple _ _ e2 h0
    | @lst p2 ys ws e2 r2 => exact SeqAt.RcNeAt.int_list _ _ e2 h0
  | str a t =>
    cases q with
    | non => exact SeqAt.RcNeAt.str_none _ _
    | bl c2 => exact SeqAt.RcNeAt.str_bool _ _ _
    | int i2 t2 => exact SeqAt.RcNeAt.str_int _ _ _ _
    | str a2 t2 => 
      have e : decide (a = a2) = (tx a == tx a2) := by
        rw [Bool.eq_iff_iff]
        simp only [decide_eq_true_eq, beq_iff_eq]
        exact ⟨fun h => by rw [h], tx_inj⟩
      rw [eqD, e]
      exact SeqAt.RcNeAt.str_str _ _ _ _
    | @tup p2 ys ws e2 r2 => exact SeqAt.RcNeAt.str_tuple _ _ e2 h0
    | @lst p2 ys ws e2 r2 => exact SeqAt.RcNeAt.str_list _ _ e2 h0
  | @tup p xs us e r =>
    cases q with
    | non => exact SeqAt.RcNeAt.tuple_none e h0
    | bl c2 => exact SeqAt.RcNeAt.tuple_bool _ e h0
    | int i2 t2 => exact SeqAt.RcNeAt.tuple_int _ _ e h0
    | str a2 t2 => exact SeqAt.RcNeAt.tuple_str _ _ e h0
    | @tup p2 ys ws e2 r2 => 
      have n1 := r.length
      have n2 := r2.length
      rw [eqD, ← eqDs_places, n1, n2, ← List.size_toArray, ← List.size_toArray]
      refine SeqAt.RcNeAt.tuples e e2 h0 fun j h1 h2 => ?_
      exact eqAtDs xs ys A.in1 s us ws r r2 (by have : A.in1.units = A.units + 1 := rfl; rw [dep] at hu; omega) j (by simpa using h1) (by simpa using h2)
    | @lst p2 ys ws e2 r2 => exact SeqAt.RcNeAt.tuple_list e e2 h0
  | @lst p xs us e r =>
    cases q with
    | non => exact SeqAt.RcNeAt.list_none e h0
    | bl c2 => exact SeqAt.RcNeAt.list_bool _ e h0
    | int i2 t2 => exact SeqAt.RcNeAt.list_int _ _ e h0
    | str a2 t2 => exact SeqAt.RcNeAt.list_str _ _ e h0
    | @tup p2 ys ws e2 r2 => exact SeqAt.RcNeAt.list_tuple e e2 h0
    | @lst p2 ys ws e2 r2 => 
      have n1 := r.length
      have n2 := r2.length
      by_cases hsz : us.length = ws.length
      · rw [eqD, ← eqDs_places, n1, n2, hsz, Nat.min_self, show (ws.length == ws.length) = true from beq_self_eq_true _, Bool.and_true, ← hsz, ← List.size_toArray]
        refine SeqAt.RcNeAt.lists e e2 (by simpa using hsz) h0 fun j h1 h2 => ?_
        exact eqAtDs xs ys A.in1 s us ws r r2 (by have : A.in1.units = A.units + 1 := rfl; rw [dep] at hu; omega) j (by simpa using h1) (by simpa using h2)
      · rw [eqD, ← eqDs_places, n1, n2, show (us.length == ws.length) = false from beq_eq_false_iff_ne.mpr hsz, Bool.and_false]
        exact SeqAt.RcNeAt.lists_lengths e e2 (by simpa using hsz) h0
end DL

set_option maxHeartbeats 1000000
/-! DL 6cp: the very same things -/
namespace DL
open PySem PySem.Spec PyProof.Rows L2
section
variable {M : Model} {prog : PySem.Program} {w : World} {A : Around} {E : Value → Shared → Prop} {s : Shared} {K : PySem.W.Frag} {x C : Addr} {ox : Obj} {od : Option Obj}
theorem call_objEqS {Q : Value → Shared → Prop} (X : K.In s.heap) (I : PySem.W.InstAt s.heap x ox C od) (hm : PySem.W.mroIn K C (.type "object") = some true) (hq : Q (.bool true) s) :
    wpAny (model prog w) A (call (.builtin "object.__eq__") [.ref x, .ref x]) Q E s :=
  wpAny_call (codeAny_call_builtin F.cmp_object.eq.plain F.cmpEntry_eq (PySem.W.check_slot F.cmpKind_eq F.cmpSplit_eq (I.type.andThen (PySem.W.looks_mroIn X hm)) (F.cmpArgs_eq _ _) (objEq_entry_same hq)))
theorem ifBound_K {args : List Value} {name : Str} {id : String} {Q : Option Value → Shared → Prop} (X : K.In s.heap) (I : PySem.W.InstAt s.heap x ox C od) (hs : PySem.W.findIn K (.ref C) name = some (some (.builtin id))) (S : Slot "object" name id)
    (h : wpAny M A (call (.builtin id) (.ref x :: args)) (fun v => Q (some v)) E s) : wpAny M A (callSpecialIfBound? (.ref x) name args) Q E s := by
  simp only [callSpecialIfBound?, bindSpecialIfBound?]
  refine wpAny_holding (wpAny_bind (wpAny_bind (wpAny_bind (I.type.here ((PySem.W.looks_findIn X hs).here ?_)))))
  refine wpAny_bind (wpAny_askSetting (wpAny_ite ?_))
  have fin : wpAny M A (call (.builtin id) ([.ref x] ++ args) >>= fun v => pure (some v)) Q E s := wpAny_bind (wpAny_mono h (fun v s' h' => wpAny_pure h') fun _ _ h' => h')
  split
  · exact wpAny_bind (wpAny_of_eq (S.bind _) (wpAny_pure (by exact fin)))
  · exact wpAny_tryCatch (wpAny_bind (wpAny_of_eq (S.bind _) (wpAny_pure (by exact fin))))
theorem special_eqS {Q : Option Value → Shared → Prop} (X : K.In s.heap) (I : PySem.W.InstAt s.heap x ox C od) (e : EqO K C) (hq : Q (some (.bool true)) s) :
    wpAny (model prog w) A (callSpecialIfBound? (.ref x) "__eq__" [.ref x]) Q E s := ifBound_K X I e.eq F.cmp_object.eq (call_objEqS X I e.mro hq)
theorem objNe_entryS (X : K.In s.heap) (I : PySem.W.InstAt s.heap x ox C od) (e : EqO K C) (hu : A.units < cLine) {Q : PySem.Fin → Shared → Prop} (hq : Q (.done (.ret (.bool false))) s) :
    wpAny (model prog w) A (Builtin.«object.__ne__» ⟨[.ref x, .ref x], []⟩) Q E s := by
  unfold Builtin.«object.__ne__»
  repeat (first | with_reducible refine wpAny_cRoomFor hu ?_ | with_reducible refine special_eqS X I e ?_ | wp_step)
  exact hq
theorem rc_same (hu : A.units < cLine) (X : K.In s.heap) (I : PySem.W.InstAt s.heap x ox C od) (e : EqO K C) : SeqAt.RcAt A s (.ref x) (.ref x) true := fun prog w E Q h => by
  have one : wpAny (model prog w) A (tryCompare (.ref x) "__eq__" (.ref x)) (fun r s' => r = some (.bool true) ∧ s' = s) E s := by
    unfold tryCompare
    exact wpAny_bind (special_eqS X I e (wpAny_pure ⟨rfl, rfl⟩))
  simp only [richCompare, cmpInfo_Eq, oneThing_ref]
  refine wpAny_holding (wpAny_bind (wpAny_cRoomFor hu ?_))
  refine wpAny_bind (I.type.here ?_)
  refine wpAny_bind (I.type.here ?_)
  rw [show (Value.ref C != Value.ref C) = false from by simp]
  simp only [Bool.false_eq_true, if_false]
  refine wpAny_bind (wpAny_pure ?_)
  simp only [Bool.false_eq_true, if_false]
  refine wpAny_bind (m := tryCompare (.ref x) _ (.ref x)) (wpAny_mono one (fun r s1 z => ?_) fun _ _ e => e)
  obtain ⟨z1, z2⟩ := z
  subst z1
  subst z2
  exact wpAny_pure h
theorem rcne_same (hu : A.units + 1 < cLine) (X : K.In s.heap) (I : PySem.W.InstAt s.heap x ox C od) (e : EqO K C) : SeqAt.RcNeAt A s (.ref x) (.ref x) false := fun prog w E Q h => by
  have one : wpAny (model prog w) A (tryCompare (.ref x) "__ne__" (.ref x)) (fun r s' => r = some (.bool false) ∧ s' = s) E s := by
    unfold tryCompare
    refine wpAny_bind (ifBound_K X I e.ne F.cmp_object.ne (wpAny_call (codeAny_call_builtin F.cmp_object.ne.plain F.cmpEntry_ne (PySem.W.check_slot F.cmpKind_ne F.cmpSplit_ne (I.type.andThen (PySem.W.looks_mroIn X e.mro)) (F.cmpArgs_ne _ _) (objNe_entryS (A := A.in1) X I e hu ?_)))))
    exact wpAny_pure ⟨rfl, rfl⟩
  simp only [richCompare, cmpInfo_NotEq, oneThing_ref]
  refine wpAny_holding (wpAny_bind (wpAny_cRoomFor (Nat.lt_of_succ_lt hu) ?_))
  refine wpAny_bind (I.type.here ?_)
  refine wpAny_bind (I.type.here ?_)
  rw [show (Value.ref C != Value.ref C) = false from by simp]
  simp only [Bool.false_eq_true, if_false]
  refine wpAny_bind (wpAny_pure ?_)
  simp only [Bool.false_eq_true, if_false]
  refine wpAny_bind (m := tryCompare (.ref x) _ (.ref x)) (wpAny_mono one (fun r s1 z => ?_) fun _ _ e => e)
  obtain ⟨z1, z2⟩ := z
  subst z1
  subst z2
  exact wpAny_pure h
end
section
variable {G : Gd} {Lv : Addr → Prop} {ρ : List Addr} {H : Hp}
theorem samePs_cons : ∀ {x y : D} {xs ys : List D}, samePs (x :: xs) (y :: ys) = true → ∃ n d e, x = .pin n d ∧ y = .pin n e ∧ samePs xs ys = true := by
  intro x y xs ys h
  unfold samePs at h
  split at h
  · rename_i e _; cases e
  · rename_i e1 e2
    cases e1
    cases e2
    rw [Bool.and_eq_true] at h
    have e := Nat.eq_of_beq_eq_true h.1
    subst e
    exact ⟨_, _, _, rfl, rfl, h.2⟩
  · cases h
theorem samePs_eq : ∀ {xs ys : List D} {us ws : List V} {its jts : List Value}, samePs xs ys = true → RVs G Lv ρ H xs us → RVs G Lv ρ H ys ws → Vals us its → Vals ws jts → its = jts
  | [], [], _, _, _, _, _, .nil, .nil, .nil, .nil => rfl
  | x :: xs, y :: ys, _, _, _, _, h, .cons a r, .cons b q, .cons v1 t1, .cons v2 t2 => by
    obtain ⟨n, d, e, e1, e2, h2⟩ := samePs_cons h
    subst e1
    subst e2
    cases a with
    | pin ha _ =>
      cases b with
      | pin hb _ =>
        rw [ha] at hb
        cases hb
        cases v1
        cases v2
        rw [samePs_eq h2 r q t1 t2]
  | [], _ :: _, _, _, _, _, h, _, _, _, _ => by cases h
  | x :: _, [], _, _, _, _, h, _, _, _, _ => by cases x <;> cases h
end
end DL

set_option maxHeartbeats 1000000
/-! DL 6d: comparisons as the code asks them; dicts -/
namespace DL
open PySem PySem.Spec PyProof.Rows L2

theorem eqW_all {x y : D} {R : Bool → Prop} (h : eqW x y R) : (isPy x = true ∧ isPy y = true ∧ dep x ≤ 150 ∧ R (eqD x y)) ∨ (∃ xs, x = .lst xs ∧ y = .lst [] ∧ R xs.isEmpty) ∨ (∃ ks vs ks2 vs2, x = .dct ks vs ∧ y = .dct ks2 vs2 ∧ (ks.length = ks2.length ∧ subD ks2 vs2 ks vs = true) ∧ R true) ∨
    (∃ n c ns fs c2 ns2 fs2, x = .pin n (.ins c ns fs) ∧ y = .pin n (.ins c2 ns2 fs2) ∧ R true) ∨ (∃ xs ys, x = .lst xs ∧ y = .lst ys ∧ samePs xs ys = true ∧ R true) ∨ ∃ xs, x = .tup xs ∧ y = .tup [] ∧ R xs.isEmpty := by
  unfold eqW at h
  split at h
  · exact .inl ⟨rfl, rfl, Nat.zero_le _, h⟩
  · exact .inl ⟨rfl, rfl, Nat.zero_le _, h⟩
  · exact .inl ⟨rfl, rfl, Nat.zero_le _, h⟩
  · exact .inl ⟨rfl, rfl, Nat.zero_le _, h⟩
  · exact .inr (.inl ⟨_, rfl, rfl, h⟩)
  · exact .inr (.inr (.inr (.inr (.inr ⟨_, rfl, rfl, h⟩))))
  · exact .inr (.inr (.inl ⟨_, _, _, _, rfl, rfl, h.1, h.2⟩))
  · obtain ⟨rfl, h⟩ := h
    exact .inr (.inr (.inr (.inl ⟨_, _, _, _, _, _, _, rfl, rfl, h⟩)))
  · exact .inr (.inr (.inr (.inr (.inl ⟨_, _, rfl, rfl, h.1, h.2⟩))))
  · exact .inl ⟨h.1.1, h.1.2.1, h.1.2.2, h.2⟩
section
variable {G : Gd} {X : Cx} {S : Store} {ρ : List Addr} {σ : L2.St} {H : Hp} {pins : List (Addr × Obj)} {s : Shared}
theorem snap_rdh (hK : X.K = G.K) (I : Inv X pins σ H s) (sim : Sim G S ρ H) {d : D} {v : V} {u : Value} (p : isPy (snap S d) = true) (h : RVl G S ρ H d v) (r : RelV v u) : Rdh s.heap (snap S d) u := by
  unfold snap at p ⊢
  split at p
  · rename_i n
    split at p
    · rename_i xs e
      obtain ⟨a, us, rfl, h1, h2, _⟩ := sim.lst_at e h
      cases r
      obtain ⟨its, r1, pl, _⟩ := I.list (SqL.of h1)
      exact .lst (us := its) pl.isList (RVs.rdh hK I p h2 r1)
    · cases p
    · cases p
  · exact RV.rdh hK I p h r
/-- a list, whatever is in it -/
theorem snap_list (I : Inv X pins σ H s) (sim : Sim G S ρ H) {d : D} {xs : List D} {v : V} {u : Value} (e : snap S d = .lst xs) (h : RVl G S ρ H d v) (r : RelV v u) : ∃ a its, u = .ref a ∧ s.heap.IsList a its ∧ its.size = xs.length := by
  unfold snap at e
  split at e
  · split at e
    · rename_i e0
      cases e
      obtain ⟨a, us, rfl, h1, h2, _⟩ := sim.lst_at e0 h
      cases r
      obtain ⟨its, r1, pl, _⟩ := I.list (SqL.of h1)
      exact ⟨a, its.toArray, rfl, pl.isList, by rw [List.size_toArray, ← r1.length, h2.length]⟩
    · cases e
    · cases e
  · subst e
    cases h with
    | lst h1 h2 =>
      cases r
      obtain ⟨its, r1, pl, _⟩ := I.list (SqL.of h1.2)
      exact ⟨_, its.toArray, rfl, pl.isList, by rw [List.size_toArray, ← r1.length, h2.length]⟩
/-- a list with its items -/
theorem snap_listV (I : Inv X pins σ H s) (sim : Sim G S ρ H) {d : D} {xs : List D} {v : V} {u : Value} (e : snap S d = .lst xs) (h : RVl G S ρ H d v) (r : RelV v u) : ∃ a us its, u = .ref a ∧ s.heap.IsList a its.toArray ∧ RVsl G S ρ H xs us ∧ Vals us its := by
  unfold snap at e
  split at e
  · split at e
    · rename_i e0
      cases e
      obtain ⟨a, us, rfl, h1, h2, _⟩ := sim.lst_at e0 h
      cases r
      obtain ⟨its, r1, pl, _⟩ := I.list (SqL.of h1)
      exact ⟨a, us, its, rfl, pl.isList, h2, r1⟩
    · cases e
    · cases e
  · subst e
    cases h with
    | lst h1 h2 =>
      cases r
      obtain ⟨its, r1, pl, _⟩ := I.list (SqL.of h1.2)
      exact ⟨_, _, its, rfl, pl.isList, h2, r1⟩
/-- a tuple, whatever is in it -/
theorem snap_tup (hK : X.K = G.K) (I : Inv X pins σ H s) {d : D} {xs : List D} {v : V} {u : Value} (e : snap S d = .tup xs) (h : RVl G S ρ H d v) (r : RelV v u) : ∃ a its, u = .ref a ∧ s.heap.IsTuple a its ∧ its.size = xs.length := by
  unfold snap at e
  split at e
  · split at e <;> cases e
  · subst e
    cases h with
    | tup h1 h2 =>
      cases r
      obtain ⟨its, r1, e, _⟩ := I.tuple (by rw [hK]; exact h1.seq)
      exact ⟨_, its.toArray, rfl, e, by rw [List.size_toArray, ← r1.length, h2.length]⟩
theorem snap_pin {n c : Nat} {ns : List Nat} {fs : List D} {d : D} (e : snap S d = .pin n (.ins c ns fs)) : d = .pin n (.ins c ns fs) := by
  unfold snap at e
  split at e
  · split at e <;> cases e
  · exact e
theorem pin_inst (I : Inv X pins σ H s) {Lv : Addr → Prop} {n c : Nat} {ns : List Nat} {fs : List D} {v : V} {u : Value} (h : RV G Lv ρ H (.pin n (.ins c ns fs)) v) (r : RelV v u) : ∃ a ox od, ρ[n]? = some a ∧ u = .ref a ∧ PySem.W.InstAt s.heap a ox (G.ca c) od ∧ EqO G.K (G.ca c) := by
  cases h with
  | pin hn hd =>
    cases hd with
    | ins h1 k _ =>
      cases r
      obtain ⟨mA, O, _⟩ := ins_get I.hok h1.2
      obtain ⟨od, J, _⟩ := O.look
      exact ⟨_, _, od, hn, rfl, J, k.eqo⟩
theorem keyOf_keyD {d : D} (h : keyD d = true) : ∃ k, keyOf d = some k := by
  cases d <;> first
    | exact ⟨_, rfl⟩
    | cases h
theorem RV.key {Lv : Addr → Prop} {d : D} {v : V} {k : Key} (e : keyOf d = some k) (h : RV G Lv ρ H d v) : v = kV k := by
  rcases keyOf_kV e with ⟨i, rfl, rfl⟩ | ⟨x, rfl, rfl⟩
  · cases h; rfl
  · cases h; rfl
theorem keyEq_iff {a b : D} {ka kb : Key} (ha : keyOf a = some ka) (hb : keyOf b = some kb) : keyEq a b = decide (ka = kb) := by
  rcases keyOf_kV ha with ⟨i, rfl, rfl⟩ | ⟨x, rfl, rfl⟩ <;> rcases keyOf_kV hb with ⟨j, rfl, rfl⟩ | ⟨y, rfl, rfl⟩
  · rw [key_ll]; rfl
  · rw [key_lr]; rfl
  · rw [key_rl]; rfl
  · rw [key_rr, Bool.eq_iff_iff]
    simp only [keyEq, decide_eq_true_eq]
    exact ⟨fun h => by rw [h], tx_inj⟩
theorem RKs.val {Lv : Addr → Prop} {k : D} {k' : Key} (ek : keyOf k = some k') : ∀ {ks vs : List D} {kus : List (Key × V)}, RKs G Lv ρ H ks vs kus →
    (∃ d v, dget ks vs k = some d ∧ valV kus k' = some v ∧ RV G Lv ρ H d v) ∨ (dget ks vs k = none ∧ valV kus k' = none)
  | _, _, _, .nil => .inr ⟨rfl, rfl⟩
  | _, _, _, .cons (k := a) (k' := b) hk h t => by
    have e := keyEq_iff hk ek
    by_cases q : b = k'
    · rw [decide_eq_true q] at e
      refine .inl ⟨_, _, ?_, valV_pos q, h⟩
      simp only [dget, e]
    · rw [decide_eq_false q] at e
      rcases RKs.val ek t with ⟨d, v, h1, h2, h3⟩ | ⟨h1, h2⟩
      · exact .inl ⟨d, v, by simp only [dget, e]; exact h1, (valV_neg q).trans h2, h3⟩
      · exact .inr ⟨by simp only [dget, e]; exact h1, (valV_neg q).trans h2⟩
theorem RKs.lens {Lv : Addr → Prop} : ∀ {ks vs : List D} {kus : List (Key × V)}, RKs G Lv ρ H ks vs kus → ks.length = kus.length ∧ vs.length = kus.length
  | _, _, _, .nil => ⟨rfl, rfl⟩
  | _, _, _, .cons _ _ t => by
    obtain ⟨a, b⟩ := RKs.lens t
    simp [a, b]
theorem dctOf_at (sim : Sim G S ρ H) {d : D} {ks vs : List D} {u : V} (e : dctOf S d = some (ks, vs)) (h : RVl G S ρ H d u) : ∃ a kus, u = .ref a ∧ Rd H a (.dK kus) ∧ RKs G (Live G S ρ) ρ H ks vs kus := by
  unfold dctOf at e
  split at e
  · cases e
    cases h with
    | dct h r => exact ⟨_, _, rfl, h.2, r⟩
  · split at e
    · cases e
      obtain ⟨a, us, e1, h1, h2, _⟩ := sim.dct_at (by assumption) h
      exact ⟨a, us, e1, .inl h1, h2⟩
    · cases e
  · cases e
theorem flat_V {Lv : Addr → Prop} {d : D} {v : V} (f : flat d = true) (h : RV G Lv ρ H d v) : flatV v = true := by
  cases h <;> first
    | rfl
    | cases f
theorem flat_eq {Lv : Addr → Prop} {x y : D} {u v : V} (f : flat x = true) (g : flat y = true) (h : RV G Lv ρ H x u) (h' : RV G Lv ρ H y v) : eqV u v = eqD x y := by
  cases h <;> cases h' <;> first
    | (cases f; done)
    | (cases g; done)
    | rfl
    | (rename_i a b
       show (tx a == tx b) = decide (a = b)
       rw [Bool.eq_iff_iff]
       simp only [decide_eq_true_eq, beq_iff_eq]
       exact ⟨tx_inj, fun h => by rw [h]⟩)
theorem inL_eq {Lv : Addr → Prop} {x : D} {u : V} (f : flat x = true) (h : RV G Lv ρ H x u) : ∀ {xs : List D} {us : List V}, RVs G Lv ρ H xs us → xs.all flat = true → inV u us = inL x xs ∧ us.all flatV = true
  | _, _, .nil, _ => ⟨rfl, rfl⟩
  | _, _, .cons (d := y) (u := v) r t, fs => by
    rw [List.all_cons, Bool.and_eq_true] at fs
    obtain ⟨a, b⟩ := inL_eq f h t fs.2
    refine ⟨?_, by rw [List.all_cons, flat_V fs.1 r, b]; rfl⟩
    show (eqV v u || inV u _) = (eqD y x || inL x _)
    rw [flat_eq fs.1 f r h, a]
end
theorem sameF_flat {d e : D} {Lv : Addr → Prop} {ρ : List Addr} {H : Hp} {G : Gd} {u v : V} (h : sameF d e = true) (r : RV G Lv ρ H d u) (q : RV G Lv ρ H e v) : u = v ∧ flatB u = true := by
  cases r <;> cases q <;> first
    | (cases h; done)
    | exact ⟨rfl, rfl⟩
    | (rename_i a b
       have e : a = b := by simpa [sameF] using h
       subst e
       exact ⟨rfl, rfl⟩)
theorem subD_ok {G : Gd} {Lv : Addr → Prop} {ρ : List Addr} {H : Hp} {ks2 vs2 : List D} {kus2 : List (Key × V)} (r2 : RKs G Lv ρ H ks2 vs2 kus2) : ∀ {ks vs : List D} {kus : List (Key × V)}, RKs G Lv ρ H ks vs kus → subD ks2 vs2 ks vs = true → ∀ p ∈ kus, valV kus2 p.1 = some p.2 ∧ flatB p.2 = true
  | _, _, _, .nil, _, _, hp => (List.not_mem_nil hp).elim
  | _, _, _, .cons (k := k) (v := v) hk h t, e, p, hp => by
    simp only [subD, Bool.and_eq_true] at e
    rcases List.mem_cons.mp hp with rfl | hp
    · have e1 := e.1.2
      rcases RKs.val hk r2 with ⟨d, y, h1, h2, h3⟩ | ⟨h1, h2⟩
      · rw [h1] at e1
        obtain ⟨rfl, f⟩ := sameF_flat e1 h h3
        exact ⟨h2, f⟩
      · rw [h1] at e1
        cases e1
    · exact subD_ok r2 t e.2 p hp
theorem snap_dct {G : Gd} {S : Store} {ρ : List Addr} {H : Hp} (sim : Sim G S ρ H) {d : D} {ks vs : List D} {u : V} (e : snap S d = .dct ks vs) (h : RVl G S ρ H d u) : dctOf S d = some (ks, vs) := by
  unfold snap at e
  split at e
  · rename_i n
    split at e
    · cases e
    · rename_i e0
      cases e
      show (match S[n]? with | some (.dct ks vs) => some (ks, vs) | _ => none) = _
      rw [e0]
    · cases e
  · subst e
    rfl
theorem snap_dicts {G : Gd} {S : Store} {ρ : List Addr} {H : Hp} (sim : Sim G S ρ H) {d e : D} {ks vs ks2 vs2 : List D} {u v : V} (e1 : snap S d = .dct ks vs) (e2 : snap S e = .dct ks2 vs2) (h : RVl G S ρ H d u) (h2 : RVl G S ρ H e v) (e3 : ks.length = ks2.length ∧ subD ks2 vs2 ks vs = true) :
    ∃ a b kus kus2, u = .ref a ∧ v = .ref b ∧ Rd H a (.dK kus) ∧ Rd H b (.dK kus2) ∧ kus.length = kus2.length ∧ ∀ p ∈ kus, valV kus2 p.1 = some p.2 ∧ flatB p.2 = true := by
  obtain ⟨a, kus, rfl, q1, q2⟩ := dctOf_at sim (snap_dct sim e1 h) h
  obtain ⟨b, kus2, rfl, q3, q4⟩ := dctOf_at sim (snap_dct sim e2 h2) h2
  exact ⟨a, b, kus, kus2, rfl, rfl, q1, q3, by rw [← q2.lens.1, ← q4.lens.1]; exact e3.1, subD_ok q4 q2 e3.2⟩
/-- dicts compared that may be locked -/
theorem eq_dictR {X : Cx} (hu : X.A.units < cLine) : OpR X (compareOp .Eq) (fun x y H Q => ∃ a b ks ls, x = .ref a ∧ y = .ref b ∧ Rd H a (.dK ks) ∧ Rd H b (.dK ls) ∧ ks.length = ls.length ∧ (∀ p ∈ ks, valV ls p.1 = some p.2 ∧ flatB p.2 = true) ∧ Q (.bl true) H) := by
  intro pins s σ H x y v u Q I rx ry ⟨a, b, ks, ls, ex, ey, ea, eb, hl, hp, q⟩
  subst ex ey
  obtain rfl : v = Value.ref a := rx
  obtain rfl : u = Value.ref b := ry
  obtain ⟨_, ya, va, ra, da⟩ := dk_rd I.hok ea
  obtain ⟨_, yb, vb, rb, db⟩ := dk_rd I.hok eb
  have hz : va.length = vb.length := by rw [← Paired.length ra, ← Paired.length rb]; exact hl
  exact PySem.W.keq_eq (knd := mixKind X.prog X.w) (r := true) ya yb da db hu (fun _ => hits_all rb ra hp) (fin_bl I q (by simp [hz]))
theorem ne_dictR {X : Cx} (hu : X.A.units < cLine) : OpR X (compareOp .NotEq) (fun x y H Q => ∃ a b ks ls, x = .ref a ∧ y = .ref b ∧ Rd H a (.dK ks) ∧ Rd H b (.dK ls) ∧ ks.length = ls.length ∧ (∀ p ∈ ks, valV ls p.1 = some p.2 ∧ flatB p.2 = true) ∧ Q (.bl false) H) := by
  intro pins s σ H x y v u Q I rx ry ⟨a, b, ks, ls, ex, ey, ea, eb, hl, hp, q⟩
  subst ex ey
  obtain rfl : v = Value.ref a := rx
  obtain rfl : u = Value.ref b := ry
  obtain ⟨_, ya, va, ra, da⟩ := dk_rd I.hok ea
  obtain ⟨_, yb, vb, rb, db⟩ := dk_rd I.hok eb
  have hz : va.length = vb.length := by rw [← Paired.length ra, ← Paired.length rb]; exact hl
  exact PySem.W.keq_ne (knd := mixKind X.prog X.w) (r := true) ya yb da db hu (fun _ => hits_all rb ra hp) (fin_bl I q (by simp [hz]))
theorem un160 {k : Nat} {A : Around} (hr : Room k A) : A.units + 160 < cLine := by have := hr.un; omega
section
variable {G : Gd} {X : Cx} {k : Nat}
theorem eq_ok (hK : X.K = G.K) (hr : Room k X.A) : OpR X (compareOp .Eq) (rd2 G (cmpW .Eq)) := by
  intro pins s σ H x y v u Q I rx ry h
  obtain ⟨S, ρ, dx, dy, P, sim, r1, r2, w, fin⟩ := h
  have hu := un160 hr
  rcases eqW_all (show eqW (snap S dx) (snap S dy) (fun b => P (.bl b) S) from w) with ⟨p1, p2, hd, w⟩ | ⟨xs, e1, e2, w⟩ | ⟨ks, vs, ks2, vs2, e1, e2, e3, w⟩ | ⟨n, c, ns, fs, c2, ns2, fs2, e1, e2, w2⟩ | ⟨xs, ys, e1, e2, e3, w2⟩ | ⟨xs, e1, e2, w2⟩
  rotate_left
  · obtain ⟨a, its, rfl, l1, z1⟩ := snap_list I sim e1 r1 rx
    obtain ⟨b, jts, rfl, l2, z2⟩ := snap_list I sim e2 r2 ry
    cases xs with
    | nil =>
      have q := SeqAt.RcAt.lists (A := X.A) (e := fun _ => true) l1 l2 (by rw [z1, z2]) (by omega) fun j h1 _ => absurd h1 (by rw [z1]; exact Nat.not_lt_zero _)
      rw [z1] at q
      exact q _ _ _ _ ⟨.bl _, H, I, rfl, fin.here sim w (.bl _)⟩
    | cons x r => exact SeqAt.RcAt.lists_lengths l1 l2 (by rw [z1, z2]; simp) (by omega) _ _ _ _ ⟨.bl _, H, I, rfl, fin.here sim w (.bl _)⟩
  · obtain ⟨a, b, kus, kus2, rfl, rfl, h1, h2, hl, hs⟩ := snap_dicts sim e1 e2 r1 r2 e3
    exact eq_dictR (by omega) pins s σ H _ _ v u Q I rx ry ⟨a, b, kus, kus2, rfl, rfl, h1, h2, hl, hs, fin.here sim w (.bl _)⟩
  · have e1' := snap_pin e1
    have e2' := snap_pin e2
    subst e1'
    subst e2'
    obtain ⟨a, ox, od, n1, rfl, J, eo⟩ := pin_inst I r1 rx
    obtain ⟨b, ox2, od2, n2, rfl, _, _⟩ := pin_inst I r2 ry
    rw [n1] at n2
    cases n2
    exact rc_same (K := X.K) (by omega) I.kIn J (by rw [hK]; exact eo) _ _ _ _ ⟨.bl _, H, I, rfl, fin.here sim w2 (.bl _)⟩
  · obtain ⟨a, us, its, rfl, l1, v1, t1⟩ := snap_listV I sim e1 r1 rx
    obtain ⟨b, ws, jts, rfl, l2, v2, t2⟩ := snap_listV I sim e2 r2 ry
    have ee := samePs_eq e3 v1 v2 t1 t2
    subst ee
    have q := SeqAt.RcAt.lists (A := X.A) (e := fun _ => true) l1 l2 rfl (by omega) fun j h1 _ => SeqAt.EqAt.same _
    rw [show (List.range its.toArray.size).all (fun _ => true) = true from by simp] at q
    exact q _ _ _ _ ⟨.bl _, H, I, rfl, fin.here sim w2 (.bl _)⟩
  · obtain ⟨a, its, rfl, l1, z1⟩ := snap_tup hK I e1 r1 rx
    obtain ⟨b, jts, rfl, l2, z2⟩ := snap_tup hK I e2 r2 ry
    have q := SeqAt.RcAt.tuples (A := X.A) (e := fun _ => true) l1 l2 (by omega) fun j h1 h2 => absurd h2 (by rw [z2]; exact Nat.not_lt_zero _)
    rw [z1, z2, show (List.range (min xs.length ([] : List D).length)).all (fun _ => true) = true from by simp, show (true && xs.length == ([] : List D).length) = xs.isEmpty from by cases xs <;> rfl] at q
    exact q _ _ _ _ ⟨.bl _, H, I, rfl, fin.here sim w2 (.bl _)⟩
  exact rcAtD (snap_rdh hK I sim p1 r1 rx) (snap_rdh hK I sim p2 r2 ry) (by omega) _ _ _ _ ⟨.bl _, H, I, rfl, fin.here sim w (.bl _)⟩
theorem ne_ok (hK : X.K = G.K) (hr : Room k X.A) : OpR X (compareOp .NotEq) (rd2 G (cmpW .NotEq)) := by
  intro pins s σ H x y v u Q I rx ry h
  obtain ⟨S, ρ, dx, dy, P, sim, r1, r2, w, fin⟩ := h
  have hu := un160 hr
  rcases eqW_all (show eqW (snap S dx) (snap S dy) (fun b => P (.bl (!b)) S) from w) with ⟨p1, p2, hd, w⟩ | ⟨xs, e1, e2, w⟩ | ⟨ks, vs, ks2, vs2, e1, e2, e3, w⟩ | ⟨n, c, ns, fs, c2, ns2, fs2, e1, e2, w2⟩ | ⟨xs, ys, e1, e2, e3, w2⟩ | ⟨xs, e1, e2, w2⟩
  rotate_left
  · obtain ⟨a, its, rfl, l1, z1⟩ := snap_list I sim e1 r1 rx
    obtain ⟨b, jts, rfl, l2, z2⟩ := snap_list I sim e2 r2 ry
    cases xs with
    | nil =>
      have q := SeqAt.RcNeAt.lists (A := X.A) (e := fun _ => true) l1 l2 (by rw [z1, z2]) (by omega) fun j h1 _ => absurd h1 (by rw [z1]; exact Nat.not_lt_zero _)
      rw [z1] at q
      exact q _ _ _ _ ⟨.bl _, H, I, rfl, fin.here sim w (.bl _)⟩
    | cons x r => exact SeqAt.RcNeAt.lists_lengths l1 l2 (by rw [z1, z2]; simp) (by omega) _ _ _ _ ⟨.bl _, H, I, rfl, fin.here sim w (.bl _)⟩
  · obtain ⟨a, b, kus, kus2, rfl, rfl, h1, h2, hl, hs⟩ := snap_dicts sim e1 e2 r1 r2 e3
    exact ne_dictR (by omega) pins s σ H _ _ v u Q I rx ry ⟨a, b, kus, kus2, rfl, rfl, h1, h2, hl, hs, fin.here sim w (.bl _)⟩
  · have e1' := snap_pin e1
    have e2' := snap_pin e2
    subst e1'
    subst e2'
    obtain ⟨a, ox, od, n1, rfl, J, eo⟩ := pin_inst I r1 rx
    obtain ⟨b, ox2, od2, n2, rfl, _, _⟩ := pin_inst I r2 ry
    rw [n1] at n2
    cases n2
    exact rcne_same (K := X.K) (by omega) I.kIn J (by rw [hK]; exact eo) _ _ _ _ ⟨.bl _, H, I, rfl, fin.here sim w2 (.bl _)⟩
  · obtain ⟨a, us, its, rfl, l1, v1, t1⟩ := snap_listV I sim e1 r1 rx
    obtain ⟨b, ws, jts, rfl, l2, v2, t2⟩ := snap_listV I sim e2 r2 ry
    have ee := samePs_eq e3 v1 v2 t1 t2
    subst ee
    have q := SeqAt.RcNeAt.lists (A := X.A) (e := fun _ => true) l1 l2 rfl (by omega) fun j h1 _ => SeqAt.EqAt.same _
    rw [show (List.range its.toArray.size).all (fun _ => true) = true from by simp] at q
    exact q _ _ _ _ ⟨.bl _, H, I, rfl, fin.here sim w2 (.bl _)⟩
  · obtain ⟨a, its, rfl, l1, z1⟩ := snap_tup hK I e1 r1 rx
    obtain ⟨b, jts, rfl, l2, z2⟩ := snap_tup hK I e2 r2 ry
    have q := SeqAt.RcNeAt.tuples (A := X.A) (e := fun _ => true) l1 l2 (by omega) fun j h1 h2 => absurd h2 (by rw [z2]; exact Nat.not_lt_zero _)
    rw [z1, z2, show (List.range (min xs.length ([] : List D).length)).all (fun _ => true) = true from by simp, show (true && xs.length == ([] : List D).length) = xs.isEmpty from by cases xs <;> rfl] at q
    exact q _ _ _ _ ⟨.bl _, H, I, rfl, fin.here sim w2 (.bl _)⟩
  exact rcNeAtD (snap_rdh hK I sim p1 r1 rx) (snap_rdh hK I sim p2 r2 ry) (by omega) _ _ _ _ ⟨.bl _, H, I, rfl, fin.here sim w (.bl _)⟩
theorem ord_ok {op : CmpOp} {f : Int → Int → Bool} (o : OpR X (compareOp op) (rI0 fun i j => .bl (f i j))) : OpR X (compareOp op) (rd2 G (ordW f)) := by
  intro pins s σ H x y v u Q I rx ry h
  obtain ⟨S, ρ, dx, dy, P, sim, r1, r2, w, fin⟩ := h
  unfold ordW at w
  split at w
  · cases r1
    cases r2
    exact o pins s σ H _ _ v u Q I rx ry ⟨_, _, rfl, rfl, fin.here sim w (.bl _)⟩
  · exact w.elim
theorem isNon_iff {Lv : Addr → Prop} {ρ : List Addr} {H : Hp} {d : D} {v : V} (h : RV G Lv ρ H d v) : decide (v = .non) = isNonD d := by
  cases h <;> simp [isNonD]
theorem is_okW : OpR X (compareOp .Is) (rd2 G (cmpW .Is)) := by
  intro pins s σ H x y v u Q I rx ry h
  obtain ⟨S, ρ, dx, dy, P, sim, r1, r2, w, fin⟩ := h
  simp only [cmpW] at w
  unfold isW at w
  split at w
  · cases r2
    exact op_isN pins s σ H _ _ v u Q I rx ry ⟨rfl, by rw [isNon_iff r1]; exact fin.here sim w (.bl _)⟩
  · split at w
    · cases r1
      cases r2
      cases rx
      cases ry
      exact is_bool ⟨.bl _, H, I, rfl, fin.here sim w (.bl _)⟩
    · exact w.elim
  · exact w.elim
theorem isnt_okW : OpR X (compareOp .IsNot) (rd2 G (cmpW .IsNot)) := by
  intro pins s σ H x y v u Q I rx ry h
  obtain ⟨S, ρ, dx, dy, P, sim, r1, r2, w, fin⟩ := h
  simp only [cmpW] at w
  unfold isW at w
  split at w
  · cases r2
    exact op_notN pins s σ H _ _ v u Q I rx ry ⟨rfl, by rw [isNon_iff r1]; exact fin.here sim w (.bl _)⟩
  · split at w
    · cases r1
      cases r2
      cases rx
      cases ry
      exact isnot_bool ⟨.bl _, H, I, rfl, fin.here sim w (.bl _)⟩
    · exact w.elim
  · exact w.elim
open Classical in
/-- in, not in -/
theorem in_core (neg : Bool) {op : CmpOp} (hop : op = if neg then .NotIn else .In) (hK : X.K = G.K) (hr : Room k X.A) :
    OpR X (compareOp op) (rd2 G fun x y S Q => inW x y S fun b => Q (.bl (if neg then !b else b)) S) := by
  intro pins s σ H x y v u Q I rx ry h
  obtain ⟨S, ρ, dx, dy, P, sim, r1, r2, w, fin⟩ := h
  have hu : X.A.units + 1 < cLine := by have := un160 hr; omega
  have seq : ∀ {xs : List D} {a : Addr} {us : List V}, y = .ref a → (SqL X.K H a us ∨ SqT X.K H a us) → RVsl G S ρ H xs us → flat dx = true ∧ xs.all flat = true → P (.bl (if neg then !(inL dx xs) else inL dx xs)) S →
      wpAny (model X.prog X.w) X.A (compareOp op v u) (EP X pins σ Q) X.xe s := fun {xs a us} ey hs rr f p => by
    obtain ⟨e1, e2⟩ := inL_eq f.1 r1 rr f.2
    have q := fin.here sim p (.bl _)
    cases neg with
    | true =>
      subst hop
      exact op_notIn_seq pins s σ H _ _ v u Q I rx ry ⟨a, us, ey, hs, flat_V f.1 r1, e2, by rw [e1]; exact q⟩
    | false =>
      subst hop
      exact op_in_seq pins s σ H _ _ v u Q I rx ry ⟨a, us, ey, hs, flat_V f.1 r1, e2, by rw [e1]; exact q⟩
  have seqP : ∀ {xs : List D} {a : Addr} {us : List V}, y = .ref a → (SqL X.K H a us ∨ SqT X.K H a us) → RVsl G S ρ H xs us → isPy dx = true ∧ isPys xs = true ∧ deps xs ≤ 150 → P (.bl (if neg then !(inL dx xs) else inL dx xs)) S →
      wpAny (model X.prog X.w) X.A (compareOp op v u) (EP X pins σ Q) X.xe s := fun {xs a us} ey hs rr f p => by
    subst ey
    obtain rfl : u = Value.ref a := ry
    have q := fin.here sim p (.bl _)
    have hx := RV.rdh hK I f.1 r1 rx
    have main : ∀ {its : List Value}, Vals us its → ∃ e : Value → Bool, (∀ z ∈ its.toArray, SeqAt.EqAt X.A.in1 s z v (e z)) ∧ its.toArray.any e = inL dx xs := fun {its} rv => by
      have hxs := RVs.rdh hK I f.2.1 rr rv
      clear q p seq
      refine ⟨fun z => decide (∃ d, d ∈ xs ∧ Rdh s.heap d z ∧ eqD d dx = true), fun z hz => ?_, ?_⟩
      · have get : ∀ {ds : List D} {vs : List Value}, Rdhs s.heap ds vs → ∀ z ∈ vs, ∃ d ∈ ds, Rdh s.heap d z := fun {ds} => by
          induction ds with
          | nil => intro vs h; cases h; intro z hz; cases hz
          | cons d r ih =>
            intro vs h
            cases h with
            | cons h1 h2 =>
              intro z hz
              rcases List.mem_cons.mp hz with rfl | hz
              · exact ⟨d, List.mem_cons_self, h1⟩
              · obtain ⟨d', hd', h3⟩ := ih h2 z hz
                exact ⟨d', List.mem_cons_of_mem _ hd', h3⟩
        obtain ⟨d, hd, rz⟩ := get hxs z (by simpa using hz)
        have e1 : decide (∃ d, d ∈ xs ∧ Rdh s.heap d z ∧ eqD d dx = true) = eqD d dx := by
          cases he : eqD d dx with
          | true => exact decide_eq_true ⟨d, hd, rz, he⟩
          | false => exact decide_eq_false fun ⟨d2, h1, h2, h3⟩ => by rw [Rdh.same h2 rz, he] at h3; cases h3
        show SeqAt.EqAt X.A.in1 s z v (decide (∃ d, d ∈ xs ∧ Rdh s.heap d z ∧ eqD d dx = true))
        rw [e1]
        have dl : dep d ≤ deps xs := by
          clear get hz rz e1 hxs rv f rr
          induction xs with
          | nil => cases hd
          | cons a r ih =>
            show dep d ≤ max (dep a) (deps r)
            rcases List.mem_cons.mp hd with rfl | hd
            · omega
            · have := ih hd; omega
        exact eqAtD d dx X.A.in1 s z v rz hx (by have := un160 hr; have : X.A.in1.units = X.A.units + 1 := rfl; omega)
      · rw [Array.any_toList.symm]
        have all : ∀ {ds : List D} {vs : List Value}, Rdhs s.heap ds vs → (∀ d ∈ ds, d ∈ xs) → vs.any (fun z => decide (∃ d, d ∈ xs ∧ Rdh s.heap d z ∧ eqD d dx = true)) = inL dx ds := fun {ds} => by
          induction ds with
          | nil => intro vs h _; cases h; rfl
          | cons d r ih =>
            intro vs h hm
            cases h with
            | @cons _ w _ ws h1 h2 =>
              have e1 : decide (∃ d, d ∈ xs ∧ Rdh s.heap d w ∧ eqD d dx = true) = eqD d dx := by
                cases he : eqD d dx with
                | true => exact decide_eq_true ⟨d, hm d List.mem_cons_self, h1, he⟩
                | false => exact decide_eq_false fun ⟨d2, h3, h4, h5⟩ => by rw [Rdh.same h4 h1, he] at h5; cases h5
              rw [List.any_cons, e1, ih h2 fun d hd => hm d (List.mem_cons_of_mem _ hd)]
              rfl
        have := all hxs fun d hd => hd
        simpa using this
    rcases hs with hs | hs
    · obtain ⟨its, rv, pl, _⟩ := I.list hs
      obtain ⟨e, h1, h2⟩ := main rv
      cases neg with
      | true =>
        subst hop
        exact SeqAt.notIn_listAt e pl.isList h1 ⟨.bl _, H, I, rfl, by rw [h2]; exact q⟩
      | false =>
        subst hop
        exact SeqAt.in_listAt e pl.isList h1 ⟨.bl _, H, I, rfl, by rw [h2]; exact q⟩
    · obtain ⟨its, rv, pl, _⟩ := I.tuple hs
      obtain ⟨e, h1, h2⟩ := main rv
      cases neg with
      | true =>
        subst hop
        exact SeqAt.notIn_tupleAt e (show s.heap.IsTuple a its.toArray from pl) h1 ⟨.bl _, H, I, rfl, by rw [h2]; exact q⟩
      | false =>
        subst hop
        exact SeqAt.in_tupleAt e (show s.heap.IsTuple a its.toArray from pl) h1 ⟨.bl _, H, I, rfl, by rw [h2]; exact q⟩
  have seqA : ∀ {xs : List D} {a : Addr} {us : List V}, y = .ref a → (SqL X.K H a us ∨ SqT X.K H a us) → RVsl G S ρ H xs us → inSeq dx xs (fun b => P (.bl (if neg then !b else b)) S) →
      wpAny (model X.prog X.w) X.A (compareOp op v u) (EP X pins σ Q) X.xe s := fun {xs a us} ey hs rr w => by
    unfold inSeq at w
    split at w
    · exact seq ey hs rr w.1 w.2
    · exact seqP ey hs rr w.1 w.2
  have dct : ∀ {ks vs : List D}, dctOf S dy = some (ks, vs) → keyD dx = true ∧ P (.bl (if neg then !((dget ks vs dx).isSome) else (dget ks vs dx).isSome)) S →
      wpAny (model X.prog X.w) X.A (compareOp op v u) (EP X pins σ Q) X.xe s := fun {ks vs} e f => by
    obtain ⟨f1, f2⟩ := f
    obtain ⟨a, kus, rfl, h1, h2⟩ := dctOf_at sim e r2
    obtain ⟨kk, ek⟩ := keyOf_keyD f1
    have ex := r1.key ek
    subst ex
    have q := fin.here sim f2 (.bl _)
    have eo : (dget ks vs dx).isSome = (valV kus kk).isSome := by
      rcases RKs.val ek h2 with ⟨d, z, h3, h4, _⟩ | ⟨h3, h4⟩ <;> rw [h3, h4] <;> rfl
    rw [eo] at q
    cases ry
    cases neg with
    | true =>
      subst hop
      exact d_notIn hu I (.inl ⟨kus, kk, h1, rfl, rfl⟩) rx fun s' I' => ⟨.bl _, H, I', rfl, q⟩
    | false =>
      subst hop
      exact d_in hu I (.inl ⟨kus, kk, h1, rfl, rfl⟩) rx fun s' I' => ⟨.bl _, H, I', rfl, q⟩
  unfold inW at w
  split at w
  · unfold inSW at w
    split at w <;> try exact w.elim
    rename_i z _ c
    cases r1
    cases r2
    have q := fin.here sim w (.bl _)
    have e0 : (tx [c]) = (⟨#[c]⟩ : Str) := rfl
    cases neg with
    | true =>
      subst hop
      exact op_notIn_sign pins s σ H _ _ v u Q I rx ry ⟨c, tx z, rfl, rfl, by rw [show decide (c ∈ (tx z).cps.toList) = decide (c ∈ z) from by rw [decide_eq_decide]; simp [tx]]; exact q⟩
    | false =>
      subst hop
      exact op_in_sign pins s σ H _ _ v u Q I rx ry ⟨c, tx z, rfl, rfl, by rw [show decide (c ∈ (tx z).cps.toList) = decide (c ∈ z) from by rw [decide_eq_decide]; simp [tx]]; exact q⟩
  · cases r2 with
    | tup h q => exact seqA rfl (.inr (by rw [hK]; exact h.seq)) q w
  · cases r2 with
    | lst h q => exact seqA rfl (.inl (SqL.of h.2)) q w
  · exact dct rfl w
  · rename_i n
    split at w
    · rename_i xs e
      obtain ⟨a, us, e1, h1, h2, _⟩ := sim.lst_at e r2
      exact seqA e1 (.inl (SqL.of h1)) h2 w
    · rename_i ks vs e
      exact dct (by simp only [dctOf, e]) w
    · exact w.elim
  · exact w.elim
end
section
variable {G : Gd} {S : Store} {ρ : List Addr} {H : Hp}
theorem RKs.hasK {Lv : Addr → Prop} {kd : D} {key : Key} (ek : keyOf kd = some key) : ∀ {ks vs : List D} {kus : List (Key × V)}, RKs G Lv ρ H ks vs kus → hasK ks kd = kus.any fun kv => decide (kv.1 = key)
  | _, _, _, .nil => rfl
  | _, _, _, .cons (k := a) (k' := b) hk h t => by
    have e := keyEq_iff hk ek
    have ih := RKs.hasK ek t
    by_cases q : b = key
    · rw [decide_eq_true q] at e
      simp [DL.hasK, e, q]
    · rw [decide_eq_false q] at e
      simp [DL.hasK, e, q, ih]
theorem RKs.repl {Lv : Addr → Prop} {kd : D} {key : Key} {d : D} {v : V} (ek : keyOf kd = some key) (hd : RV G Lv ρ H d v) : ∀ {ks vs : List D} {kus : List (Key × V)}, RKs G Lv ρ H ks vs kus → RKs G Lv ρ H ks (replV ks vs kd d) (kus.map fun kv => if kv.1 = key then (kv.1, v) else kv)
  | _, _, _, .nil => .nil
  | _, _, _, .cons (k := a) (k' := b) hk h t => by
    have e := keyEq_iff hk ek
    have ih := RKs.repl ek hd t
    by_cases q : b = key
    · rw [decide_eq_true q] at e
      simp only [replV, e, List.map_cons, q, if_true]
      exact .cons (q ▸ hk) hd ih
    · rw [decide_eq_false q] at e
      simp only [replV, e, List.map_cons, q, if_false]
      exact .cons hk h ih
theorem RKs.snoc {Lv : Addr → Prop} {kd : D} {key : Key} {d : D} {v : V} (ek : keyOf kd = some key) (hd : RV G Lv ρ H d v) : ∀ {ks vs : List D} {kus : List (Key × V)}, RKs G Lv ρ H ks vs kus → RKs G Lv ρ H (ks ++ [kd]) (vs ++ [d]) (kus ++ [(key, v)])
  | _, _, _, .nil => .cons ek hd .nil
  | _, _, _, .cons hk h t => .cons hk h (RKs.snoc ek hd t)
theorem RKs.put {Lv : Addr → Prop} {kd : D} {key : Key} {d : D} {v : V} (ek : keyOf kd = some key) (hd : RV G Lv ρ H d v) {ks vs : List D} {kus : List (Key × V)} (r : RKs G Lv ρ H ks vs kus) : RKs G Lv ρ H (dputK ks kd) (dputV ks vs kd d) (putK kus key v) := by
  have e := r.hasK ek
  unfold dputK dputV putK
  cases q : DL.hasK ks kd with
  | true =>
    rw [← e, q, if_pos rfl]
    exact r.repl ek hd
  | false =>
    rw [← e, q, if_neg Bool.false_ne_true]
    exact r.snoc ek hd
end
end DL

set_option maxHeartbeats 1000000
/-! DL 6e: places, cuts, fields -/
namespace DL
open PySem PySem.Spec PyProof.Rows L2

theorem ixOf_eq (n : Nat) (i : Int) : ixOf n i = ixN n i := by
  unfold ixOf ixN
  cases i with
  | ofNat j =>
    have h0 : (0 : Int) ≤ Int.ofNat j := Int.natCast_nonneg j
    rw [if_pos h0]
    by_cases h : j < n
    · have h1 : (Int.ofNat j) < (n : Int) := Int.ofNat_lt.mpr h
      rw [if_pos h1]
      simp only [if_pos h]
      rfl
    · have h1 : ¬ (Int.ofNat j) < (n : Int) := fun q => h (Int.ofNat_lt.mp q)
      rw [if_neg h1]
      simp only [if_neg h]
  | negSucc j =>
    have h0 : ¬ (0 : Int) ≤ Int.negSucc j := by simp [Int.negSucc_not_nonneg]
    rw [if_neg h0]
    by_cases h : j < n
    · have h1 : -(n : Int) ≤ Int.negSucc j := by omega
      rw [if_pos h1]
      simp only [if_pos h]
      congr 1
      omega
    · have h1 : ¬ -(n : Int) ≤ Int.negSucc j := by omega
      rw [if_neg h1]
      simp only [if_neg h]
theorem clip_eq (n d : Nat) (i : Option Int) : clipIx n d i = HT.sIx n d i := by
  cases i with
  | none => rfl
  | some i =>
    unfold clipIx HT.sIx
    cases i with
    | ofNat j =>
      have h : ¬ Int.ofNat j < 0 := Int.not_lt.mpr (Int.natCast_nonneg j)
      simp only [if_neg h]
      rfl
    | negSucc j =>
      have h : Int.negSucc j < 0 := Int.negSucc_lt_zero j
      simp only [if_pos h]
      omega
theorem cut_eq {α : Type} (xs : List α) (lo hi : Option Int) : cutL xs lo hi = (xs.drop (HT.sIx xs.length 0 lo)).take (HT.sIx xs.length xs.length hi - HT.sIx xs.length 0 lo) := by
  unfold cutL
  rw [clip_eq, clip_eq, List.drop_take]
section
variable {G : Gd} {X : Cx} {k : Nat}
theorem at_rel {Lv : Addr → Prop} {ρ : List Addr} {H : Hp} {xs : List D} {us : List V} {i : Int} {d : D} (r : RVs G Lv ρ H xs us) (e : (ixOf xs.length i).bind (xs[·]?) = some d) : ∃ v, atI us i = some v ∧ RV G Lv ρ H d v := by
  unfold atI
  rw [ixOf_eq, r.length] at e
  cases q : ixN us.length i with
  | none => rw [q] at e; cases e
  | some j =>
    rw [q] at e
    obtain ⟨v, h1, h2⟩ := r.get (show xs[j]? = some d from e)
    exact ⟨v, h1, h2⟩
theorem idx_ok (hK : X.K = G.K) (hr : Room k X.A) : IxR X (rd2 G idxW) := by
  intro value slice pins s σ H x y v u Q I rx ry h hs
  obtain ⟨S, ρ, dx, dy, P, sim, r1, r2, w, fin⟩ := h
  have hu : X.A.units + 1 < cLine := by have := un160 hr; omega
  have dct : ∀ {ks vs : List D}, dctOf S dx = some (ks, vs) → (keyD dy = true ∧ ∃ d, dget ks vs dy = some d ∧ P d S) → wpAny (model X.prog X.w) X.A (subscriptTail value slice v u) (EP X pins σ Q) X.xe s := fun {ks vs} e f => by
    obtain ⟨f1, d, f2, f3⟩ := f
    obtain ⟨a, kus, rfl, h1, h2⟩ := dctOf_at sim e r1
    obtain ⟨kk, ek⟩ := keyOf_keyD f1
    have ex := r2.key ek
    subst ex
    rcases RKs.val ek h2 with ⟨d', z, h3, h4, h5⟩ | ⟨h3, h4⟩
    · rw [f2] at h3
      cases h3
      have g : DGet H a (kV kk) (some z) := by rw [← h4]; exact .inl ⟨kus, kk, h1, rfl, rfl⟩
      cases rx
      exact tail_any (dict_typeIs I g) PySem.F.slot_dict_getitem.lookup (d_getItem hu I g ry fun w' s' I' rw' => ⟨z, H, I', rw', fin.here sim f3 h5⟩) hs
    · rw [f2] at h3
      cases h3
  have lst : ∀ {xs : List D} {i : Int} {a : Addr} {us : List V}, x = .ref a → y = .int i → SqL X.K H a us → RVsl G S ρ H xs us → (∃ d, (ixOf xs.length i).bind (xs[·]?) = some d ∧ P d S) →
      wpAny (model X.prog X.w) X.A (subscriptTail value slice v u) (EP X pins σ Q) X.xe s := fun {xs i a us} ex ey hq r ⟨d, e, p⟩ => by
    obtain ⟨z, h1, h2⟩ := at_rel r e
    exact ix_list value slice pins s σ H x y v u Q I rx ry ⟨a, us, i, z, ex, ey, hq, h1, fin.here sim p h2⟩ hs
  unfold idxW at w
  split at w
  · rename_i z i
    obtain ⟨hl, c, e, p⟩ := w
    cases r1
    cases r2
    refine ix_str value slice pins s σ H _ _ v u Q I rx ry ⟨tx z, i, c, rfl, rfl, by rw [tx_length, line]; exact hl, ?_, fin.here sim p (.str [c])⟩ hs
    unfold atI
    rw [← ixOf_eq]
    simpa [tx] using e
  · cases r2
    cases r1 with
    | tup h r =>
      obtain ⟨d, e, p⟩ := w
      obtain ⟨z, h1, h2⟩ := at_rel r e
      exact ix_tup value slice pins s σ H _ _ v u Q I rx ry ⟨_, _, _, z, rfl, rfl, by rw [hK]; exact h.seq, h1, fin.here sim p h2⟩ hs
  · cases r2
    cases r1 with
    | lst h r => exact lst rfl rfl (SqL.of h.2) r w
  · cases r2
    cases r1 with
    | klst h r => exact lst rfl rfl (by rw [hK]; exact h.seq) r w
  · exact dct rfl w
  · rename_i n
    split at w
    · rename_i xs e
      split at w
      · cases r2
        obtain ⟨a, us, e1, h1, h2, _⟩ := sim.lst_at e r1
        exact lst e1 rfl (SqL.of h1) h2 w
      · exact w.elim
    · rename_i ks vs e
      exact dct (by simp only [dctOf, e]) w
    · exact w.elim
  · exact w.elim
/-! ### cuts -/
theorem rvs_cut {Lv : Addr → Prop} {ρ : List Addr} {H : Hp} {xs : List D} {us : List V} (r : RVs G Lv ρ H xs us) (lo hi : Option Int) : RVs G Lv ρ H (cutL xs lo hi) (cutV us lo hi) := by
  rw [cut_eq, r.length]
  exact (r.drop _).take _
def rdSl (G : Gd) (fz : Bool) : V → Option Int → Option Int → Hp → VK → Prop := fun x lo hi H Q => ∃ S ρ d P, Sim G S ρ H ∧ RVl G S ρ H d x ∧ slcW fz d lo hi S P ∧ Fin G S ρ H P Q
theorem slc_ok (hK : X.K = G.K) (fz : Bool) : SlR X (rdSl G fz) := by
  intro pins s σ H x v vl vu lo hi sl Q I rx hs pl pu h
  obtain ⟨S, ρ, d, P, sim, r, w, fin⟩ := h
  have lst : ∀ {xs : List D} {a : Addr} {us : List V}, x = .ref a → SqL X.K H a us → RVsl G S ρ H xs us → mkL fz (cutL xs lo hi) S P → _ := fun {xs a us} ex hq r p =>
    sl_list pins s σ H x v vl vu lo hi sl Q I rx hs pl pu ⟨a, us, ex, hq, fun p' hp => fin.new sim hp (rvs_cut r lo hi) p⟩
  unfold slcW at w
  split at w
  · rename_i z
    cases r
    refine sl_str pins s σ H _ v vl vu lo hi sl Q I rx hs pl pu ⟨tx z, rfl, by rw [tx_length, line]; exact w.1, ?_⟩
    have e : cutS (tx z) lo hi = tx (cutL z lo hi) := by
      unfold cutS
      rw [cut_eq, tx_length]
      rfl
    rw [e]
    exact fin.here sim w.2 (.str _)
  · cases r with
    | tup h r =>
      refine sl_tupA pins s σ H _ v vl vu lo hi sl Q I rx hs pl pu ⟨_, _, rfl, by rw [hK]; exact h.seq, fun e => ?_, fun _ p hp => fin.newT sim hp (rvs_cut r lo hi) w⟩
      rw [cut_eq, r.length, e.1, e.2] at w
      simp only [List.drop_zero, Nat.sub_zero] at w
      rw [← r.length, List.take_length] at w
      exact fin.here sim w (.tup h r)
  · cases r with
    | lst h r => exact lst rfl (SqL.of h.2) r w
  · cases r with
    | klst h r => exact lst rfl (by rw [hK]; exact h.seq) r w
  · split at w
    · rename_i xs e
      obtain ⟨a, us, e1, h1, h2, _⟩ := sim.lst_at e r
      exact lst e1 (SqL.of h1) h2 w
    · exact w.elim
  · exact w.elim
/-! ### fields -/
theorem RFs.get {Lv : Addr → Prop} {ρ : List Addr} {H : Hp} {fl : List (Str × V)} {f : Nat} {d : D} : ∀ {ns : List Nat} {fs : List D}, RFs G Lv ρ H fl ns fs → getF ns fs f = some d → f ∈ ns ∧ ∃ v, fl.lookup (G.nm f) = some v ∧ RV G Lv ρ H d v
  | _, _, .nil, e => by cases e
  | _, _, .cons (n := n) hn h t, e => by
    unfold getF at e
    cases q : Nat.beq n f with
    | true =>
      rw [q] at e
      cases e
      have := Nat.eq_of_beq_eq_true q
      subst this
      exact ⟨List.mem_cons_self, _, hn, h⟩
    | false =>
      rw [q] at e
      obtain ⟨a, b⟩ := RFs.get t e
      exact ⟨List.mem_cons_of_mem _ a, b⟩
/-- what an instance's field is -/
theorem fld_at {S : Store} {ρ : List Addr} {H : Hp} {P : QD} {d : D} {f : Nat} {u : V} (sim : Sim G S ρ H) (h : RVl G S ρ H d u) (w : fldW d f S P) :
    ∃ a C dx fl v x, u = .ref a ∧ H a = some (.ins C dx fl) ∧ Cls G.K C ∧ NoAttr G.K C (G.nm f) ∧ fl.lookup (G.nm f) = some v ∧ RVl G S ρ H x v ∧ P x S := by
  unfold fldW at w
  split at w
  · obtain ⟨x, e, p⟩ := w
    cases h with
    | ins h k r =>
      obtain ⟨m, v, h1, h2⟩ := r.get e
      exact ⟨_, _, _, _, v, x, rfl, h.2, k.cls, k.noat f m, h1, h2, p⟩
  · obtain ⟨x, e, p⟩ := w
    cases h with
    | pin _ h =>
      cases h with
      | ins h k r =>
        obtain ⟨m, v, h1, h2⟩ := r.get e
        exact ⟨_, _, _, _, v, x, rfl, h.2, k.cls, k.noat f m, h1, h2, p⟩
  · split at w
    · rename_i c ns fs e0
      obtain ⟨x, e, p⟩ := w
      obtain ⟨a, dx, fl, rfl, h1, k, r, _⟩ := sim.obj_at e0 h
      obtain ⟨m, v, h2, h3⟩ := r.get e
      exact ⟨a, _, dx, fl, v, x, rfl, h1, k.cls, k.noat f m, h2, h3, p⟩
    · exact w.elim
  · exact w.elim
end
end DL

set_option maxHeartbeats 1000000
/-! DL 6f: sorting; built-in functions -/
namespace DL
open PySem PySem.Spec PyProof.Rows L2

theorem leT_eq : ∀ a b : Tx, leT a b = !ltCps b a
  | [], [] => rfl
  | [], _ :: _ => rfl
  | _ :: _, [] => rfl
  | a :: r, b :: s => by
    unfold leT ltCps
    rw [leT_eq r s]
    by_cases h : a < b
    · have h1 : ¬ b < a := by omega
      have h2 : (b == a) = false := beq_eq_false_iff_ne.mpr (by omega)
      simp [h, h1, h2]
    · by_cases h1 : b < a
      · simp [h, h1]
      · have h2 : b = a := by omega
        subst h2
        simp
theorem leT_total : ∀ a b : Tx, leT a b = true ∨ leT b a = true
  | [], _ => .inl rfl
  | _ :: _, [] => .inr rfl
  | a :: r, b :: s => by
    unfold leT
    by_cases h : a < b
    · exact .inl (by simp [h])
    · by_cases h1 : b < a
      · exact .inr (by simp [h1])
      · simp only [h, h1, if_false]
        exact leT_total r s
theorem leT_anti : ∀ a b : Tx, leT a b = true → leT b a = true → a = b
  | [], [], _, _ => rfl
  | [], _ :: _, _, h => by cases h
  | _ :: _, [], h, _ => by cases h
  | a :: r, b :: s, h, h' => by
    unfold leT at h h'
    by_cases h1 : a < b
    · have h2 : ¬ b < a := by omega
      simp [h1, h2] at h'
    · by_cases h2 : b < a
      · simp [h1, h2] at h
      · have h3 : a = b := by omega
        subst h3
        simp only [h1, if_false] at h h'
        rw [leT_anti r s h h']
theorem leT_trans : ∀ a b c : Tx, leT a b = true → leT b c = true → leT a c = true
  | [], _, _, _, _ => by unfold leT; rfl
  | _ :: _, [], _, h, _ => by cases h
  | _ :: _, _ :: _, [], _, h => by cases h
  | a :: r, b :: s, c :: t, h, h' => by
    unfold leT at h h' ⊢
    by_cases h1 : a < b
    · by_cases h2 : b < c
      · simp [show a < c by omega]
      · by_cases h3 : c < b
        · simp [h2, h3] at h'
        · simp [show a < c by omega]
    · by_cases h2 : b < a
      · simp [h1, h2] at h
      · have h3 : a = b := by omega
        subst h3
        simp only [h1, if_false] at h
        by_cases h4 : a < c
        · simp [h4]
        · by_cases h5 : c < a
          · simp [h4, h5] at h'
          · simp only [h4, h5, if_false] at h' ⊢
            exact leT_trans r s t h h'
theorem insT_perm (x : Tx) : ∀ l, (insT x l).Perm (x :: l)
  | [] => .refl _
  | y :: r => by
    unfold insT
    cases leT x y with
    | true => exact .refl _
    | false => exact ((insT_perm x r).cons y).trans (.swap _ _ _)
theorem sortT_perm : ∀ l, (sortT l).Perm l
  | [] => .refl _
  | x :: r => (insT_perm x _).trans ((sortT_perm r).cons x)
theorem insT_sorted (x : Tx) : ∀ l : List Tx, l.Pairwise (fun a b => leT a b = true) → (insT x l).Pairwise fun a b => leT a b = true
  | [], _ => by simp [insT]
  | y :: r, h => by
    unfold insT
    cases q : leT x y with
    | true =>
      refine List.pairwise_cons.mpr ⟨fun z hz => ?_, h⟩
      rcases List.mem_cons.mp hz with e | hz
      · rw [e]; exact q
      · exact leT_trans x y z q ((List.pairwise_cons.mp h).1 z hz)
    | false =>
      refine List.pairwise_cons.mpr ⟨fun z hz => ?_, insT_sorted x r (List.pairwise_cons.mp h).2⟩
      rcases List.mem_cons.mp ((insT_perm x r).mem_iff.mp hz) with e | hz
      · rw [e]
        rcases leT_total x y with z | z
        · rw [q] at z; cases z
        · exact z
      · exact (List.pairwise_cons.mp h).1 z hz
theorem sortT_sorted : ∀ l : List Tx, (sortT l).Pairwise fun a b => leT a b = true
  | [] => .nil
  | x :: r => insT_sorted x _ (sortT_sorted r)
theorem risingS_sorted : ∀ (p : Tx) (l : List Tx), risingS (tx p) (l.map tx) = true → (p :: l).Pairwise fun a b => leT a b = true
  | p, [], _ => by simp
  | p, x :: r, h => by
    have h' : (!ltCps (tx x).cps.toList (tx p).cps.toList && risingS (tx x) (r.map tx)) = true := h
    rw [Bool.and_eq_true] at h'
    have ih := risingS_sorted x r h'.2
    have h1 : leT p x = true := by
      rw [leT_eq]
      simpa [tx] using h'.1
    refine List.pairwise_cons.mpr ⟨fun z hz => ?_, ih⟩
    rcases List.mem_cons.mp hz with e | hz
    · rw [e]; exact h1
    · exact leT_trans p x z h1 ((List.pairwise_cons.mp ih).1 z hz)
theorem sortT_unique {ts : List Tx} {ys : List Str} (p : ys.Perm (ts.map tx)) (h : sortedS ys = true) : ys = (sortT ts).map tx := by
  obtain ⟨zs, rfl⟩ : ∃ zs : List Tx, ys = zs.map tx := ⟨ys.map fun y => y.cps.toList, by
    rw [List.map_map]
    conv => lhs; rw [← List.map_id ys]
    exact List.map_congr_left fun y _ => by simp [tx]⟩
  have p2 : zs.Perm ts := by
    have := p.map (fun s : Str => s.cps.toList)
    simpa [List.map_map, Function.comp_def, tx] using this
  have s1 : zs.Pairwise fun a b => leT a b = true := by
    cases zs with
    | nil => exact .nil
    | cons x r => exact risingS_sorted x r h
  congr 1
  exact List.Perm.eq_of_pairwise (fun a b _ _ => leT_anti a b) s1 (sortT_sorted ts) (p2.trans (sortT_perm ts).symm)
theorem insI_perm (x : Int) : ∀ l, (insI x l).Perm (x :: l)
  | [] => .refl _
  | y :: r => by
    unfold insI
    split
    · exact .refl _
    · exact ((insI_perm x r).cons y).trans (.swap _ _ _)
theorem sortI_perm : ∀ l, (sortI l).Perm l
  | [] => .refl _
  | x :: r => (insI_perm x _).trans ((sortI_perm r).cons x)
theorem insI_sorted (x : Int) : ∀ l : List Int, l.Pairwise (· ≤ ·) → (insI x l).Pairwise (· ≤ ·)
  | [], _ => by simp [insI]
  | y :: r, h => by
    unfold insI
    split
    · rename_i q
      refine List.pairwise_cons.mpr ⟨fun z hz => ?_, h⟩
      rcases List.mem_cons.mp hz with e | hz
      · rw [e]; exact q
      · exact Int.le_trans q ((List.pairwise_cons.mp h).1 z hz)
    · rename_i q
      refine List.pairwise_cons.mpr ⟨fun z hz => ?_, insI_sorted x r (List.pairwise_cons.mp h).2⟩
      rcases List.mem_cons.mp ((insI_perm x r).mem_iff.mp hz) with e | hz
      · rw [e]; omega
      · exact (List.pairwise_cons.mp h).1 z hz
theorem sortI_sorted : ∀ l : List Int, (sortI l).Pairwise (· ≤ ·)
  | [] => .nil
  | x :: r => insI_sorted x _ (sortI_sorted r)
theorem sortI_unique {is ys : List Int} (p : ys.Perm is) (h : ys.Pairwise (· ≤ ·)) : ys = sortI is :=
  List.Perm.eq_of_pairwise (fun a b _ _ h1 h2 => Int.le_antisymm h1 h2) h (sortI_sorted is) (p.trans (sortI_perm is).symm)

/-! ### what lists of one kind are -/
section
variable {G : Gd} {Lv : Addr → Prop} {ρ : List Addr} {H : Hp}
theorem rvs_strs : ∀ {xs : List D} {us : List V} {ts : List Tx}, RVs G Lv ρ H xs us → strsOf xs = some ts → us = (ts.map tx).map V.str ∧ xs = ts.map D.str
  | [], _, _, .nil, e => by cases e; exact ⟨rfl, rfl⟩
  | .str a :: r, _, _, .cons h t, e => by
    unfold strsOf at e
    cases q : strsOf r with
    | none => rw [q] at e; cases e
    | some l =>
      rw [q] at e
      cases e
      cases h
      obtain ⟨h1, h2⟩ := rvs_strs t q
      rw [h1, h2]
      exact ⟨rfl, rfl⟩
theorem rvs_ints : ∀ {xs : List D} {us : List V} {ts : List Int}, RVs G Lv ρ H xs us → intsOf xs = some ts → us = ts.map V.int ∧ xs = ts.map D.int
  | [], _, _, .nil, e => by cases e; exact ⟨rfl, rfl⟩
  | .int a :: r, _, _, .cons h t, e => by
    unfold intsOf at e
    cases q : intsOf r with
    | none => rw [q] at e; cases e
    | some l =>
      rw [q] at e
      cases e
      cases h
      obtain ⟨h1, h2⟩ := rvs_ints t q
      rw [h1, h2]
      exact ⟨rfl, rfl⟩
theorem rvs_all : ∀ {xs : List D} {us : List V} {b : Bool}, RVs G Lv ρ H xs us → allB xs = some b → ∃ bs : List Bool, us = bs.map V.bl ∧ b = bs.all id
  | [], _, _, .nil, e => by cases e; exact ⟨[], rfl, rfl⟩
  | .bl a :: r, _, _, .cons h t, e => by
    unfold allB at e
    cases q : allB r with
    | none => rw [q] at e; cases e
    | some l =>
      rw [q] at e
      cases e
      cases h
      obtain ⟨bs, h1, h2⟩ := rvs_all t q
      exact ⟨a :: bs, by rw [h1]; rfl, by rw [h2]; rfl⟩
theorem rvs_any : ∀ {xs : List D} {us : List V} {b : Bool}, RVs G Lv ρ H xs us → anyB xs = some b → ∃ bs : List Bool, us = bs.map V.bl ∧ b = bs.any id
  | [], _, _, .nil, e => by cases e; exact ⟨[], rfl, rfl⟩
  | .bl a :: r, _, _, .cons h t, e => by
    unfold anyB at e
    cases q : anyB r with
    | none => rw [q] at e; cases e
    | some l =>
      rw [q] at e
      cases e
      cases h
      obtain ⟨bs, h1, h2⟩ := rvs_any t q
      exact ⟨a :: bs, by rw [h1]; rfl, by rw [h2]; rfl⟩
theorem RVs.of_strs : ∀ ts : List Tx, RVs G Lv ρ H (ts.map D.str) ((ts.map tx).map V.str)
  | [] => .nil
  | t :: r => .cons (.str t) (RVs.of_strs r)
theorem RVs.of_ints : ∀ ts : List Int, RVs G Lv ρ H (ts.map D.int) (ts.map V.int)
  | [] => .nil
  | t :: r => .cons (.int t) (RVs.of_ints r)
theorem rks_strs : ∀ {ks vs : List D} {kus : List (Key × V)} {ts : List Tx}, RKs G Lv ρ H ks vs kus → strsOf ks = some ts → kus.map (·.1) = (ts.map tx).map Sum.inr
  | [], _, _, _, .nil, e => by cases e; rfl
  | .str a :: r, _, _, _, .cons hk h t, e => by
    unfold strsOf at e
    cases q : strsOf r with
    | none => rw [q] at e; cases e
    | some l =>
      rw [q] at e
      cases e
      cases hk
      rw [List.map_cons, rks_strs t q]
      rfl
end
theorem maxL_ge : ∀ (m : Int) (l : List Int), m ≤ maxL m l ∧ (∀ y ∈ l, y ≤ maxL m l) ∧ (maxL m l = m ∨ maxL m l ∈ l)
  | m, [] => ⟨Int.le_refl _, (fun _ h => by cases h), .inl rfl⟩
  | m, x :: r => by
    obtain ⟨h1, h2, h3⟩ := maxL_ge (max m x) r
    unfold maxL
    refine ⟨by omega, fun y hy => ?_, ?_⟩
    · rcases List.mem_cons.mp hy with e | hy
      · omega
      · exact h2 y hy
    · rcases h3 with e | h
      · rw [e]
        by_cases q : x ≤ m
        · exact .inl (by omega)
        · exact .inr (List.mem_cons.mpr (.inl (by omega)))
      · exact .inr (List.mem_cons_of_mem _ h)
theorem minL_le : ∀ (m : Int) (l : List Int), minL m l ≤ m ∧ (∀ y ∈ l, minL m l ≤ y) ∧ (minL m l = m ∨ minL m l ∈ l)
  | m, [] => ⟨Int.le_refl _, (fun _ h => by cases h), .inl rfl⟩
  | m, x :: r => by
    obtain ⟨h1, h2, h3⟩ := minL_le (min m x) r
    unfold minL
    refine ⟨by omega, fun y hy => ?_, ?_⟩
    · rcases List.mem_cons.mp hy with e | hy
      · omega
      · exact h2 y hy
    · rcases h3 with e | h
      · rw [e]
        by_cases q : m ≤ x
        · exact .inl (by omega)
        · exact .inr (List.mem_cons.mpr (.inl (by omega)))
      · exact .inr (List.mem_cons_of_mem _ h)
theorem sumL_eq : ∀ l : List Int, sumL l = l.sum
  | [] => rfl
  | x :: r => by rw [sumL, sumL_eq r, List.sum_cons]
theorem showI_tx (i : Int) : ((toString i : String) : Str) = tx (showI i) := by
  show Str.ofString (toString i) = _
  unfold Str.ofString tx showI
  rw [cpsOfBytes_string]
end DL

set_option maxHeartbeats 1000000
/-! DL 6g: built-in functions and methods -/
namespace DL
open PySem PySem.Spec PyProof.Rows L2

def biV : Bi → Value
  | .len => .builtin "len" | .abs => .builtin "abs" | .max2 => .builtin "max" | .min2 => .builtin "min" | .max1 => .builtin "max" | .min1 => .builtin "min"
  | .all => .builtin "all" | .any => .builtin "any" | .sum => .builtin "sum" | .sorted => .builtin "sorted" | .divmod => .builtin "divmod" | .repr => .builtin "repr"
  | .str => .type "str" | .int => .type "int" | .list => .type "list" | .tuple => .type "tuple" | .set => .type "set" | .dict => .type "dict"
def rdB (G : Gd) (W : List D → Store → QD → Prop) : List V → Hp → VK → Prop := fun us H Q => ∃ S ρ xs P, Sim G S ρ H ∧ RVsl G S ρ H xs us ∧ W xs S P ∧ Fin G S ρ H P Q
theorem rvs_nil {G : Gd} {Lv : Addr → Prop} {ρ : List Addr} {H : Hp} {us : List V} (r : RVs G Lv ρ H [] us) : us = [] := by cases r; rfl
theorem rvs_one {G : Gd} {Lv : Addr → Prop} {ρ : List Addr} {H : Hp} {d : D} {us : List V} (r : RVs G Lv ρ H [d] us) : ∃ u, us = [u] ∧ RV G Lv ρ H d u := by
  cases r with
  | cons h t => cases t; exact ⟨_, rfl, h⟩
theorem rvs_two {G : Gd} {Lv : Addr → Prop} {ρ : List Addr} {H : Hp} {d e : D} {us : List V} (r : RVs G Lv ρ H [d, e] us) : ∃ u v, us = [u, v] ∧ RV G Lv ρ H d u ∧ RV G Lv ρ H e v := by
  cases r with
  | cons h t =>
    obtain ⟨v, rfl, h2⟩ := rvs_one t
    exact ⟨_, _, rfl, h, h2⟩
section
variable {G : Gd} {X : Cx} {k : Nat}
theorem len_okW (hK : X.K = G.K) (fz : Bool) : CallR X (.builtin "len") (rdB G (biW .len fz)) := by
  intro pins s σ H us vs Q I rv h
  obtain ⟨S, ρ, xs, P, sim, r, w, fin⟩ := h
  have seq : ∀ {ds : List D} {a : Addr} {ws : List V}, us = [.ref a] → (SqL X.K H a ws ∨ SqT X.K H a ws) → RVsl G S ρ H ds ws → P (.int ds.length) S → wpAny (model X.prog X.w) X.A (call (.builtin "len") vs) (EP X pins σ Q) X.xe s := fun {ds a ws} e hs rr p => by
    subst e
    refine call_len pins s σ H _ vs Q I rv ⟨.ref a, ws.length, rfl, ?_, ?_⟩
    · rcases hs with h | h
      · exact .inl ⟨ws, h, rfl⟩
      · exact .inr ⟨ws, h, rfl⟩
    · rw [← rr.length]
      exact fin.here sim p (.int _)
  have dct : ∀ {ks ds : List D} {a : Addr} {kus : List (Key × V)}, us = [.ref a] → Rd H a (.dK kus) → RKs G (Live G S ρ) ρ H ks ds kus → P (.int ks.length) S → wpAny (model X.prog X.w) X.A (call (.builtin "len") vs) (EP X pins σ Q) X.xe s := fun {ks ds a kus} e h rr p => by
    subst e
    obtain ⟨u, rfl, ru⟩ := vals1 rv
    cases ru
    refine d_len I h fun t s' I' => ⟨.int kus.length, H, I', ⟨_, rfl⟩, ?_⟩
    rw [← rr.lens.1]
    exact fin.here sim p (.int _)
  simp only [biW, lenW] at w
  split at w <;> try exact w.elim
  · obtain ⟨u, rfl, ru⟩ := rvs_one r
    cases ru
    rename_i z
    refine call_len pins s σ H _ vs Q I rv ⟨.str (tx z), z.length, rfl, ⟨by rw [tx_length, line]; exact w.1, (tx_length z).symm⟩, fin.here sim w.2 (.int _)⟩
  · obtain ⟨u, rfl, ru⟩ := rvs_one r
    cases ru with
    | tup h q => exact seq rfl (.inr (by rw [hK]; exact h.seq)) q w
  · obtain ⟨u, rfl, ru⟩ := rvs_one r
    cases ru with
    | lst h q => exact seq rfl (.inl (SqL.of h.2)) q w
  · obtain ⟨u, rfl, ru⟩ := rvs_one r
    cases ru with
    | klst h q => exact seq rfl (.inl (by rw [hK]; exact h.seq)) q w
  · obtain ⟨u, rfl, ru⟩ := rvs_one r
    cases ru with
    | dct h q => exact dct rfl h.2 q w
  · obtain ⟨u, rfl, ru⟩ := rvs_one r
    split at w
    · rename_i e
      obtain ⟨a, ws, e1, h1, h2, _⟩ := sim.lst_at e ru
      exact seq (by rw [e1]) (.inl (SqL.of h1)) h2 w
    · rename_i e
      obtain ⟨a, ws, e1, h1, h2, _⟩ := sim.dct_at e ru
      exact dct (by rw [e1]) (.inl h1) h2 w
    · exact w.elim
theorem sort_core (hc : X.calm = true) (fz : Bool) {pins : List (Addr × Obj)} {s : Shared} {σ : L2.St} {H : Hp} {xs : List D} {ws : List V} {a : Addr} {vs : List Value} {Q : VK} {S : Store} {ρ : List Addr} {P : QD} (I : Inv X pins σ H s) (rv : Vals [.ref a] vs) (sim : Sim G S ρ H)
    (hs : SqL X.K H a ws) (r : RVsl G S ρ H xs ws) (w : sortW fz xs S P) (fin : Fin G S ρ H P Q) : wpAny (model X.prog X.w) X.A (call (.builtin "sorted") vs) (EP X pins σ Q) X.xe s := by
  unfold sortW at w
  split at w
  · rename_i ts e
    obtain ⟨e1, e2⟩ := rvs_strs r e
    subst e1
    refine cr_sortedS pins s σ H _ vs Q I rv ⟨a, ts.map tx, rfl, hs, by rw [List.length_map]; exact w.1, fun ys p h1 h2 hp => ?_⟩
    rw [sortT_unique h1 h2]
    exact fin.new sim hp (RVs.of_strs _) w.2
  · split at w
    · rename_i is e
      obtain ⟨e1, e2⟩ := rvs_ints r e
      subst e1
      refine cr_sorted pins s σ H _ vs Q I rv ⟨a, is, rfl, hs, w.1, fun ys p h1 h2 hp => ?_⟩
      rw [sortI_unique h1 h2]
      exact fin.new sim hp (RVs.of_ints _) w.2
    · exact w.elim
theorem sorted_okW (hc : X.calm = true) (hK : X.K = G.K) (fz : Bool) : CallR X (.builtin "sorted") (rdB G (biW .sorted fz)) := by
  intro pins s σ H us vs Q I rv h
  obtain ⟨S, ρ, xs, P, sim, r, w, fin⟩ := h
  simp only [biW, sortedW] at w
  split at w <;> try exact w.elim
  obtain ⟨u, rfl, ru⟩ := rvs_one r
  split at w
  · rename_i e
    obtain ⟨a, ws, rfl, h1, h2⟩ := lstOf_at sim e ru
    exact sort_core hc fz I rv sim (SqL.of h1) h2 w fin
  · split at w
    · rename_i ks ds e
      obtain ⟨a, kus, rfl, h1, h2⟩ := dctOf_at sim e ru
      split at w
      · rename_i ts e3
        have e4 := rks_strs h2 e3
        refine call_sortedD hc pins s σ H _ vs Q I rv ⟨a, kus, ts.map tx, rfl, h1, e4, by rw [List.length_map]; exact w.1, fun ys p h3 h4 hp => ?_⟩
        rw [sortT_unique h3 h4]
        exact fin.new sim hp (RVs.of_strs _) w.2
      · exact w.elim
    · exact w.elim
/-- list(d): the keys, of a dict that may be locked -/
theorem call_listK {X : Cx} (hc : X.calm = true) : CallR X (.type "list") (fun us H Q => ∃ p kus, us = [.ref p] ∧ Rd H p (.dK kus) ∧ ∀ l, H l = none → Q (.ref l) (upd H l (.lst (kus.map fun kv => kV kv.1)))) := by
  intro pins s σ H us vs Q I rv h
  obtain ⟨p, kus, rfl, hd, q⟩ := h
  obtain ⟨u, rfl, ru⟩ := vals1 rv
  obtain rfl : u = Value.ref p := ru
  obtain ⟨z, lo, ws, rk, dd⟩ := dk_rd I.hok hd
  obtain ⟨ep, hat⟩ := dd.dictAt
  have hl : kus.length = ws.length := Paired.length rk
  refine PySem.W.kdl_call (PySem.W.kdl_dict (knd := mixKind X.prog X.w) (kvs := ws) (ep := ep) lo) (I.ok.hd hc) hat (by omega) fun h' tk ac c' hk hS ha => ?_
  refine ⟨.ref s.heap.objs.size, _, I.laid hk (Nat.le_refl _) (show ObjOk X.prog X.w _ _ _ (.lst (kus.map fun kv => kV kv.1)) from ⟨by rw [List.length_map]; exact z, ac.toList, c', ?_, by rw [Array.toArray_toList]; exact hS⟩), rfl, q _ (I.hok.fresh (Nat.le_refl _))⟩
  have el : ac.toList.length = ac.size := by simp
  refine vals_of_at (by rw [List.length_map, el, ha.1, hl]) fun j x y h1 h2 => ?_
  obtain ⟨key, v, hkv, hi⟩ := ha.2 j y (by rw [← Array.getElem?_toList]; exact h2)
  have e1 : (kus.map (·.1))[j]? = some key := by rw [KV.keys rk, List.getElem?_map, hkv] <;> rfl
  have e2 : (kus.map fun kv => kV kv.1)[j]? = some (kV key) := by
    rw [show (kus.map fun kv => kV kv.1) = (kus.map (·.1)).map kV by rw [List.map_map] <;> rfl, List.getElem?_map, e1] <;> rfl
  rw [e2] at h1
  cases h1
  exact keyIs_rel hi
theorem keyOf_RV {Lv : Addr → Prop} {ρ : List Addr} {H : Hp} {d : D} {key : Key} (h : keyOf d = some key) : RV G Lv ρ H d (kV key) := by
  rcases keyOf_kV h with ⟨i, rfl, rfl⟩ | ⟨t, rfl, rfl⟩
  · exact .int i
  · exact .str t
theorem rks_keys {Lv : Addr → Prop} {ρ : List Addr} {H : Hp} : ∀ {ks vs : List D} {kus : List (Key × V)}, RKs G Lv ρ H ks vs kus → RVs G Lv ρ H ks (kus.map fun kv => kV kv.1)
  | _, _, _, .nil => .nil
  | _, _, _, .cons hk _ t => .cons (keyOf_RV hk) (rks_keys t)
theorem rks_vals {Lv : Addr → Prop} {ρ : List Addr} {H : Hp} : ∀ {ks vs : List D} {kus : List (Key × V)}, RKs G Lv ρ H ks vs kus → RVs G Lv ρ H vs (kus.map fun kv => kv.2)
  | _, _, _, .nil => .nil
  | _, _, _, .cons _ h t => .cons h (rks_vals t)
/-- a new dict -/
theorem Fin.newD {S : Store} {ρ : List Addr} {H : Hp} {P : QD} {Q : VK} (s : Sim G S ρ H) (f : Fin G S ρ H P Q) {p : Addr} {fz : Bool} {ks vs : List D} {kus : List (Key × V)} (hp : H p = none) (r : RKs G (Live G S ρ) ρ H ks vs kus) (m : mkD fz ks vs S P) : Q (.ref p) (upd H p (.dK kus)) := by
  cases fz with
  | true =>
    have st : Stp G S S ρ ρ H (upd H p (.dK kus)) := Stp.laid s hp
    exact f _ S ρ _ _ m (s.laid hp) st (.dct ⟨s.fresh hp, .inl upd_same⟩ (r.keep st.keep st.pre))
  | false =>
    have st : Stp G S (S ++ [.dct ks vs]) ρ (ρ ++ [p]) H (upd H p (.dK kus)) := Stp.cell s hp
    refine f (.ref S.length) (S ++ [.dct ks vs]) (ρ ++ [p]) (upd H p (.dK kus)) _ (show P (.ref S.length) (S ++ [Cell.dct ks vs]) from m) (Sim.cell (c := .dct ks vs) s hp ⟨kus, upd_same, r.keep st.keep st.pre⟩) st (.ref ?_)
    rw [← s.len, List.getElem?_append_right (Nat.le_refl _)]
    simp
theorem mkPs_ok {S : Store} {ρ : List Addr} {H : Hp} : ∀ {ps : List D} {us : List V} {ks vs ks' vs' : List D} {kus : List (Key × V)}, RVs G (Live G S ρ) ρ H ps us → mkPs ks vs ps = some (ks', vs') → RKs G (Live G S ρ) ρ H ks vs kus →
    ∃ (as : List Addr) (kvs : List (Key × V)), us = as.map V.ref ∧ Paired (fun p kv => SqT G.K H p [kV kv.1, kv.2]) as kvs ∧ RKs G (Live G S ρ) ρ H ks' vs' (mergeK kus kvs)
  | [], _, _, _, _, _, _, .nil, e, r => by
    cases e
    exact ⟨[], [], rfl, .nil, r⟩
  | p :: ps, _, ks, vs, _, _, kus, .cons h t, e, r => by
    unfold mkPs at e
    split at e
    · rename_i heq; cases heq
    · rename_i k v r' heq
      cases heq
      split at e
      · rename_i hk
        obtain ⟨key, ek⟩ := keyOf_keyD hk
        cases h with
        | @tup xs us a hz q =>
          cases q with
          | cons h1 q1 =>
            cases q1 with
            | cons h2 q2 =>
              cases q2
              have e1 := h1.key ek
              subst e1
              obtain ⟨as, kvs, e2, e3, e4⟩ := mkPs_ok t e (RKs.put ek h2 r)
              exact ⟨a :: as, (key, _) :: kvs, by rw [e2]; rfl, .cons hz.seq e3, e4⟩
      · cases e
    · cases e
theorem dict_okW (hc : X.calm = true) (hK : X.K = G.K) (fz : Bool) : CallR X (.type "dict") (rdB G (biW .dict fz)) := by
  intro pins s σ H us vs Q I rv h
  obtain ⟨S, ρ, xs, P, sim, r, w, fin⟩ := h
  simp only [biW, dictW] at w
  split at w <;> try exact w.elim
  obtain ⟨u, rfl, ru⟩ := rvs_one r
  split at w
  · rename_i e
    obtain ⟨a, kus, rfl, h1, h2⟩ := dctOf_at sim e ru
    exact call_dictD pins s σ H _ vs Q I rv ⟨a, kus, rfl, h1, fun p hp => fin.newD sim hp h2 w⟩
  · split at w
    · rename_i e
      obtain ⟨a, ws, rfl, h1, h2⟩ := lstOf_at sim e ru
      split at w
      · rename_i e2
        obtain ⟨as, kvs, rfl, h3, h4⟩ := mkPs_ok h2 e2 .nil
        exact call_dictP hc pins s σ H _ vs Q I rv ⟨a, as, kvs, rfl, SqL.of h1, by rw [hK]; exact h3, fun p hp => fin.newD sim hp h4 w⟩
      · exact w.elim
    · exact w.elim
theorem list_okW (hc : X.calm = true) (fz : Bool) (hK : X.K = G.K) : CallR X (.type "list") (rdB G (biW .list fz)) := by
  intro pins s σ H us vs Q I rv h
  obtain ⟨S, ρ, xs, P, sim, r, w, fin⟩ := h
  simp only [biW, listW] at w
  split at w <;> try exact w.elim
  obtain ⟨u, rfl, ru⟩ := rvs_one r
  split at w
  · rename_i e
    obtain ⟨a, ws, rfl, h1, h2⟩ := seqOf_at sim e ru
    exact call_list_of pins s σ H _ vs Q I rv ⟨a, ws, rfl, by rw [hK]; exact h1, fun l hl => fin.new sim hl h2 w⟩
  · split at w
    · rename_i e
      obtain ⟨a, kus, rfl, h1, h2⟩ := dctOf_at sim e ru
      exact call_listK hc pins s σ H _ vs Q I rv ⟨a, kus, rfl, h1, fun l hl => fin.new sim hl (rks_keys h2) w⟩
    · exact w.elim
theorem tuple_okW (hK : X.K = G.K) (fz : Bool) : CallR X (.type "tuple") (rdB G (biW .tuple fz)) := by
  intro pins s σ H us vs Q I rv h
  obtain ⟨S, ρ, xs, P, sim, r, w, fin⟩ := h
  simp only [biW, tupleW] at w
  split at w <;> try exact w.elim
  obtain ⟨u, rfl, ru⟩ := rvs_one r
  split at w
  · rename_i ds e
    have lst : ∀ {a : Addr} {ws : List V}, u = .ref a → SqL X.K H a ws → RVsl G S ρ H ds ws → wpAny (model X.prog X.w) X.A (call (.type "tuple") vs) (EP X pins σ Q) X.xe s := fun {a ws} e h r2 => by
      subst e
      exact call_tuple_of pins s σ H _ vs Q I rv ⟨a, ws, rfl, .inl ⟨h, fun l hl => fin.newT sim hl r2 w⟩⟩
    unfold seqOf at e
    split at e
    · cases e
      cases ru with
      | tup h q => exact call_tuple_of pins s σ H _ vs Q I rv ⟨_, _, rfl, .inr ⟨by rw [hK]; exact h.seq, fin.here sim w (.tup h q)⟩⟩
    · cases e
      cases ru with
      | klst h q => exact lst rfl (by rw [hK]; exact h.seq) q
    · cases e
      cases ru with
      | lst h q => exact lst rfl (SqL.of h.2) q
    · split at e
      · cases e
        rename_i e
        obtain ⟨a, ws, e1, h1, h2, _⟩ := sim.lst_at e ru
        exact lst e1 (SqL.of h1) h2
      · cases e
    · cases e
  · exact w.elim
theorem ints_okW (hc : X.calm = true) (b : Bi) (fz : Bool) (hb : b = .max1 ∨ b = .min1 ∨ b = .sum ∨ b = .all ∨ b = .any) : CallR X (biV b) (rdB G (biW b fz)) := by
  intro pins s σ H us vs Q I rv h
  obtain ⟨S, ρ, xs, P, sim, r, w, fin⟩ := h
  rcases hb with rfl | rfl | rfl | rfl | rfl
  · simp only [biW, int1W] at w
    split at w <;> try exact w.elim
    obtain ⟨u, rfl, ru⟩ := rvs_one r
    split at w <;> try exact w.elim
    rename_i e
    obtain ⟨a, ws, rfl, h1, h2⟩ := lstOf_at sim e ru
    split at w <;> try exact w.elim
    rename_i i rr e2
    obtain ⟨e3, _⟩ := rvs_ints h2 e2
    subst e3
    refine cr_max hc pins s σ H _ vs Q I rv ⟨a, i :: rr, rfl, SqL.of h1, Nat.succ_pos _, fun m hm hy => ?_⟩
    obtain ⟨g1, g2, g3⟩ := maxL_ge i rr
    have e4 : m = maxL i rr := by
      refine Int.le_antisymm ?_ ?_
      · rcases List.mem_cons.mp hm with e | e
        · omega
        · exact g2 m e
      · rcases g3 with e | e
        · have := hy i List.mem_cons_self
          omega
        · exact hy _ (List.mem_cons_of_mem _ e)
    rw [e4]
    exact fin.here sim w (.int _)
  · simp only [biW, int1W] at w
    split at w <;> try exact w.elim
    obtain ⟨u, rfl, ru⟩ := rvs_one r
    split at w <;> try exact w.elim
    rename_i e
    obtain ⟨a, ws, rfl, h1, h2⟩ := lstOf_at sim e ru
    split at w <;> try exact w.elim
    rename_i i rr e2
    obtain ⟨e3, _⟩ := rvs_ints h2 e2
    subst e3
    refine cr_min hc pins s σ H _ vs Q I rv ⟨a, i :: rr, rfl, SqL.of h1, Nat.succ_pos _, fun m hm hy => ?_⟩
    obtain ⟨g1, g2, g3⟩ := minL_le i rr
    have e4 : m = minL i rr := by
      refine Int.le_antisymm ?_ ?_
      · rcases g3 with e | e
        · have := hy i List.mem_cons_self
          omega
        · exact hy _ (List.mem_cons_of_mem _ e)
      · rcases List.mem_cons.mp hm with e | e
        · omega
        · exact g2 m e
    rw [e4]
    exact fin.here sim w (.int _)
  · simp only [biW, sumW] at w
    split at w <;> try exact w.elim
    obtain ⟨u, rfl, ru⟩ := rvs_one r
    split at w <;> try exact w.elim
    rename_i e
    obtain ⟨a, ws, rfl, h1, h2⟩ := lstOf_at sim e ru
    split at w <;> try exact w.elim
    rename_i rr e2
    obtain ⟨e3, _⟩ := rvs_ints h2 e2
    subst e3
    refine cr_sum hc pins s σ H _ vs Q I rv ⟨a, rr, rfl, SqL.of h1, ?_⟩
    rw [← sumL_eq]
    exact fin.here sim w (.int _)
  · simp only [biW, bolW] at w
    split at w <;> try exact w.elim
    obtain ⟨u, rfl, ru⟩ := rvs_one r
    split at w <;> try exact w.elim
    rename_i e
    obtain ⟨a, ws, rfl, h1, h2⟩ := lstOf_at sim e ru
    split at w <;> try exact w.elim
    rename_i rr e2
    obtain ⟨bs, e3, e4⟩ := rvs_all h2 e2
    subst e3
    refine cr_all hc pins s σ H _ vs Q I rv ⟨a, bs, rfl, SqL.of h1, ?_⟩
    rw [← e4]
    exact fin.here sim w (.bl _)
  · simp only [biW, bolW] at w
    split at w <;> try exact w.elim
    obtain ⟨u, rfl, ru⟩ := rvs_one r
    split at w <;> try exact w.elim
    rename_i e
    obtain ⟨a, ws, rfl, h1, h2⟩ := lstOf_at sim e ru
    split at w <;> try exact w.elim
    rename_i rr e2
    obtain ⟨bs, e3, e4⟩ := rvs_any h2 e2
    subst e3
    refine cr_any hc pins s σ H _ vs Q I rv ⟨a, bs, rfl, SqL.of h1, ?_⟩
    rw [← e4]
    exact fin.here sim w (.bl _)
theorem scal_okW (hc : X.calm = true) (b : Bi) (fz : Bool) (hb : b = .abs ∨ b = .max2 ∨ b = .min2 ∨ b = .str ∨ b = .int ∨ b = .divmod ∨ b = .repr) : CallR X (biV b) (rdB G (biW b fz)) := by
  intro pins s σ H us vs Q I rv h
  obtain ⟨S, ρ, xs, P, sim, r, w, fin⟩ := h
  rcases hb with rfl | rfl | rfl | rfl | rfl | rfl | rfl
  · simp only [biW, absW] at w
    split at w <;> try exact w.elim
    obtain ⟨u, rfl, ru⟩ := rvs_one r
    cases ru
    rename_i i
    refine call_abs pins s σ H _ vs Q I rv ⟨i, rfl, ?_⟩
    have e : (if i < 0 then -i else i) = (i.natAbs : Int) := by split <;> omega
    rw [e]
    exact fin.here sim w (.int _)
  · simp only [biW, int2W] at w
    split at w <;> try exact w.elim
    obtain ⟨u, v, rfl, ru, rv2⟩ := rvs_two r
    cases ru
    cases rv2
    rename_i i j
    refine call_max2 hc pins s σ H _ vs Q I rv ⟨i, j, rfl, ?_⟩
    have e : (if j > i then j else i) = max i j := by split <;> omega
    rw [e]
    exact fin.here sim w (.int _)
  · simp only [biW, int2W] at w
    split at w <;> try exact w.elim
    obtain ⟨u, v, rfl, ru, rv2⟩ := rvs_two r
    cases ru
    cases rv2
    rename_i i j
    refine call_min2 hc pins s σ H _ vs Q I rv ⟨i, j, rfl, ?_⟩
    have e : (if j < i then j else i) = min i j := by split <;> omega
    rw [e]
    exact fin.here sim w (.int _)
  · simp only [biW, strW] at w
    split at w <;> try exact w.elim
    obtain ⟨u, rfl, ru⟩ := rvs_one r
    cases ru
    rename_i i
    refine call_str_int pins s σ H _ vs Q I rv ⟨i, rfl, w.1, ?_⟩
    rw [showI_tx]
    exact fin.here sim w.2 (.str _)
  · simp only [biW, intW] at w
    split at w <;> try exact w.elim
    · obtain ⟨u, rfl, ru⟩ := rvs_one r
      cases ru
      exact call_int1 pins s σ H _ vs Q I rv (.inl ⟨_, rfl, fin.here sim w (.int _)⟩)
    · obtain ⟨u, rfl, ru⟩ := rvs_one r
      cases ru
      exact call_int1 pins s σ H _ vs Q I rv (.inr ⟨_, rfl, fin.here sim w (.int _)⟩)
    · obtain ⟨u, rfl, ru⟩ := rvs_one r
      cases ru
      rename_i z
      obtain ⟨n, w1, w2, w3⟩ := w
      exact call_int_str pins s σ H _ vs Q I rv ⟨tx z, n, rfl, w1, by simpa [tx, Str.length] using w2, fin.here sim w3 (.int _)⟩
  · simp only [biW, dvmW] at w
    split at w <;> try exact w.elim
    obtain ⟨u, v, rfl, ru, rv2⟩ := rvs_two r
    cases ru
    cases rv2
    rename_i i j
    obtain ⟨u', w', rfl, ⟨t, rfl⟩, ⟨t', rfl⟩⟩ := vals2 rv
    refine divmod_int w.1.1 ?_ (.inl (PyProof.noPylong_small w.1.2))
    have hn : H s.heap.objs.size = none := I.hok.fresh (Nat.le_refl _)
    refine ⟨.ref s.heap.objs.size, _, ?_, rfl, fin.newT (us := [.int (i.fdiv j), .int (i.fmod j)]) sim hn (.cons (.int _) (.cons (.int _) .nil)) w.2⟩
    refine I.laid (fun b o e => Heap.get?_push_of_some _ e) (Nat.le_refl _) ⟨by simp only [List.length_cons, List.length_nil]; rw [sizeLine_eq]; decide, [.int (i.fdiv j) s.toks, .int (i.fmod j) (s.toks + 1)], .cons ⟨_, rfl⟩ (.cons ⟨_, rfl⟩ .nil), ?_⟩
    exact ⟨_, Heap.get?_push_size s.heap rfl, rfl, 0, rfl⟩
  · simp only [biW, reprW] at w
    split at w <;> try exact w.elim
    · obtain ⟨u, rfl, ru⟩ := rvs_one r
      cases ru
      rename_i b
      obtain ⟨u, rfl, rfl⟩ := vals1 rv
      refine PySem.P.repr_of_bool ⟨.str _, H, I.tok _, ⟨_, rfl⟩, ?_⟩
      have e : (if b then "True" else "False" : Str) = tx (reprB b) := by cases b <;> rfl
      rw [e]
      exact fin.here sim w (.str _)
    · obtain ⟨u, rfl, ru⟩ := rvs_one r
      cases ru
      rename_i i
      obtain ⟨u, rfl, t, rfl⟩ := vals1 rv
      refine PySem.P.repr_of_int w.1 ⟨.str _, H, I.tok _, ⟨_, rfl⟩, ?_⟩
      rw [showI_tx]
      exact fin.here sim w.2 (.str _)
    · obtain ⟨u, rfl, ru⟩ := rvs_one r
      cases ru
      obtain ⟨u, rfl, rfl⟩ := vals1 rv
      refine PySem.P.repr_of_none ⟨.str _, H, I.tok _, ⟨_, rfl⟩, ?_⟩
      have e : ("None" : Str) = tx [78, 111, 110, 101] := rfl
      rw [e]
      exact fin.here sim w (.str _)
theorem bi_ok (hc : X.calm = true) (hK : X.K = G.K) (b : Bi) (fz : Bool) : CallR X (biV b) (rdB G (biW b fz)) := by
  cases b with
  | len => exact len_okW hK fz
  | abs => exact scal_okW hc .abs fz (by simp)
  | max2 => exact scal_okW hc .max2 fz (by simp)
  | min2 => exact scal_okW hc .min2 fz (by simp)
  | max1 => exact ints_okW hc .max1 fz (by simp)
  | min1 => exact ints_okW hc .min1 fz (by simp)
  | all => exact ints_okW hc .all fz (by simp)
  | any => exact ints_okW hc .any fz (by simp)
  | sum => exact ints_okW hc .sum fz (by simp)
  | sorted => exact sorted_okW hc hK fz
  | str => exact scal_okW hc .str fz (by simp)
  | int => exact scal_okW hc .int fz (by simp)
  | list => exact list_okW hc fz hK
  | dict => exact dict_okW hc hK fz
  | tuple => exact tuple_okW hK fz
  | divmod => exact scal_okW hc .divmod fz (by simp)
  | set =>
    intro pins s σ H us vs Q I rv h
    obtain ⟨S, ρ, xs, P, sim, r, w, fin⟩ := h
    exact w.elim
  | repr => exact scal_okW hc .repr fz (by simp)
end
end DL

set_option maxHeartbeats 1000000
/-! DL 6h: built-in methods -/
namespace DL
open PySem PySem.Spec PyProof.Rows L2

def bmId : Bm → String
  | .append => "list.append" | .extend => "list.extend" | .insert => "list.insert" | .pop0 => "list.pop" | .clear => "list.clear" | .reverse => "list.reverse"
  | .join => "str.join" | .startswith => "str.startswith" | .get1 => "dict.get" | .get2 => "dict.get" | .pop1 => "list.pop" | .dclear => "dict.clear" | .count => "list.count" | .index => "list.index" | .update => "dict.update" | _ => ""
def bmN : Bm → Str
  | .append => "append" | .extend => "extend" | .insert => "insert" | .pop0 => "pop" | .clear => "clear" | .reverse => "reverse"
  | .join => "join" | .startswith => "startswith" | .get1 => "get" | .get2 => "get" | .pop1 => "pop" | .dclear => "clear" | .count => "count" | .index => "index" | .update => "update" | _ => ""
def bmT : Bm → String
  | .append => "list" | .extend => "list" | .insert => "list" | .pop0 => "list" | .clear => "list" | .reverse => "list"
  | .join => "str" | .startswith => "str" | .get1 => "dict" | .get2 => "dict" | .pop1 => "list" | .dclear => "dict" | .count => "list" | .index => "list" | .update => "dict" | _ => ""
def rdM (G : Gd) (W : D → List D → Store → QD → Prop) : V → List V → Hp → VK → Prop := fun x us H Q => ∃ S ρ d xs P, Sim G S ρ H ∧ RVl G S ρ H d x ∧ RVsl G S ρ H xs us ∧ W d xs S P ∧ Fin G S ρ H P Q
section
variable {G : Gd} {X : Cx} {k : Nat} {S : Store} {ρ : List Addr} {H : Hp} {P : QD} {Q : VK}
/-- a list's cell written by a method -/
theorem Fin.put (sim : Sim G S ρ H) (fin : Fin G S ρ H P Q) {n : Nat} {a : Addr} {xs ys : List D} {ws : List V} {r : V} {d : D} (hn : S[n]? = some (.lst xs)) (ha : ρ[n]? = some a)
    (r1 : RVsl G S ρ H ys ws) (rd : RVl G S ρ H d r) (p : P d (S.set n (.lst ys))) : Q r (upd H a (.lst ws)) := by
  have st : Stp G S (S.set n (.lst ys)) ρ ρ H (upd H a (.lst ws)) := Stp.write sim ha hn (by simp)
  exact fin d _ ρ _ r p (sim.write ha hn (by simp) ⟨ws, upd_same, st.rvs r1⟩) st (st.rv rd)
theorem lcW1_at (sim : Sim G S ρ H) {d : D} {u : V} {R : Nat → List D → Prop} (w : lcW1 d S R) (h : RVl G S ρ H d u) : ∃ n xs a us, S[n]? = some (.lst xs) ∧ ρ[n]? = some a ∧ u = .ref a ∧ H a = some (.lst us) ∧ RVsl G S ρ H xs us ∧ R n xs := by
  unfold lcW1 at w
  split at w
  · split at w
    · rename_i e
      obtain ⟨a, us, e1, h1, h2, h3⟩ := sim.lst_at e h
      exact ⟨_, _, a, us, e, h3, e1, h1, h2, w⟩
    · exact w.elim
  · exact w.elim
theorem append_ok : MtR X "list.append" (rdM G appendW) := by
  intro pins s σ H x xs v us Q I rx rs h
  obtain ⟨S, ρ, d, es, P, sim, r1, r2, w, fin⟩ := h
  unfold appendW at w
  split at w <;> try exact w.elim
  obtain ⟨u, rfl, ru⟩ := rvs_one r2
  obtain ⟨n, ys, a, ws, hn, ha, rfl, h1, h2, w1, w2⟩ := lcW1_at sim w r1
  exact mt_append pins s σ H _ _ v us Q I rx rs ⟨a, ws, u, rfl, rfl, h1, by rw [← h2.length, line]; exact w1, fin.put sim hn ha (h2.append (.cons ru .nil)) .non w2⟩
theorem extend_ok : MtR X "list.extend" (rdM G extendW) := by
  intro pins s σ H x xs v us Q I rx rs h
  obtain ⟨S, ρ, d, es, P, sim, r1, r2, w, fin⟩ := h
  unfold extendW at w
  split at w <;> try exact w.elim
  obtain ⟨u, rfl, ru⟩ := rvs_one r2
  obtain ⟨n, ys, a, ws, hn, ha, rfl, h1, h2, w⟩ := lcW1_at sim w r1
  split at w <;> try exact w.elim
  rename_i e
  obtain ⟨b, zs, rfl, g1, g2⟩ := lstOf_at sim e ru
  exact mt_extend pins s σ H _ _ v us Q I rx rs ⟨a, b, ws, zs, rfl, rfl, h1, g1, by rw [← h2.length, ← g2.length, line]; exact w.1, fin.put sim hn ha (h2.append g2) .non w.2⟩
theorem insert_ok : MtR X "list.insert" (rdM G insertW) := by
  intro pins s σ H x xs v us Q I rx rs h
  obtain ⟨S, ρ, d, es, P, sim, r1, r2, w, fin⟩ := h
  unfold insertW at w
  split at w <;> try exact w.elim
  obtain ⟨u, u2, rfl, ru, ru2⟩ := rvs_two r2
  cases ru
  obtain ⟨n, ys, a, ws, hn, ha, rfl, h1, h2, w⟩ := lcW1_at sim w r1
  exact mt_insert pins s σ H _ _ v us Q I rx rs ⟨a, ws, _, u2, rfl, rfl, h1, by rw [← h2.length, line]; exact w.1.1, w.1.2.1, w.1.2.2, fin.put sim hn ha (((h2.take _).append (.cons ru2 .nil)).append (h2.drop _)) .non w.2⟩
theorem RVs.dropLast {Lv : Addr → Prop} {ds : List D} {us : List V} (r : RVs G Lv ρ H ds us) : RVs G Lv ρ H ds.dropLast us.dropLast := by
  rw [List.dropLast_eq_take, List.dropLast_eq_take, r.length]
  exact r.take _
theorem pop_ok : MtR X "list.pop" (rdM G popW) := by
  intro pins s σ H x xs v us Q I rx rs h
  obtain ⟨S, ρ, d, es, P, sim, r1, r2, w, fin⟩ := h
  unfold popW at w
  split at w <;> try exact w.elim
  have := rvs_nil r2
  subst this
  obtain ⟨n, ys, a, ws, hn, ha, rfl, h1, h2, w⟩ := lcW1_at sim w r1
  obtain ⟨z, e, w⟩ := w
  rw [List.getLast?_eq_getElem?] at e
  obtain ⟨u, g1, g2⟩ := h2.get e
  exact mt_pop pins s σ H _ _ v us Q I rx rs ⟨a, ws, u, rfl, rfl, h1, by rw [← h2.length]; exact g1, fin.put sim hn ha h2.dropLast g2 w⟩
theorem clear_ok : MtR X "list.clear" (rdM G clearW) := by
  intro pins s σ H x xs v us Q I rx rs h
  obtain ⟨S, ρ, d, es, P, sim, r1, r2, w, fin⟩ := h
  unfold clearW at w
  split at w <;> try exact w.elim
  have := rvs_nil r2
  subst this
  obtain ⟨n, ys, a, ws, hn, ha, rfl, h1, h2, w⟩ := lcW1_at sim w r1
  exact mt_clear pins s σ H _ _ v us Q I rx rs ⟨a, ws, rfl, rfl, h1, fin.put sim hn ha .nil .non w⟩
theorem reverse_ok : MtR X "list.reverse" (rdM G reverseW) := by
  intro pins s σ H x xs v us Q I rx rs h
  obtain ⟨S, ρ, d, es, P, sim, r1, r2, w, fin⟩ := h
  unfold reverseW at w
  split at w <;> try exact w.elim
  have := rvs_nil r2
  subst this
  obtain ⟨n, ys, a, ws, hn, ha, rfl, h1, h2, w⟩ := lcW1_at sim w r1
  exact mt_reverse pins s σ H _ _ v us Q I rx rs ⟨a, ws, rfl, rfl, h1, fin.put sim hn ha h2.reverse .non w⟩
theorem joinT_eq (a : Tx) : ∀ ts : List Tx, Txt.join (tx a) (ts.map tx) = tx (joinT a ts)
  | [] => by show Builtin.Str.glued _ _ = _; rw [StrLaws.glued_eq_join]; rfl
  | [x] => by show Builtin.Str.glued _ _ = _; rw [StrLaws.glued_eq_join]; rfl
  | x :: y :: r => by
    have h : Builtin.Str.glued (tx a) ((y :: r).map tx) = tx (joinT a (y :: r)) := joinT_eq a (y :: r)
    rw [StrLaws.glued_eq_join] at h
    show Builtin.Str.glued _ _ = _
    rw [StrLaws.glued_eq_join]
    show tx x ++ tx a ++ Str.join (tx a) ((y :: r).map tx) = _
    rw [h, tx_append, tx_append]
    rfl
theorem lens_eq : ∀ ts : List Tx, ((ts.map tx).map (·.length)).sum = lens ts
  | [] => rfl
  | x :: r => by
    show (tx x).length + ((r.map tx).map (·.length)).sum = x.length + lens r
    rw [lens_eq r, tx_length]
theorem join_ok (hK : X.K = G.K) : MtR X "str.join" (rdM G joinW) := by
  intro pins s σ H x xs v us Q I rx rs h
  obtain ⟨S, ρ, d, es, P, sim, r1, r2, w, fin⟩ := h
  unfold joinW at w
  split at w <;> try exact w.elim
  obtain ⟨u, rfl, ru⟩ := rvs_one r2
  cases r1
  split at w <;> try exact w.elim
  rename_i e
  split at w <;> try exact w.elim
  rename_i ts e2
  obtain ⟨p, ws, rfl, h1, h2⟩ := seqOf_at sim e ru
  obtain ⟨e3, _⟩ := rvs_strs h2 e2
  subst e3
  refine mt_join pins s σ H _ _ v us Q I rx rs ⟨_, p, ts.map tx, rfl, rfl, by rw [hK]; exact h1, ?_, ?_⟩
  · rw [lens_eq, List.length_map, tx_length]; exact w.1
  · rw [joinT_eq]
    exact fin.here sim w.2 (.str _)
theorem preT_eq : ∀ a b : Tx, preT a b = (b.take a.length == a)
  | [], b => rfl
  | _ :: _, [] => rfl
  | x :: r, y :: t => by
    unfold preT
    show _ = (y :: t.take r.length == x :: r)
    rw [List.cons_beq_cons, ← preT_eq r t]
    cases h : Nat.beq x y with
    | true =>
      have := Nat.eq_of_beq_eq_true h
      subst this
      simp
    | false =>
      have : ¬ (y = x) := fun e => by subst e; simp [Nat.beq_refl] at h
      simp [this]
theorem starts_ok : MtR X "str.startswith" (rdM G startsW) := by
  intro pins s σ H x xs v us Q I rx rs h
  obtain ⟨S, ρ, d, es, P, sim, r1, r2, w, fin⟩ := h
  unfold startsW at w
  split at w <;> try exact w.elim
  rename_i a b
  obtain ⟨u, rfl, ru⟩ := rvs_one r2
  cases r1
  cases ru
  refine mt_startswith pins s σ H _ _ v us Q I rx rs ⟨_, _, rfl, rfl, ?_⟩
  have e : Txt.startswith (tx a) (tx b) = preT b a := by
    unfold Txt.startswith
    rw [StrLaws.subAt_eq, preT_eq, tx_length, tx_length]
    show (decide (0 + b.length ≤ a.length) && ((a.toArray.toList.drop 0).take b.toArray.size == b.toArray.toList)) = _
    simp only [List.size_toArray, List.drop_zero]
    cases h : (List.take b.length a == b) with
    | false => simp
    | true =>
      have q := congrArg List.length (eq_of_beq h)
      rw [List.length_take] at q
      simp
      omega
  rw [e]
  exact fin.here sim w (.bl _)
theorem dict_at (sim : Sim G S ρ H) {d kx : D} {ks vs : List D} {u v : V} (e : dctOf S d = some (ks, vs)) (hk : keyD kx = true) (h : RVl G S ρ H d u) (h2 : RVl G S ρ H kx v) :
    ∃ a o, u = .ref a ∧ DGet H a v o ∧ (∀ x y, RVl G S ρ H x y → RVl G S ρ H ((dget ks vs kx).getD x) (o.getD y)) := by
  obtain ⟨a, kus, rfl, h3, h4⟩ := dctOf_at sim e h
  obtain ⟨key, ek⟩ := keyOf_keyD hk
  have ev := RV.key ek h2
  subst ev
  refine ⟨a, valV kus key, rfl, (.inl ⟨kus, key, h3, rfl, rfl⟩), fun x y r => ?_⟩
  have z := RKs.val ek h4
  rcases z with ⟨d1, v1, e1, e2, e3⟩ | ⟨e1, e2⟩
  · rw [e1, e2]; exact e3
  · rw [e1, e2]; exact r
theorem get1_ok (hr : Room k X.A) : MtR X "dict.get" (rdM G getW) := by
  intro pins s σ H x xs v us Q I rx rs h
  obtain ⟨S, ρ, d, es, P, sim, r1, r2, w, fin⟩ := h
  unfold getW at w
  split at w <;> try exact w.elim
  split at w <;> try exact w.elim
  obtain ⟨u, rfl, ru⟩ := rvs_one r2
  rename_i e
  obtain ⟨a, o, rfl, g, q⟩ := dict_at sim e w.1 r1 ru
  obtain ⟨u', rfl, rw'⟩ := vals1 rs
  cases (show v = Value.ref a from rx)
  exact d_get1 (by have := un160 hr; omega) I g rw' fun w' s' I' r' => ⟨_, H, I', r', fin.here sim w.2 (q _ _ .non)⟩
theorem get2_ok (hr : Room k X.A) : MtR X "dict.get" (rdM G get2W) := by
  intro pins s σ H x xs v us Q I rx rs h
  obtain ⟨S, ρ, d, es, P, sim, r1, r2, w, fin⟩ := h
  unfold get2W at w
  split at w <;> try exact w.elim
  split at w <;> try exact w.elim
  obtain ⟨u, u2, rfl, ru, ru2⟩ := rvs_two r2
  rename_i e
  obtain ⟨a, o, rfl, g, q⟩ := dict_at sim e w.1 r1 ru
  obtain ⟨u', u2', rfl, rw', rw2⟩ := vals2 rs
  cases (show v = Value.ref a from rx)
  exact d_get2 (by have := un160 hr; omega) I g rw' rw2 fun w' s' I' r' => ⟨_, H, I', r', fin.here sim w.2 (q _ _ ru2)⟩
theorem popAt_ok : MtR X "list.pop" (rdM G popAtW) := by
  intro pins s σ H x xs v us Q I rx rs h
  obtain ⟨S, ρ, d, es, P, sim, r1, r2, w, fin⟩ := h
  unfold popAtW at w
  split at w <;> try exact w.elim
  rename_i i
  obtain ⟨u, rfl, ru⟩ := rvs_one r2
  cases ru
  obtain ⟨n, ys, a, ws, hn, ha, rfl, h1, h2, w⟩ := lcW1_at sim w r1
  obtain ⟨⟨w1, w2⟩, z, e, w⟩ := w
  obtain ⟨u, g1, g2⟩ := h2.get e
  have hlt := (List.getElem?_eq_some_iff.mp e).1
  have hlen := h2.length
  refine mt_popAt pins s σ H _ _ v us Q I rx rs ⟨a, ws, i, i.toNat, u, rfl, rfl, h1, by omega, by omega, ?_, g1, fin.put sim hn ha (h2.erase i.toNat) g2 w⟩
  unfold seqIndex?
  have q : (0 ≤ (if i < 0 then i + ws.length else i) && (if i < 0 then i + ws.length else i) < ws.length) = true := by
    rw [if_neg (by omega)]
    simp
    omega
  simp only [q, if_true]
  rw [if_neg (by omega)]
theorem dclear_ok : MtR X "dict.clear" (rdM G dclearW) := by
  intro pins s σ H x xs v us Q I rx rs h
  obtain ⟨S, ρ, d, es, P, sim, r1, r2, w, fin⟩ := h
  unfold dclearW at w
  split at w <;> try exact w.elim
  split at w <;> try exact w.elim
  rename_i n _ _ _ e
  have := rvs_nil r2
  subst this
  obtain ⟨a, kus, rfl, h1, h2, ha⟩ := sim.dct_at e r1
  have st : Stp G S (S.set n (.dct [] [])) ρ ρ H (upd H a (.dK [])) := Stp.write sim ha e (by simp)
  exact mtd_clear pins s σ H _ _ v us Q I rx rs ⟨a, kus, rfl, rfl, h1, fin .non _ ρ _ _ w (sim.write ha e (by simp) ⟨[], upd_same, .nil⟩) st .non⟩
theorem rvs_bls : ∀ {xs : List D} {us : List V} {ts : List Bool}, RVsl G S ρ H xs us → blsOf xs = some ts → us = ts.map V.bl
  | [], _, _, .nil, e => by cases e; rfl
  | .bl a :: r, _, _, .cons h t, e => by
    unfold blsOf at e
    cases q : blsOf r with
    | none => rw [q] at e; cases e
    | some l =>
      rw [q] at e
      cases e
      cases h
      rw [rvs_bls t q]
      rfl
theorem countB_ok (hK : X.K = G.K) : MtR X "list.count" (rdM G countW) := by
  intro pins s σ H x xs v us Q I rx rs h
  obtain ⟨S, ρ, d, es, P, sim, r1, r2, w, fin⟩ := h
  unfold countW at w
  split at w <;> try exact w.elim
  rename_i b
  obtain ⟨u, rfl, ru⟩ := rvs_one r2
  cases ru
  split at w <;> try exact w.elim
  rename_i ys e
  obtain ⟨a, ws, rfl, h1, h2⟩ := lstOf_at sim e r1
  split at w <;> try exact w.elim
  rename_i bs e2
  have := rvs_bls h2 e2
  subst this
  exact mt_countB pins s σ H _ _ v us Q I rx rs ⟨a, bs, b, rfl, rfl, SqL.of h1, fin.here sim w (.int _)⟩
theorem indexB_ok (hK : X.K = G.K) : MtR X "list.index" (rdM G indexW) := by
  intro pins s σ H x xs v us Q I rx rs h
  obtain ⟨S, ρ, d, es, P, sim, r1, r2, w, fin⟩ := h
  unfold indexW at w
  split at w <;> try exact w.elim
  rename_i b
  obtain ⟨u, rfl, ru⟩ := rvs_one r2
  cases ru
  split at w <;> try exact w.elim
  rename_i ys e
  obtain ⟨a, ws, rfl, h1, h2⟩ := lstOf_at sim e r1
  split at w <;> try exact w.elim
  rename_i bs e2
  have := rvs_bls h2 e2
  subst this
  obtain ⟨j, hj, p⟩ := w
  exact mt_indexB pins s σ H _ _ v us Q I rx rs ⟨a, bs, b, j, rfl, rfl, SqL.of h1, hj, fin.here sim p (.int _)⟩
/-- d.update(d2) -/
theorem mtd_update : MtR X "dict.update" (fun x us H Q => ∃ (a b : Addr) (kus kus2 : List (Key × V)), x = .ref a ∧ us = [.ref b] ∧ a ≠ b ∧ H a = some (.dK kus) ∧ Rd H b (.dK kus2) ∧ kus.length + kus2.length ≤ sizeLine ∧ Q .non (upd H a (.dK (mergeK kus kus2)))) := by
  intro pins s σ H x xs v us Q I rx rs h
  obtain ⟨a, b, kus, kus2, rfl, rfl, ne, ha, hb, sz, q⟩ := h
  obtain rfl : v = Value.ref a := rx
  obtain ⟨u, rfl, ru⟩ := vals1 rs
  obtain rfl : u = Value.ref b := ru
  obtain ⟨z, hd, vs, rel, dd⟩ := dk_of I.hok ha
  obtain ⟨z2, hd2, vs2, rel2, dd2⟩ := dk_rd I.hok hb
  refine call_meetsIn PySem.F.slot_dict_update dd.typeIs PySem.F.entry_dict_update (PySem.F.args_dict_update_2 _ _) (meets_dict_update (mixKind X.prog X.w) a b ne hd2) ⟨vs, vs2, dd, dd2, by rw [← rel.length, ← rel2.length]; exact sz, fun h' dd' _ hs => ⟨.non, _, ?_, rfl, q⟩⟩
  have he : ∃ q, h'.get? a = some q := let ⟨q, _, _, hq, _⟩ := dd'; ⟨q, hq⟩
  exact d_write (t' := s.toks) I (by rw [ha]; exact True.intro) hs he (dk_new (Nat.le_trans (length_mergeK kus2 kus) sz) hd (rel2.merge rel) dd')
theorem RKs.merge {Lv : Addr → Prop} : ∀ {ks2 vs2 : List D} {kus2 : List (Key × V)} {ks vs : List D} {kus : List (Key × V)}, RKs G Lv ρ H ks2 vs2 kus2 → RKs G Lv ρ H ks vs kus → RKs G Lv ρ H (mrgD ks vs ks2 vs2).1 (mrgD ks vs ks2 vs2).2 (mergeK kus kus2)
  | _, _, _, _, _, _, .nil, r => r
  | _, _, _, ks, vs, kus, .cons (k := k) (v := v) (k' := k') (u := u) (kus := kus2) hk h t, r => RKs.merge (ks := dputK ks k) (vs := dputV ks vs k v) (kus := putK kus k' u) (kus2 := kus2) t (RKs.put hk h r)
theorem RKs.length1 {Lv : Addr → Prop} : ∀ {ks vs : List D} {kus : List (Key × V)}, RKs G Lv ρ H ks vs kus → ks.length = kus.length
  | _, _, _, .nil => rfl
  | _, _, _, .cons _ _ t => by rw [List.length_cons, List.length_cons, t.length1]
theorem update_ok : MtR X "dict.update" (rdM G updateW) := by
  intro pins s σ H x xs v us Q I rx rs h
  obtain ⟨S, ρ, d, es, P, sim, r1, r2, w, fin⟩ := h
  unfold updateW at w
  split at w <;> try exact w.elim
  rename_i n y
  split at w <;> try exact w.elim
  rename_i ks vs e
  split at w <;> try exact w.elim
  rename_i ks2 vs2 e2
  obtain ⟨u, rfl, ru⟩ := rvs_one r2
  obtain ⟨a, kus, rfl, h1, h2, ha⟩ := sim.dct_at e r1
  obtain ⟨b, kus2, rfl, g1, g2⟩ := dctOf_at sim e2 ru
  have ne : a ≠ b := fun z => by
    subst z
    have w1 := w.1.1
    cases y with
    | ref m =>
      cases ru with
      | ref hm =>
        have w1 : (!Nat.beq m n) = true := w1
        have e3 : (match S[m]? with | some (.dct ks vs) => some (ks, vs) | _ => none) = some (ks2, vs2) := e2
        have : ∃ c, S[m]? = some c ∧ c ≠ .dead := by
          split at e3
          · rename_i e4; exact ⟨_, e4, by simp⟩
          · cases e3
        obtain ⟨c, hc, nd⟩ := this
        have := sim.inj n m a _ c ha hm e (by simp) hc nd
        rw [this, Nat.beq_refl] at w1
        cases w1
    | dct =>
      cases ru with
      | dct hd _ => exact hd.1 (.inr ⟨n, _, ha, e, by simp⟩)
    | _ => cases e2
  have st : Stp G S (S.set n (.dct (mrgD ks vs ks2 vs2).1 (mrgD ks vs ks2 vs2).2)) ρ ρ H (upd H a (.dK (mergeK kus kus2))) := Stp.write sim ha e (by simp)
  have rm := RKs.merge g2 h2
  refine mtd_update pins s σ H _ _ v us Q I rx rs ⟨a, b, kus, kus2, rfl, rfl, ne, h1, g1, ?_, fin .non _ ρ _ _ w.2 (sim.write ha e (by simp) ⟨_, upd_same, rm.keep st.keep st.pre⟩) st .non⟩
  rw [← h2.length1, ← g2.length1, line]
  exact w.1.2
/-- the methods that are known -/
def bmOn : Bm → Bool
  | .append => true | .extend => true | .insert => true | .pop0 => true | .clear => true | .reverse => true
  | .join => true | .startswith => true | .get1 => true | .get2 => true | .pop1 => true | .dclear => true | .count => true | .index => true | .update => true | _ => false
theorem bm_ok (hK : X.K = G.K) (hr : Room k X.A) (m : Bm) (fz : Bool) (hm : bmOn m = true) : MtR X (bmId m) (rdM G (bmW m fz)) := by
  cases m <;> first
    | exact append_ok
    | exact extend_ok
    | exact insert_ok
    | exact pop_ok
    | exact popAt_ok
    | exact dclear_ok
    | exact clear_ok
    | exact reverse_ok
    | exact join_ok hK
    | exact starts_ok
    | exact get1_ok hr
    | exact get2_ok hr
    | exact countB_ok hK
    | exact indexB_ok hK
    | exact update_ok
    | exact absurd hm Bool.false_ne_true
theorem bm_facts (m : Bm) (hm : bmOn m = true) : PlainAttrs (bmT m) ∧ Slot (bmT m) (bmN m) (bmId m) ∧ typeOf (.builtin (bmId m)) = pure (.type "method_descriptor") := by
  cases m <;> first
    | exact absurd hm Bool.false_ne_true
    | exact ⟨F.plainAttrs_list, F.slot_list_append, F.type_list_append⟩
    | exact ⟨F.plainAttrs_list, F.slot_list_extend, F.type_list_extend⟩
    | exact ⟨F.plainAttrs_list, F.slot_list_insert, F.type_list_insert⟩
    | exact ⟨F.plainAttrs_list, F.slot_list_pop, F.type_list_pop⟩
    | exact ⟨F.plainAttrs_list, F.slot_list_clear, F.type_list_clear⟩
    | exact ⟨F.plainAttrs_list, F.slot_list_reverse, F.type_list_reverse⟩
    | exact ⟨F.plainAttrs_str, F.slot_str_join, F.type_str_join⟩
    | exact ⟨F.plainAttrs_str, F.slot_str_startswith, F.type_str_startswith⟩
    | exact ⟨F.plainAttrs_dict, F.slot_dict_get, F.type_dict_get⟩
    | exact ⟨F.plainAttrs_dict, F.slot_dict_clear, F.type_dict_clear⟩
    | exact ⟨F.plainAttrs_list, F.slot_list_count, F.type_list_count⟩
    | exact ⟨F.plainAttrs_list, F.slot_list_index, F.type_list_index⟩
    | exact ⟨F.plainAttrs_dict, F.slot_dict_update, F.type_dict_update⟩
/-- .. or a dict that may be locked -/
def tyW (K : PySem.W.Frag) (T : String) (x : V) (H : Hp) : Prop := tyV K T x H ∨ (T = "dict" ∧ ∃ p kus, x = .ref p ∧ Rd H p (.dK kus))
theorem tyW_is {X : Cx} {pins : List (Addr × Obj)} {σ : L2.St} {H : Hp} {s : Shared} {T : String} {x : V} {v : Value} (I : Inv X pins σ H s) (r : RelV x v) (h : tyW X.K T x H) :
    s.TypeIs v T ∧ ∀ a, v = .ref a → ∃ ob, s.heap.get? a = some ob ∧ ob.dict = none := by
  rcases h with h | ⟨rfl, p, kus, rfl, h⟩
  · exact tyV_is I r h
  · cases (show v = Value.ref p from r)
    obtain ⟨h1, h2, _⟩ := isD_at I (.inl ⟨kus, h⟩)
    exact ⟨h1, h2⟩
def tM0 (K : PySem.W.Frag) (T : String) (r : V → List V → Hp → VK → Prop) (to : TE) : TE := fun σ H Q => to σ H fun x H1 => tyW K T x H1 ∧ r x [] H1 Q
def tM1 (K : PySem.W.Frag) (T : String) (r : V → List V → Hp → VK → Prop) (to : TE) (t : TA) : TE := fun σ H Q => to σ H fun x H1 => tyW K T x H1 ∧ t σ H1 fun xs H2 => r x xs H2 Q
section
variable {X : Cx} {o e : Expr} {es : List Expr} {to : TE} {t : TA} {name : Str} {apos cpos : Pos} {T id : String} {r : V → List V → Hp → VK → Prop}
theorem pe_m0 (pa : PlainAttrs T) (sl : Slot T name id) (hty : typeOf (.builtin id) = pure (.type "method_descriptor")) (hm : MtR X id r) (ho : PE X o to)
    (h1 : attributeBase o name X.env (eval o X.env) = eval o X.env) (h2 : (apos.endLine == cpos.line) = true) : PE X (.Call (.Attribute o name apos) [] [] cpos) (tM0 X.K T r to) := by
  refine ⟨fun pins s σ H Q I q => wpAny_Call_method0_late h1 h2 (thn (ho.run pins s σ H _ I q) fun v s1 z => ?_)⟩
  obtain ⟨x, H1, I1, r1, ty, q1⟩ := z
  have z := tyW_is I1 r1 ty
  exact ⟨T, id, pa, sl, hty, z.1, z.2, Calls.callWith_builtin rfl (PySem.evalArgs_none (hm pins s1 σ H1 x [] v [] Q I1 r1 .nil q1))⟩
theorem pe_m1 (pa : PlainAttrs T) (sl : Slot T name id) (hty : typeOf (.builtin id) = pure (.type "method_descriptor")) (hm : MtR X id r) (ho : PE X o to) (ha : PA X (e :: es) t)
    (h1 : attributeBase o name X.env (eval o X.env) = eval o X.env)
    (h3 : ((backTo cpos (starEach (e :: es) X.env)).all (fun x => !x.1) && (backToKw cpos (keywordEach [] X.env)).all (fun x => x.1.isSome) && decide ((e :: es).length + ([] : List Keyword).length + (if ([] : List Keyword).isEmpty then 0 else 1) < 30)) = true)
    (h2 : (apos.endLine == cpos.line) = true) (hs : starEach (e :: es) X.env = (false, eval e X.env) :: starEach es X.env) (hp : (backTo cpos (starEach es X.env)).any (·.1) = false) :
    PE X (.Call (.Attribute o name apos) (e :: es) [] cpos) (tM1 X.K T r to t) := by
  refine ⟨fun pins s σ H Q I q => wpAny_Call_method_late h1 h3 h2 rfl (thn (ho.run pins s σ H _ I q) fun v s1 z => ?_)⟩
  obtain ⟨x, H1, I1, r1, ty, q1⟩ := z
  have z := tyW_is I1 r1 ty
  refine ⟨T, id, pa, sl, hty, z.1, z.2, ?_⟩
  have hA := ha.run cpos pins s1 σ H1 _ I1 q1
  rw [hs] at hA ⊢
  refine Calls.callWith_builtin (by show (false || ((backTo cpos (starEach es X.env)).any fun z => z.1)) = false; rw [hp]; rfl) (Calls.evalArgs_plain (thn hA fun us s2 y => ?_))
  obtain ⟨vs, H2, I2, r2, q2⟩ := y
  exact hm pins s2 σ H2 x vs v us Q I2 r1 r2 q2
end
theorem rcv_ty (hK : X.K = G.K) (sim : Sim G S ρ H) {m : Bm} (hm : bmOn m = true) {d : D} {u : V} (h : RVl G S ρ H d u) (e : rcvB m d S = true) : tyW X.K (bmT m) u H := by
  have lst : (match lstOf S d with | some _ => true | none => false) = true → tyV X.K "list" u H := fun e => by
    split at e
    · rename_i e1
      obtain ⟨a, us, rfl, h1, _⟩ := lstOf_at sim e1 h
      exact .inl ⟨rfl, us, SqL.of h1⟩
    · cases e
  have str : isStrD d = true → tyV X.K "str" u H := fun e => by
    cases d <;> first
      | exact absurd e Bool.false_ne_true
      | (cases h; rfl)
  have dct : (match dctOf S d with | some _ => true | none => false) = true → tyW X.K "dict" u H := fun e => by
    split at e
    · rename_i p e1
      obtain ⟨a, kus, rfl, h1, _⟩ := dctOf_at sim e1 h
      exact .inr ⟨rfl, a, kus, rfl, h1⟩
    · cases e
  cases m <;> first
    | exact absurd hm Bool.false_ne_true
    | exact .inl (lst e)
    | exact .inl (str e)
    | exact dct e
end
end DL

set_option maxHeartbeats 1000000
/-! DL 6i: ghost steps: cells frozen, cells forgotten -/
namespace DL
open PySem PySem.Spec PyProof.Rows L2

section
variable {G : Gd} {Lv : Addr → Prop} {S S1 S2 : Store} {ρ ρ1 : List Addr} {H H1 : Hp}
mutual
theorem RV.sb {n : Nat} {x : D} (hx : ∀ a, ρ[n]? = some a → RV G Lv ρ H x (.ref a)) : ∀ {d : D} {u : V}, RV G Lv ρ H d u → RV G Lv ρ H (sbD n x d) u
  | _, _, .non => .non
  | _, _, .bl b => .bl b
  | _, _, .int i => .int i
  | _, _, .str s => .str s
  | _, _, .tup h r => .tup h (RVs.sb hx r)
  | _, _, .lst h r => .lst h (RVs.sb hx r)
  | _, _, .klst h r => .klst h (RVs.sb hx r)
  | _, _, .dct h r => .dct h (RKs.sb hx r)
  | _, _, .ins h c r => .ins h c (RFs.sb hx r)
  | _, _, .ref (n := m) h => by
    unfold sbD
    split
    · rename_i e
      have := Nat.eq_of_beq_eq_true e
      subst this
      exact hx _ h
    · exact .ref h
  | _, _, .pin h r => .pin h (RV.sb hx r)
theorem RVs.sb {n : Nat} {x : D} (hx : ∀ a, ρ[n]? = some a → RV G Lv ρ H x (.ref a)) : ∀ {d : List D} {u : List V}, RVs G Lv ρ H d u → RVs G Lv ρ H (sbDs n x d) u
  | _, _, .nil => .nil
  | _, _, .cons h t => .cons (RV.sb hx h) (RVs.sb hx t)
theorem RKs.sb {n : Nat} {x : D} (hx : ∀ a, ρ[n]? = some a → RV G Lv ρ H x (.ref a)) : ∀ {ks vs : List D} {u : List (Key × V)}, RKs G Lv ρ H ks vs u → RKs G Lv ρ H ks (sbDs n x vs) u
  | _, _, _, .nil => .nil
  | _, _, _, .cons hk h t => .cons hk (RV.sb hx h) (RKs.sb hx t)
theorem RFs.sb {n : Nat} {x : D} (hx : ∀ a, ρ[n]? = some a → RV G Lv ρ H x (.ref a)) : ∀ {fl : List (Str × V)} {ns : List Nat} {d : List D}, RFs G Lv ρ H fl ns d → RFs G Lv ρ H fl ns (sbDs n x d)
  | _, _, _, .nil => .nil
  | _, _, _, .cons hn h t => .cons hn (RV.sb hx h) (RFs.sb hx t)
end
theorem sbS_get {n : Nat} {x : D} : ∀ {S : Store} {i : Nat}, (sbS n x S)[i]? = (S[i]?).map (sbC n x)
  | [], _ => rfl
  | _ :: _, 0 => rfl
  | _ :: r, i + 1 => by
    simp only [sbS, List.getElem?_cons_succ]
    exact sbS_get
theorem sbS_len {n : Nat} {x : D} : ∀ {S : Store}, (sbS n x S).length = S.length
  | [] => rfl
  | _ :: r => by simp [sbS, sbS_len (S := r)]
theorem sbC_dead {n : Nat} {x : D} {c : Cell} : sbC n x c ≠ .dead ↔ c ≠ .dead := by cases c <;> simp [sbC]
theorem sb_live {n : Nat} {x : D} {S : Store} {a : Addr} : Live G (sbS n x S) ρ a ↔ Live G S ρ a := by
  refine ⟨fun l => ?_, fun l => ?_⟩
  · rcases l with l | ⟨m, c, h1, h2, h3⟩
    · exact .inl l
    · rw [sbS_get] at h2
      cases e : S[m]? with
      | none => rw [e] at h2; cases h2
      | some c0 =>
        rw [e] at h2
        cases h2
        exact .inr ⟨m, c0, h1, e, sbC_dead.mp h3⟩
  · rcases l with l | ⟨m, c, h1, h2, h3⟩
    · exact .inl l
    · exact .inr ⟨m, sbC n x c, h1, by rw [sbS_get, h2]; rfl, sbC_dead.mpr h3⟩
theorem RV.live {Lv' : Addr → Prop} (hl : ∀ a, Lv' a → Lv a) {d : D} {u : V} (h : RV G Lv ρ H d u) : RV G Lv' ρ H d u := h.keep ⟨fun a o e n => ⟨.inl e, fun q => n (hl a q)⟩⟩ fun _ _ h => h
theorem RVs.live {Lv' : Addr → Prop} (hl : ∀ a, Lv' a → Lv a) {d : List D} {u : List V} (h : RVs G Lv ρ H d u) : RVs G Lv' ρ H d u := h.keep ⟨fun a o e n => ⟨.inl e, fun q => n (hl a q)⟩⟩ fun _ _ h => h
theorem RKs.live {Lv' : Addr → Prop} (hl : ∀ a, Lv' a → Lv a) {ks vs : List D} {u : List (Key × V)} (h : RKs G Lv ρ H ks vs u) : RKs G Lv' ρ H ks vs u := h.keep ⟨fun a o e n => ⟨.inl e, fun q => n (hl a q)⟩⟩ fun _ _ h => h
theorem RFs.live {Lv' : Addr → Prop} (hl : ∀ a, Lv' a → Lv a) {fl : List (Str × V)} {ns : List Nat} {d : List D} (h : RFs G Lv ρ H fl ns d) : RFs G Lv' ρ H fl ns d := h.keep ⟨fun a o e n => ⟨.inl e, fun q => n (hl a q)⟩⟩ fun _ _ h => h
/-- a store in which a cell's name is put out -/
theorem Sim.sb (s : Sim G S ρ H) {n : Nat} {x : D} (hx : ∀ a, ρ[n]? = some a → RVl G S ρ H x (.ref a)) : Sim G (sbS n x S) ρ H := by
  have hl : ∀ a, Live G (sbS n x S) ρ a → Live G S ρ a := fun a => sb_live.mp
  have key : ∀ {i : Nat} {c : Cell}, (sbS n x S)[i]? = some c → ∃ c0, S[i]? = some c0 ∧ c = sbC n x c0 := fun {i c} q => by
    rw [sbS_get] at q
    cases e : S[i]? with
    | none => rw [e] at q; cases q
    | some c0 => rw [e] at q; cases q; exact ⟨c0, rfl, rfl⟩
  refine ⟨by rw [sbS_len]; exact s.len, fun m a c h1 h2 => ?_, fun i j a c c' h1 h2 h3 h4 h5 h6 => ?_, fun i a c h1 h2 h3 => ?_, s.frt⟩
  · obtain ⟨c0, e1, rfl⟩ := key h2
    have q := s.ok m a c0 h1 e1
    cases c0 with
    | lst xs =>
      obtain ⟨us, g1, g2⟩ := q
      exact ⟨us, g1, (g2.sb hx).live hl⟩
    | dct ks vs =>
      obtain ⟨us, g1, g2⟩ := q
      exact ⟨us, g1, (g2.sb hx).live hl⟩
    | obj cl ns fs =>
      obtain ⟨dx, fl, g1, g2, g3⟩ := q
      exact ⟨dx, fl, g1, g2, (g3.sb hx).live hl⟩
    | dead => trivial
  · obtain ⟨c0, e1, rfl⟩ := key h3
    obtain ⟨c1, e2, rfl⟩ := key h5
    exact s.inj i j a c0 c1 h1 h2 e1 (sbC_dead.mp h4) e2 (sbC_dead.mp h6)
  · obtain ⟨c0, e1, rfl⟩ := key h2
    exact s.nfr i a c0 h1 e1 (sbC_dead.mp h3)
theorem Stp.sb {n : Nat} {x : D} : Stp G S (sbS n x S) ρ ρ H H := ⟨fun _ _ h => h, ⟨fun a o h l => ⟨.inl h, fun q => l (sb_live.mp q)⟩⟩, fun _ _ => rfl⟩
/-- a cell frozen, as a datum of the new state -/
theorem Sim.frzX (s : Sim G S ρ H) {n : Nat} {c : Cell} {x : D} (h : S[n]? = some c) (e : frzC c = some x) {a : Addr} (ha : ρ[n]? = some a) : RVl G (S.set n .dead) ρ H x (.ref a) := by
  cases c with
  | lst xs => cases e; exact s.frz h (.ref ha)
  | dct ks vs => cases e; exact s.frzD h (.ref ha)
  | obj cl ns fs => cases e; exact s.frzO h (.ref ha)
  | dead => cases e
theorem isR_ref {Lv : Addr → Prop} {ρ : List Addr} {d : D} {u : V} (r : isR d = true) (h : RV G Lv ρ H d u) : ∃ a, u = .ref a := by
  cases h <;> first | exact ⟨_, rfl⟩ | cases r
mutual
theorem pin_rv {Lv : Addr → Prop} : ∀ {n m : Nat} {d e : D} {ρ : List Addr} {u : V}, PinR n d e m → ρ.length = n → RV G Lv ρ H d u → ∃ as : List Addr, n + as.length = m ∧ RV G Lv (ρ ++ as) H e u
  | _, _, _, _, ρ, _, .refl, l, h => ⟨[], rfl, by rw [List.append_nil]; exact h⟩
  | _, _, _, _, ρ, _, .tup p, l, .tup h r => by
    obtain ⟨as, e, q⟩ := pin_rvs p l r
    exact ⟨as, e, .tup h q⟩
  | _, _, _, _, ρ, _, .lst p, l, .lst h r => by
    obtain ⟨as, e, q⟩ := pin_rvs p l r
    exact ⟨as, e, .lst h q⟩
  | _, _, _, _, ρ, _, .ins p, l, .ins h k r => by
    obtain ⟨as, e, q⟩ := pin_rfs p l r
    exact ⟨as, e, .ins h k q⟩
  | _, _, _, _, ρ, _, .pin r p, l, h => by
    obtain ⟨a, rfl⟩ := isR_ref r h
    obtain ⟨as, e, q⟩ := pin_rv p l h
    refine ⟨as ++ [a], by rw [List.length_append, ← e]; rfl, ?_⟩
    rw [← List.append_assoc]
    refine .pin ?_ (q.keep ⟨fun _ _ h n => ⟨.inl h, n⟩⟩ fun _ _ => get_pre)
    rw [List.getElem?_append_right (by rw [List.length_append]; omega), List.length_append, show _ - (ρ.length + as.length) = 0 by omega]
    rfl
theorem pin_rvs {Lv : Addr → Prop} : ∀ {n m : Nat} {d e : List D} {ρ : List Addr} {u : List V}, PinRs n d e m → ρ.length = n → RVs G Lv ρ H d u → ∃ as : List Addr, n + as.length = m ∧ RVs G Lv (ρ ++ as) H e u
  | _, _, _, _, ρ, _, .nil, l, .nil => ⟨[], rfl, .nil⟩
  | _, _, _, _, ρ, _, .cons p t, l, .cons h r => by
    obtain ⟨as, e, q⟩ := pin_rv p l h
    obtain ⟨bs, e2, q2⟩ := pin_rvs (ρ := ρ ++ as) t (by rw [List.length_append]; omega) (r.keep ⟨fun _ _ h n => ⟨.inl h, n⟩⟩ fun _ _ => get_pre)
    refine ⟨as ++ bs, by rw [List.length_append]; omega, ?_⟩
    rw [← List.append_assoc]
    exact .cons (q.keep ⟨fun _ _ h n => ⟨.inl h, n⟩⟩ fun _ _ => get_pre) q2
theorem pin_rfs {Lv : Addr → Prop} : ∀ {n m : Nat} {d e : List D} {ρ : List Addr} {fl : List (Str × V)} {ns : List Nat}, PinRs n d e m → ρ.length = n → RFs G Lv ρ H fl ns d → ∃ as : List Addr, n + as.length = m ∧ RFs G Lv (ρ ++ as) H fl ns e
  | _, _, _, _, ρ, _, _, .nil, l, .nil => ⟨[], rfl, .nil⟩
  | _, _, _, _, ρ, _, _, .cons p t, l, .cons hn h r => by
    obtain ⟨as, e, q⟩ := pin_rv p l h
    obtain ⟨bs, e2, q2⟩ := pin_rfs (ρ := ρ ++ as) t (by rw [List.length_append]; omega) (r.keep ⟨fun _ _ h n => ⟨.inl h, n⟩⟩ fun _ _ => get_pre)
    refine ⟨as ++ bs, by rw [List.length_append]; omega, ?_⟩
    rw [← List.append_assoc]
    exact .cons hn (q.keep ⟨fun _ _ h n => ⟨.inl h, n⟩⟩ fun _ _ => get_pre) q2
end
theorem deads_get {S : Store} {k i : Nat} {c : Cell} (h : (S ++ List.replicate k Cell.dead)[i]? = some c) (nd : c ≠ .dead) : S[i]? = some c := by
  by_cases hi : i < S.length
  · rw [List.getElem?_append_left hi] at h; exact h
  · rw [List.getElem?_append_right (by omega), List.getElem?_replicate] at h
    split at h
    · cases h; exact absurd rfl nd
    · cases h
theorem deads_live {as : List Addr} {a : Addr} (hl : ρ.length = S.length) : Live G (S ++ List.replicate as.length .dead) (ρ ++ as) a ↔ Live G S ρ a := by
  refine ⟨fun l => ?_, fun l => ?_⟩
  · rcases l with l | ⟨m, c, h1, h2, h3⟩
    · exact .inl l
    · have h2 := deads_get h2 h3
      have := (List.getElem?_eq_some_iff.mp h2).1
      rw [List.getElem?_append_left (by omega)] at h1
      exact .inr ⟨m, c, h1, h2, h3⟩
  · rcases l with l | ⟨m, c, h1, h2, h3⟩
    · exact .inl l
    · exact .inr ⟨m, c, get_pre h1, get_pre h2, h3⟩
theorem Stp.deads {as : List Addr} (hl : ρ.length = S.length) : Stp G S (S ++ List.replicate as.length .dead) ρ (ρ ++ as) H H :=
  ⟨fun _ _ h => get_pre h, ⟨fun a o h n => ⟨.inl h, fun q => n ((deads_live hl).mp q)⟩⟩, fun _ _ => rfl⟩
theorem Sim.deads (s : Sim G S ρ H) (as : List Addr) : Sim G (S ++ List.replicate as.length .dead) (ρ ++ as) H := by
  have hl := s.len
  have key : ∀ {i : Nat} {a : Addr} {c : Cell}, (ρ ++ as)[i]? = some a → (S ++ List.replicate as.length .dead)[i]? = some c → c ≠ .dead → ρ[i]? = some a ∧ S[i]? = some c := fun {i a c} h1 h2 h3 => by
    have h2 := deads_get h2 h3
    have := (List.getElem?_eq_some_iff.mp h2).1
    rw [List.getElem?_append_left (by omega)] at h1
    exact ⟨h1, h2⟩
  have st : Stp G S (S ++ List.replicate as.length .dead) ρ (ρ ++ as) H H := Stp.deads hl
  refine ⟨by simp [hl], fun n a c h1 h2 => ?_, fun n m a c c' h1 h2 h3 h4 h5 h6 => s.inj n m a c c' (key h1 h3 h4).1 (key h2 h5 h6).1 (key h1 h3 h4).2 h4 (key h2 h5 h6).2 h6, fun n a c h1 h2 h3 => s.nfr n a c (key h1 h2 h3).1 (key h1 h2 h3).2 h3, s.frt⟩
  by_cases nd : c = .dead
  · subst nd; trivial
  · obtain ⟨q1, q2⟩ := key h1 h2 nd
    exact (s.ok n a c q1 q2).keep st.keep st.pre fun _ _ h => h
theorem Sim.pinD (s : Sim G S ρ H) {d d1 : D} {m : Nat} (p : PinR S.length d d1 m) {u : V} (h : RVl G S ρ H d u) : ∃ as : List Addr, as.length = m - S.length ∧ RVl G (S ++ List.replicate as.length .dead) (ρ ++ as) H d1 u := by
  obtain ⟨as, e, q⟩ := pin_rv p s.len h
  exact ⟨as, by omega, RV.live (fun a => (deads_live s.len).mp) q⟩
/-- ghost steps are good -/
theorem gh_ok {n0 : Nat} {S0 : Store} {ρ0 : List Addr} {H0 : Hp} {d d2 : D} {r : V} (g : Gh n0 d S d2 S2) : ∀ {ρ : List Addr}, n0 = S0.length → ρ0.length = S0.length → Sim G S ρ H → Stp G S0 S ρ0 ρ H0 H → RVl G S ρ H d r →
    ∃ ρ2, Sim G S2 ρ2 H ∧ Stp G S0 S2 ρ0 ρ2 H0 H ∧ RVl G S2 ρ2 H d2 r := by
  induction g with
  | refl => exact fun _ _ s t v => ⟨_, s, t, v⟩
  | frz n c x h e t ih =>
    intro ρ e0 l0 s st v
    have hx : ∀ a, ρ[n]? = some a → RVl G _ ρ H x (.ref a) := fun a ha => s.frzX h e ha
    have s1 := s.kill n
    have s2 := s1.sb hx
    refine ih e0 l0 s2 ((st.trans Stp.kill).trans Stp.sb) ?_
    have v1 := (Stp.kill (G := G) (n := n)).rv v
    exact (RV.sb hx v1).live fun a => sb_live.mp
  | trim A T e l b c t ih =>
    intro ρ e0 l0 s st v
    subst e
    refine ih e0 l0 (s.trim b) ⟨fun n a h => ?_, ⟨fun a o h l => ?_⟩, st.fr⟩ (s.trimV c v)
    · have := (List.getElem?_eq_some_iff.mp h).1
      rw [List.getElem?_take_of_lt (by omega)]
      exact st.pre n a h
    · obtain ⟨h1, h2⟩ := st.keep.keep a o h l
      exact ⟨h1, fun q => h2 (live_trim q)⟩
  | pin p t ih =>
    intro ρ e0 l0 s st v
    obtain ⟨as, e, q⟩ := s.pinD p v
    rw [← e] at ih
    exact ih e0 l0 (s.deads as) (st.trans (Stp.deads s.len)) q
theorem Fin.gh {P : QD} {Q : VK} {d d2 : D} {r : V} (s0 : Sim G S ρ H) (f : Fin G S ρ H P Q) (g : Gh S.length d S1 d2 S2) (s : Sim G S1 ρ1 H1) (t : Stp G S S1 ρ ρ1 H H1) (v : RVl G S1 ρ1 H1 d r) (p : P d2 S2) : Q r H1 := by
  obtain ⟨ρ2, s2, t2, v2⟩ := gh_ok g rfl s0.len s t v
  exact f d2 S2 ρ2 H1 r p s2 t2 v2
end
end DL

set_option maxHeartbeats 1000000
/-! DL 6k: xs[::-1] of tuples -/
namespace DL
open PySem PySem.Spec PyProof.Rows L2
theorem adj_rev (n : Nat) : Builtin.Slice.sliceAdjust none none (-1) (n : Int) = ((n : Int) - 1, -1) := by
  unfold Builtin.Slice.sliceAdjust
  simp
theorem places_rev (n : Nat) : Builtin.Slice.slicePlaces ((n : Int) - 1) (-1) (-1) = n := by
  unfold Builtin.Slice.slicePlaces
  rw [if_neg (by decide)]
  by_cases h : n = 0
  · subst h; rfl
  · rw [if_pos (by omega)]
    simp
theorem fm_some {α β : Type} (f : α → Option β) (g : α → β) : ∀ l : List α, (∀ a ∈ l, f a = some (g a)) → l.filterMap f = l.map g
  | [], _ => rfl
  | a :: r, h => by
    rw [List.filterMap_cons_some (h a List.mem_cons_self), fm_some f g r fun b hb => h b (List.mem_cons_of_mem _ hb)]
    rfl
theorem pick_rev (xs : Array Value) : ((List.range xs.size).filterMap fun (m : Nat) => xs[(((xs.size : Int) - 1) + (m : Int) * (-1)).toNat]?).toArray = xs.toList.reverse.toArray := by
  congr 1
  rw [fm_some _ (fun m => (xs[xs.size - 1 - m]?).getD .none) _ fun m hm => ?_]
  · apply List.ext_getElem?
    intro i
    by_cases h : i < xs.size
    · rw [List.getElem?_map, List.getElem?_range h, List.getElem?_reverse (by simpa using h)]
      simp
      rw [Array.getElem?_eq_getElem (by omega)]
      simp
    · rw [List.getElem?_eq_none (by simp; omega), List.getElem?_eq_none (by simp; omega)]
  · have hm' : m < xs.size := List.mem_range.mp hm
    have : (((xs.size : Int) - 1) + (m : Int) * (-1)).toNat = xs.size - 1 - m := by omega
    rw [this, Array.getElem?_eq_getElem (by omega)]
    rfl
section
variable {prog : Program} {w : World} {A : Around} {E : Value → Shared → Prop} {s : Shared}
theorem applied_rev {sl : Addr} {vl vu vs : Value} {n : Nat} {Q : Int × Int × Nat → Shared → Prop} (hs : s.heap.IsSliceOf sl vl vu vs) (pl : IsPart vl none) (pu : IsPart vu none) (ps : IsPart vs (some (-1)))
    (h : Q ((n : Int) - 1, -1, n) s) : wpAny (model prog w) A (Builtin.Slice.sliceApplied (.ref sl) (pure (n : Int))) Q E s := by
  obtain ⟨os, hos, hcs, hds⟩ := id hs
  unfold Builtin.Slice.sliceApplied Builtin.Slice.sliceFields
  refine wpAny_bind (wpAny_bind (wpAny_field hos hds (x := vl) rfl (wpAny_bind (wpAny_field hos hds (x := vu) rfl (wpAny_bind (wpAny_field hos hds (x := vs) rfl (wpAny_pure ?_)))))))
  refine wpAny_bind (HT.slicePart_ ps ?_)
  show wpAny _ _ (if ((-1 : Int) == 0) = true then _ else _) _ _ s
  rw [if_neg (by decide)]
  refine wpAny_bind (HT.slicePart_ pl (wpAny_bind (HT.slicePart_ pu (wpAny_bind (wpAny_pure ?_)))))
  show wpAny _ _ (match Builtin.Slice.sliceAdjust none none (-1) (n : Int) with | (lo, hi) => pure (lo, (-1 : Int), Builtin.Slice.slicePlaces lo hi (-1))) _ _ s
  rw [adj_rev]
  show wpAny _ _ (pure ((n : Int) - 1, (-1 : Int), Builtin.Slice.slicePlaces ((n : Int) - 1) (-1) (-1))) _ _ s
  rw [places_rev]
  exact wpAny_pure h
theorem getItem_tup_rev {t sl : Addr} {items : Array Value} {vl vu vs : Value} {Q : Value → Shared → Prop} (ht : IsTup s.heap t items) (hs : s.heap.IsSliceOf sl vl vu vs) (pl : IsPart vl none) (pu : IsPart vu none) (ps : IsPart vs (some (-1)))
    (h : Q (.ref s.heap.objs.size) { s with heap := s.heap.push { cls := .type "tuple", data := .seq items.toList.reverse.toArray } }) (hsz : items.size ≤ sizeLine) : wpAny (model prog w) A (getItem (.ref t) (.ref sl)) Q E s := by
  have hfit : sizeOk (.seq items.toList.reverse.toArray) := by
    show items.toList.reverse.toArray.size ≤ sizeLine
    simpa using hsz
  obtain ⟨os, hos, hcs, hds⟩ := id hs
  have hTs : s.TypeIs (.ref sl) "slice" := ⟨os, hos, hcs⟩
  unfold getItem
  try with_reducible refine wpAny_holding ?_
  first | refine wpAny_bind (wpAny_pure ?_) | skip
  refine wpAny_bind (wpAny_sequenceKey ht.typeIs (by decide) ?_)
  refine wpAny_bind (wpAny_callSpecial?_slot (name := Str.ofString "__getitem__") ht.typeIs PyProof.Rows.slot_tuple_getitem (wpAny_call_entry PyProof.Rows.slot_tuple_getitem ht.typeIs entry_tuple_getitem ?_ (args_tuple_getitem _ _)))
  show wpAny _ _ (Builtin.Tuple.tupleItemsOf (.ref t) >>= _) _ _ s
  refine wpAny_bind (tupleItemsOf_ ht (wpAny_bind (wpAny_typeOf hTs ?_)))
  rw [if_pos (by decide)]
  refine wpAny_bind (applied_rev hs pl pu ps ?_)
  have hno : ¬ ((((items.size : Int) - 1) == 0 && (-1 : Int) == 1 && items.size == items.size) = true) := by simp
  show wpAny _ _ (if (((items.size : Int) - 1) == 0 && (-1 : Int) == 1 && items.size == items.size) = true then _ else _) _ _ s
  rw [if_neg hno, pick_rev]
  first
    | exact wpAny_bind (m := Builtin.Tuple.tupleExact _) (wpAny_newObj_type (wpAny_pure ⟨_, rfl, wpAny_pure h⟩) hfit)
    | exact wpAny_bind (m := Builtin.Tuple.tupleExact _) (wpAny_newObj_type (wpAny_bind (wpAny_pure (wpAny_pure ⟨_, rfl, wpAny_pure h⟩))) hfit)
    | exact wpAny_bind (wpAny_bind (m := Builtin.Tuple.tupleExact _) (wpAny_newObj_type (wpAny_pure (wpAny_pure ⟨_, rfl, wpAny_pure h⟩)) hfit))
    | exact wpAny_bind (wpAny_bind (m := Builtin.Tuple.tupleExact _) (wpAny_newObj_type (wpAny_pure ⟨_, rfl, wpAny_pure h⟩) hfit))
end
/-- xs[::-1], of a list or a tuple -/
def tRevA (K : PySem.W.Frag) (te : TE) : TE := fun σ H Q => te σ H fun x H1 => ∃ a us, x = .ref a ∧
  ((SqL K H1 a us ∧ ∀ p, H1 p = none → Q (.ref p) (upd H1 p (.lst us.reverse))) ∨ (SqT K H1 a us ∧ ∀ p, H1 p = none → Q (.ref p) (upd H1 p (.tup us.reverse))))
theorem pe_revAny {X : Cx} {e : Expr} {te : TE} {j : Nat} {q1 q2 q3 q4 : Pos} (he : PE X e te) : PE X (.Subscript e (.Slice none none (some (.UnaryOp .USub (.Constant (.int 1) j q1) q2)) q3) q4) (tRevA X.K te) := by
  refine ⟨fun pins s σ H Q I h => Subscript_ (thn (he.run pins s σ H _ I h) fun v sa ⟨x, Ha, Ia, rx, a, us, ex, q⟩ => ?_)⟩
  subst ex
  cases rx
  have hst : PO X (some (.UnaryOp .USub (.Constant (.int 1) j q1) q2)) (tPart (tUn (rU fun i => .int (-i)) (tC (.int 1)))) := po_some (pe_un un_neg pe_int)
  refine wpAny_Slice (thn (po_none.run pins sa σ Ha (fun o Hb => o = none ∧ Hb = Ha) Ia ⟨rfl, rfl⟩) fun vl sb ⟨l, Hb, Ib, pl, el, eb⟩ => ?_)
  subst el eb
  refine thn (po_none.run pins sb σ Hb (fun o Hc => o = none ∧ Hc = Hb) Ib ⟨rfl, rfl⟩) fun vu sc ⟨u, Hc, Ic, pu, eu, ec⟩ => ?_
  subst eu ec
  refine thn (hst.run pins sc σ Hc (fun o Hd => o = some (-1) ∧ Hd = Hc) Ic ⟨1, rfl, -1, rfl, rfl, rfl⟩) fun vs sd ⟨o, Hd, Id, pst, eo, ed⟩ => ?_
  subst eo ed
  have I5 : Inv X pins σ Hd { sd with heap := sd.heap.push { cls := .type "slice", data := .fields #[vl, vu, vs] } } := Id.kept (t' := sd.toks) fun b ob z => Heap.get?_push_of_some _ z
  show wpAny (model X.prog X.w) X.A (subscriptTail e (.Slice none none (some (.UnaryOp .USub (.Constant (.int 1) j q1) q2)) q3) (.ref a) (.ref sd.heap.objs.size)) (EP X pins σ Q) X.xe { sd with heap := sd.heap.push { cls := .type "slice", data := .fields #[vl, vu, vs] } }
  rcases q with ⟨hx, q⟩ | ⟨hx, q⟩
  · obtain ⟨its, r, ht, hz⟩ := I5.list hx
    have hlen := r.length
    refine tail_any (ops := [.ref a, .ref sd.heap.objs.size]) ht.isList.typeIs (PySem.slot_list_getitem.lookup) ?_ (by with_unfolding_all rfl)
    refine wpAny_getItem_list_slice ht.isList (Heap.IsSliceOf.new _ vl vu vs) pl pu pst (by decide) ?_ (by rw [List.size_toArray]; omega)
    rw [PySem.W.krv_pick]
    exact ⟨.ref _, _, I5.laid (t' := sd.toks) (o := .lst us.reverse) (fun b ob z => Heap.get?_push_of_some _ z) (Nat.le_refl _) ⟨by rw [List.length_reverse]; exact hz, _, 0, r.reverse, Heap.get?_push_size _ rfl⟩, rfl, q _ (I5.hok.fresh (Nat.le_refl _))⟩
  · obtain ⟨its, r, ht, hz⟩ := I5.tuple hx
    have hlen := r.length
    refine tail_any (ops := [.ref a, .ref sd.heap.objs.size]) (show IsTup _ a its.toArray from ht).typeIs (PyProof.Rows.slot_tuple_getitem.lookup) ?_ (by with_unfolding_all rfl)
    refine getItem_tup_rev (show IsTup _ a its.toArray from ht) (Heap.IsSliceOf.new _ vl vu vs) pl pu pst ?_ (by rw [List.size_toArray]; omega)
    exact ⟨.ref _, _, I5.laid (t' := sd.toks) (o := .tup us.reverse) (fun b ob z => Heap.get?_push_of_some _ z) (Nat.le_refl _) ⟨by rw [List.length_reverse]; exact hz, _, r.reverse, IsTup.new _ _⟩, rfl, q _ (I5.hok.fresh (Nat.le_refl _))⟩
end DL

set_option maxHeartbeats 1000000
/-! DL 7: readings -/
namespace DL
open PySem PySem.Spec PyProof.Rows L2

/-- the ground with another frame -/
def Gd.frm (G : Gd) (F : Addr → Prop) : Gd := { G with Fr := F }
/-- a state: the store, the slots -/
structure At (G : Gd) (τ : Sl) (S : Store) (ρ : List Addr) (σ : L2.St) (H : Hp) : Prop where
  sim : Sim G S ρ H
  len : τ.length = σ.length
  sl : ∀ (i : Nat) d, getS τ i = some d → ∃ u, σ[i]? = some (some u) ∧ RVl G S ρ H d u
theorem At.step {G : Gd} {τ : Sl} {S S' : Store} {ρ ρ' : List Addr} {σ : L2.St} {H H' : Hp} (a : At G τ S ρ σ H) (s : Sim G S' ρ' H') (t : Stp G S S' ρ ρ' H H') : At G τ S' ρ' σ H' :=
  ⟨s, a.len, fun i d e => let ⟨u, h1, h2⟩ := a.sl i d e; ⟨u, h1, t.rv h2⟩⟩
/-- an exception's data -/
def ExR (G : Gd) (S : Store) (ρ : List Addr) (H : Hp) : D → Value → Option Addr → Prop
  | .exc c [] _, cls, dx => cls = .ref (G.ca c) ∧ dx = none
  | .exc c (n :: ns) fs, cls, dx => cls = .ref (G.ca c) ∧ ∃ a fl, dx = some a ∧ ¬ Live G S ρ a ∧ H a = some (.xd fl) ∧ RFs G (Live G S ρ) ρ H fl (n :: ns) fs
  | _, _, _ => False
/-- from the data's exceptions to the values' -/
def FinX (G : Gd) (S : Store) (ρ : List Addr) (H : Hp) (E : QD) (W : XK) : Prop :=
  ∀ (d : D) (S' : Store) (ρ' : List Addr) (H' : Hp) (cls : Value) (dx : Option Addr), E d S' → Sim G S' ρ' H' → Stp G S S' ρ ρ' H H' → ExR G S' ρ' H' d cls dx → W cls dx H'
theorem Fin.step {G : Gd} {S S' : Store} {ρ ρ' : List Addr} {H H' : Hp} {P : QD} {Q : VK} (f : Fin G S ρ H P Q) (t : Stp G S S' ρ ρ' H H') : Fin G S' ρ' H' P Q :=
  fun d S2 ρ2 H2 r p s t2 v => f d S2 ρ2 H2 r p s (t.trans t2) v
theorem FinX.step {G : Gd} {S S' : Store} {ρ ρ' : List Addr} {H H' : Hp} {E : QD} {W : XK} (f : FinX G S ρ H E W) (t : Stp G S S' ρ ρ' H H') : FinX G S' ρ' H' E W :=
  fun d S2 ρ2 H2 c dx p s t2 v => f d S2 ρ2 H2 c dx p s (t.trans t2) v
theorem FinX.no {G : Gd} {S : Store} {ρ : List Addr} {H : Hp} {W : XK} : FinX G S ρ H (fun _ _ => False) W := fun _ _ _ _ _ _ p _ _ _ => p.elim
/-- what a call promises, on data -/
def spD (G : Gd) (args : List D) (S : Store) (Q E : QD) : Sp := fun vs H Qv Ev =>
  ∃ F ρ, Sim (G.frm F) S ρ H ∧ RVsl (G.frm F) S ρ H args vs ∧ Fin (G.frm F) S ρ H Q Qv ∧ FinX (G.frm F) S ρ H E Ev
@[irreducible] def CallP (G : Gd) (k : Nat) (f : Nat) (args : List D) (S : Store) (Q E : QD) : Prop :=
  ∃ ps, FnOk G.P G.w G.K G.mg G.base (CX G.P G.w) k (G.fa f) (G.fd f) ps (spD G args S Q E) ∧ Binds G.K (G.fd f) ps []
/-- an object made -/
@[irreducible] def NewP (G : Gd) (T : Tab) (k : Nat) (c : Nat) (args : List D) (S : Store) (Q : QD) : Prop :=
  ∃ f k', T.ini c = some f ∧ k = k' + 1 ∧ CallP G k' f (.ref S.length :: args) (S ++ [.obj c [] []])
    (fun d S' => d = .non ∧ ∃ d2 S2, Gh S.length (.ref S.length) S' d2 S2 ∧ Q d2 S2) (fun _ _ => False)
theorem callP_e {G : Gd} {k f : Nat} {args : List D} {S : Store} {Q E : QD} (h : CallP G k f args S Q E) : ∃ ps, FnOk G.P G.w G.K G.mg G.base (CX G.P G.w) k (G.fa f) (G.fd f) ps (spD G args S Q E) ∧ Binds G.K (G.fd f) ps [] := by
  unfold CallP at h; exact h
theorem callP_i {G : Gd} {k f : Nat} {args : List D} {S : Store} {Q E : QD} (h : ∃ ps, FnOk G.P G.w G.K G.mg G.base (CX G.P G.w) k (G.fa f) (G.fd f) ps (spD G args S Q E) ∧ Binds G.K (G.fd f) ps []) : CallP G k f args S Q E := by
  unfold CallP; exact h
theorem newP_e {G : Gd} {T : Tab} {k c : Nat} {args : List D} {S : Store} {Q : QD} (h : NewP G T k c args S Q) : ∃ f k', T.ini c = some f ∧ k = k' + 1 ∧ CallP G k' f (.ref S.length :: args) (S ++ [.obj c [] []])
    (fun d S' => d = .non ∧ ∃ d2 S2, Gh S.length (.ref S.length) S' d2 S2 ∧ Q d2 S2) (fun _ _ => False) := by
  unfold NewP at h; exact h
theorem newP_i {G : Gd} {T : Tab} {k c : Nat} {args : List D} {S : Store} {Q : QD} (h : ∃ f k', T.ini c = some f ∧ k = k' + 1 ∧ CallP G k' f (.ref S.length :: args) (S ++ [.obj c [] []])
    (fun d S' => d = .non ∧ ∃ d2 S2, Gh S.length (.ref S.length) S' d2 S2 ∧ Q d2 S2) (fun _ _ => False)) : NewP G T k c args S Q := by
  unfold NewP; exact h
theorem callP_mono {G : Gd} {j k f : Nat} {args : List D} {S : Store} {Q E : QD} (h : CallP G j f args S Q E) (l : j ≤ k) : CallP G k f args S Q E := by
  obtain ⟨ps, FO, B⟩ := callP_e h
  exact callP_i ⟨ps, FO.mono l, B⟩
def orc (G : Gd) (T : Tab) (k : Nat) : Orc := ⟨CallP G k, fun c xs S Q _ => NewP G T k c xs S Q⟩

section
variable (G : Gd) (T : Tab) (O : Orc) (W : WX)
def rdE (e : IE) : TE := fun σ H Q => ∃ F τ S ρ P E, At (G.frm F) τ S ρ σ H ∧ wpE T O e τ S P E ∧ Fin (G.frm F) S ρ H P Q ∧ FinX (G.frm F) S ρ H E (WE W σ)
def rdT (c : IT) : TT := fun σ H Q => ∃ F τ S ρ P E, At (G.frm F) τ S ρ σ H ∧ wpT T O c τ S P E ∧
  (∀ b S' ρ' H', P b S' → Sim (G.frm F) S' ρ' H' → Stp (G.frm F) S S' ρ ρ' H H' → Q b H') ∧ FinX (G.frm F) S ρ H E (WE W σ)
def rdI (cs : List IT) : TT := fun σ H Q => ∃ F τ S ρ P E, At (G.frm F) τ S ρ σ H ∧ wpI T O cs τ S P E ∧
  (∀ b S' ρ' H', P b S' → Sim (G.frm F) S' ρ' H' → Stp (G.frm F) S S' ρ ρ' H H' → Q b H') ∧ FinX (G.frm F) S ρ H E (WE W σ)
def rdL (es : List IE) : TA := fun σ H Q => ∃ F τ S ρ P E, At (G.frm F) τ S ρ σ H ∧ wpL T O es τ S P E ∧
  (∀ xs S' ρ' H' us, xs.length = es.length → P xs S' → Sim (G.frm F) S' ρ' H' → Stp (G.frm F) S S' ρ ρ' H H' → RVsl (G.frm F) S' ρ' H' xs us → Q us H') ∧ FinX (G.frm F) S ρ H E (WE W σ)
def rdP (es : List IE) : TO := fun σ H Q => ∃ F τ S ρ P E, At (G.frm F) τ S ρ σ H ∧ wpP T O es τ S P E ∧
  (∀ o S' ρ' H', P o S' → Sim (G.frm F) S' ρ' H' → Stp (G.frm F) S S' ρ ρ' H H' → Q o H') ∧ FinX (G.frm F) S ρ H E (WE W σ)
end
theorem PE.of {X : Cx} {e : Expr} {t t' : TE} (h : PE X e t) (m : ∀ σ H Q, t' σ H Q → t σ H Q) : PE X e t' := ⟨fun pins s σ H Q I q => h.run pins s σ H Q I (m σ H Q q)⟩
theorem PT.of {X : Cx} {e : Expr} {t t' : TT} (h : PT X e t) (m : ∀ σ H Q, t' σ H Q → t σ H Q) : PT X e t' := ⟨fun pins s σ H Q I q => h.run pins s σ H Q I (m σ H Q q)⟩
theorem PW.of {X : Cx} {e : Expr} {t t' : TT} (h : PW X e t) (m : ∀ σ H Q, t' σ H Q → t σ H Q) : PW X e t' := ⟨fun w pins s σ H Q I q => h.run w pins s σ H Q I (m σ H Q q)⟩
theorem PA.of {X : Cx} {e : List Expr} {t t' : TA} (h : PA X e t) (m : ∀ σ H Q, t' σ H Q → t σ H Q) : PA X e t' := ⟨fun p pins s σ H Q I q => h.run p pins s σ H Q I (m σ H Q q)⟩
theorem PO.of {X : Cx} {e : Option Expr} {t t' : TO} (h : PO X e t) (m : ∀ σ H Q, t' σ H Q → t σ H Q) : PO X e t' := ⟨fun pins s σ H Q I q => h.run pins s σ H Q I (m σ H Q q)⟩

/-- a context over the ground -/
structure XOk (G : Gd) (N : List Str) (sc : Scope) (k : Nat) (X : Cx) : Prop where
  prog : X.prog = G.P
  w : X.w = G.w
  K : X.K = G.K
  mg : X.mg = G.mg
  base : X.base = G.base
  eqN : X.N = N
  nd : N.Nodup
  sc : X.env.scope = sc
  calm : X.calm = true
  room : Room k X.A
/-- a plain exception class of the program -/
structure XcC (K : PySem.W.Frag) (C : Addr) : Prop where
  q : PySem.W.excIn K C [.type "ValueError", .type "Exception", .type "BaseException", .type "object"] "ValueError.__new__" = true
  r1 : PySem.W.subIn K (.ref C) (.type "BaseException") = some true
  r2 : PySem.W.typeIn K (.ref C) = some (.type "type")
  e : ExcC K C
  ve : PySem.W.kitOne K (.ref C) (.type "ValueError") = some true
/-- the class at C gives its def m, at f, by its own name -/
structure BaseM (K : PySem.W.Frag) (C : Addr) (m : Str) (f : Addr) : Prop where
  rd : PySem.W.readsIn K C (.type "type") = true
  ga : PySem.W.specialIn K (.ref C) "__getattribute__" = some (some (.builtin "type.__getattribute__"))
  at_ : PySem.W.findCls K (.ref C) (.type "type") m = some (.val (.ref f))
/-- the ground is as the tables say -/
structure GOk (G : Gd) (T : Tab) : Prop where ofs ::
  nm : ∀ i, G.nm i = T.nm i
  fn : ∀ f x, T.fn f = some x → G.mg x = some (.ref (G.fa f)) ∧ PySem.W.keepIn G.K (.ref (G.fa f)) = true
  cl : ∀ c x, T.cl c = some x → G.mg x = some (.ref (G.ca c)) ∧ PySem.W.keepIn G.K (.ref (G.ca c)) = true
  mk : ∀ c f, T.ini c = some f → Mk G.K (G.ca c) (G.fa f)
  ccls : ∀ c f, T.ini c = some f → Cls G.K (G.ca c)
  eqo : ∀ c f, T.ini c = some f → EqO G.K (G.ca c)
  gl : ∀ g x, T.gl g = some x → ∃ u v, G.mg x = some u ∧ RelV v u ∧ ∀ F S ρ H, Sim (G.frm F) S ρ H → RVl (G.frm F) S ρ H (T.glo g) v
  kd : ∀ g x, T.kdn g = some x → ∃ a, G.mg x = some (.ref a) ∧ ∀ s y, findT s (T.kd g) = some y → KDct G.K G.w a (tx s) (.str (tx y))
  bi : ∀ x, T.fre x = true → G.mg x = none
  mth : ∀ c m f, T.mth c m = some f → Meth G.K (G.ca c) (T.nm m) (G.fa f)
  isc : ∀ c x, T.cl c = some x → ((PySem.W.clsIn G.K (G.ca c)).isSome && PySem.W.typeIn G.K (.ref (G.ca c)) == some (.type "type")) = true
  iso : ∀ c d x y, T.cl c = some x → T.cl d = some y → PySem.W.kitOne G.K (.ref (G.ca c)) (.ref (G.ca d)) = some (T.sub c d)
  isb : ∀ c x t, T.cl c = some x → t ∈ ["int", "bool", "str", "tuple", "list", "dict"] → PySem.W.kitOne G.K (.ref (G.ca c)) (.type t) = some false
  ins : ∀ c x, T.cl c = some x → PySem.W.findIn G.K (.ref (G.ca c)) "__class__" = some (some (.builtin "object.__class__")) ∧
    PySem.W.specialIn G.K (.builtin "object.__class__") "__get__" = some (some (.builtin "getset_descriptor.__get__")) ∧ PySem.W.takesIn G.K (.builtin "object.__class__") = some true ∧ PySem.W.mroIn G.K (G.ca c) (.type "object") = some true
  fld : ∀ c f, T.fld c f = true → NoAttr G.K (G.ca c) (T.nm f)
  fldn : ∀ c f n, T.fld c f = true → T.nm n = T.nm f → n = f
  mthn : ∀ c m f n, T.mth c m = some f → T.nm n = T.nm m → n = m
  xc : ∀ c x, T.cl c = some x → T.xc c = true → XcC G.K (G.ca c)
  xcl : ∀ c, T.xc c = true → (T.cl c).isSome = true
  exm : ∀ c d, T.xc c = true → T.xc d = true → PySem.W.exmOne G.K (.ref (G.ca c)) (.ref (G.ca d)) = some (T.sub c d)
  ba : ∀ f x m, T.bas f = some (x, m) → ∃ C, G.mg x = some (.ref C) ∧ BaseM G.K C m (G.fa f) ∧ PySem.W.keepIn G.K (.ref (G.fa f)) = true
end DL

set_option maxHeartbeats 1000000
/-! DL 7a: the expressions' cases -/
namespace DL
open PySem PySem.Spec PyProof.Rows L2

section
variable {X : Cx}
theorem OpR.ex {f : Value → Value → Sem Value} {r : (Addr → Prop) → R2} (h : ∀ F, OpR X f (r F)) : OpR X f (fun u v H Q => ∃ F, r F u v H Q) := fun pins s σ H x y v u Q I rx ry ⟨F, q⟩ => h F pins s σ H x y v u Q I rx ry q
theorem UnR.ex {f : Value → Sem Value} {r : (Addr → Prop) → V → Hp → VK → Prop} (h : ∀ F, UnR X f (r F)) : UnR X f (fun u H Q => ∃ F, r F u H Q) := fun pins s σ H x v Q I rx ⟨F, q⟩ => h F pins s σ H x v Q I rx q
theorem CallR.ex {f : Value} {r : (Addr → Prop) → List V → Hp → VK → Prop} (h : ∀ F, CallR X f (r F)) : CallR X f (fun u H Q => ∃ F, r F u H Q) := fun pins s σ H x v Q I rx ⟨F, q⟩ => h F pins s σ H x v Q I rx q
theorem IxR.ex {r : (Addr → Prop) → R2} (h : ∀ F, IxR X (r F)) : IxR X (fun u v H Q => ∃ F, r F u v H Q) := fun a b pins s σ H x y v u Q I rx ry ⟨F, q⟩ e => h F a b pins s σ H x y v u Q I rx ry q e
theorem SlR.ex {r : (Addr → Prop) → V → Option Int → Option Int → Hp → VK → Prop} (h : ∀ F, SlR X (r F)) : SlR X (fun u l h H Q => ∃ F, r F u l h H Q) :=
  fun pins s σ H x v vl vu lo hi sl Q I rx hs pl pu ⟨F, q⟩ => h F pins s σ H x v vl vu lo hi sl Q I rx hs pl pu q
theorem MtR.ex {f : String} {r : (Addr → Prop) → V → List V → Hp → VK → Prop} (h : ∀ F, MtR X f (r F)) : MtR X f (fun u xs H Q => ∃ F, r F u xs H Q) := fun pins s σ H x xs v us Q I rx rs ⟨F, q⟩ => h F pins s σ H x xs v us Q I rx rs q
end
theorem getS_iff : ∀ (τ : Sl) (i : Nat) d, getS τ i = some d ↔ τ[i]? = some (some d)
  | [], i, d => by simp [getS]
  | x :: r, 0, d => by simp [getS]
  | x :: r, i + 1, d => by simp only [getS, List.getElem?_cons_succ]; exact getS_iff r i d

/-! what is no star, slice, set, super -/
def plainX : Expr → Bool
  | .Starred .. => false
  | _ => true
def noSlice : Expr → Bool
  | .Slice .. => false
  | _ => true
def noSet : Expr → Bool
  | .Set .. => false
  | _ => true
def noSup : Expr → Bool
  | .Call (.Name id _) [] [] _ => id != "super"
  | _ => true
def isCmpA : Expr → Bool
  | .Compare _ [_] _ _ => true
  | _ => false
def isBoolA : Expr → Bool
  | .BoolOp .. => true
  | _ => false
/-- a test that is looked at as a value -/
def tstOk : Expr → Bool
  | .UnaryOp .Not _ _ => false
  | .BoolOp .. => false
  | .IfExp .. => false
  | .Compare .. => false
  | _ => true
theorem star_eq {e : Expr} (h : plainX e = true) (es : List Expr) (env : Env) : starEach (e :: es) env = (false, eval e env) :: starEach es env := by
  cases e <;> first
    | exact absurd h Bool.false_ne_true
    | rfl
theorem star_all : ∀ {es : List Expr} (pos : Pos) (env : Env), es.all plainX = true → (backTo pos (starEach es env)).any (·.1) = false ∧ (backTo pos (starEach es env)).all (fun x => !x.1) = true ∧ (starEach es env).length = es.length
  | [], _, _, _ => ⟨rfl, rfl, rfl⟩
  | e :: es, pos, env, h => by
    rw [List.all_cons, Bool.and_eq_true] at h
    obtain ⟨a, b, c⟩ := star_all pos env h.2
    rw [star_eq h.1]
    refine ⟨?_, ?_, by simp [c]⟩
    · show (false || (backTo pos (starEach es env)).any (·.1)) = false
      rw [a]; rfl
    · show (true && (backTo pos (starEach es env)).all (fun x => !x.1)) = true
      rw [b]; rfl
theorem plainIx {b : Expr} (h : noSlice b = true) : PlainIx b := by
  intro o i
  cases b <;> first
    | exact absurd h Bool.false_ne_true
    | rfl
theorem noSet_in {b : Expr} {op : CmpOp} (h : noSet b = true) : behindInMarks op b = false := by
  cases b <;> first
    | exact absurd h Bool.false_ne_true
    | rfl
theorem attr_base {o : Expr} (h : noSup o = true) (f : Str) (env : Env) (wh : Sem Value) : attributeBase o f env wh = wh := by
  unfold attributeBase
  split
  · rename_i id p pos
    have hn : (id != "super") = true := h
    rw [hn]
    rfl
  · rfl
theorem tst_val {e : Expr} (h : tstOk e = true) (env : Env) (whole : Sem Value) : isTrue e env whole = (do let v ← whole; standAt e.pos; holding [v] (truthy v)) := by
  cases e <;> first
    | exact absurd h Bool.false_ne_true
    | rfl
    | (rename_i op x p; cases op <;> first
        | exact absurd h Bool.false_ne_true
        | rfl)

section
variable {G : Gd} {T : Tab} {N : List Str} {sc : Scope} {k : Nat} {X : Cx} {W : WX} {O : Orc} {F : Addr → Prop} {τ : Sl} {S : Store} {ρ : List Addr} {σ : L2.St} {H : Hp} {E : QD}
/-- one expression, and what is behind it -/
theorem rd1 {a : IE} {R : D → Store → Prop} (at_ : At (G.frm F) τ S ρ σ H) (w : wpE T O a τ S R E) (fx : FinX (G.frm F) S ρ H E (WE W σ)) {K : VK}
    (hk : ∀ x S2 ρ2 H2 u, R x S2 → At (G.frm F) τ S2 ρ2 σ H2 → Stp (G.frm F) S S2 ρ ρ2 H H2 → RVl (G.frm F) S2 ρ2 H2 x u → K u H2) : rdE G T O W a σ H K :=
  ⟨F, τ, S, ρ, R, E, at_, w, fun x S1 ρ1 H1 u p s t r => hk x S1 ρ1 H1 u p (at_.step s t) t r, fx⟩
/-- two -/
theorem rd2e {a b : IE} {R : D → D → Store → Prop} (at_ : At (G.frm F) τ S ρ σ H) (w : wpE T O a τ S (fun x S1 => wpE T O b τ S1 (fun y S2 => R x y S2) E) E) (fx : FinX (G.frm F) S ρ H E (WE W σ)) {K : V → V → Hp → Prop}
    (hk : ∀ x y S2 ρ2 H2 u v, R x y S2 → At (G.frm F) τ S2 ρ2 σ H2 → Stp (G.frm F) S S2 ρ ρ2 H H2 → RVl (G.frm F) S2 ρ2 H2 x u → RVl (G.frm F) S2 ρ2 H2 y v → K u v H2) :
    rdE G T O W a σ H fun u H1 => rdE G T O W b σ H1 fun v H2 => K u v H2 :=
  rd1 at_ w fx fun x S1 ρ1 H1 u p a1 t r => rd1 a1 p (fx.step t) fun y S2 ρ2 H2 v p2 a2 t2 r2 => hk x y S2 ρ2 H2 u v p2 a2 (t.trans t2) (t2.rv r) r2
theorem rdTe {c : IT} {R : Bool → Store → Prop} (at_ : At (G.frm F) τ S ρ σ H) (w : wpT T O c τ S R E) (fx : FinX (G.frm F) S ρ H E (WE W σ)) {K : Bool → Hp → Prop}
    (hk : ∀ b S2 ρ2 H2, R b S2 → At (G.frm F) τ S2 ρ2 σ H2 → Stp (G.frm F) S S2 ρ ρ2 H H2 → K b H2) : rdT G T O W c σ H K :=
  ⟨F, τ, S, ρ, R, E, at_, w, fun x S1 ρ1 H1 p s t => hk x S1 ρ1 H1 p (at_.step s t) t, fx⟩
theorem rdLe {es : List IE} {R : List D → Store → Prop} (at_ : At (G.frm F) τ S ρ σ H) (w : wpL T O es τ S R E) (fx : FinX (G.frm F) S ρ H E (WE W σ)) {K : List V → Hp → Prop}
    (hk : ∀ xs S2 ρ2 H2 us, xs.length = es.length → R xs S2 → At (G.frm F) τ S2 ρ2 σ H2 → Stp (G.frm F) S S2 ρ ρ2 H H2 → RVsl (G.frm F) S2 ρ2 H2 xs us → K us H2) : rdL G T O W es σ H K :=
  ⟨F, τ, S, ρ, R, E, at_, w, fun x S1 ρ1 H1 u n p s t r => hk x S1 ρ1 H1 u n p (at_.step s t) t r, fx⟩
theorem rdPe {es : List IE} {R : Option Int → Store → Prop} (at_ : At (G.frm F) τ S ρ σ H) (w : wpP T O es τ S R E) (fx : FinX (G.frm F) S ρ H E (WE W σ)) {K : Option Int → Hp → Prop}
    (hk : ∀ b S2 ρ2 H2, R b S2 → At (G.frm F) τ S2 ρ2 σ H2 → Stp (G.frm F) S S2 ρ ρ2 H H2 → K b H2) : rdP G T O W es σ H K :=
  ⟨F, τ, S, ρ, R, E, at_, w, fun x S1 ρ1 H1 p s t => hk x S1 ρ1 H1 p (at_.step s t) t, fx⟩

/-! ### names, constants -/
theorem ok_var {i : Nat} {x : Str} {pos : Pos} (xo : XOk G N sc k X) (hN : N[i]? = some x) (hv : Vis sc x) (hd : (x == ("__debug__" : Str)) = false) (hcd : (x == ("__classdict__" : Str)) = false) : PE X (.Name x pos) (rdE G T O W (.var i)) := by
  refine PE.of (pe_var (i := i) (by rw [xo.eqN]; exact hN) (by rw [xo.sc]; exact hv) hd hcd) fun σ H Q ⟨F, τ, S, ρ, P, E, a, w, f, fx⟩ => ?_
  rw [wpE] at w
  split at w
  · rename_i d e
    obtain ⟨u, h1, h2⟩ := a.sl i d e
    exact ⟨u, h1, f.here a.sim w h2⟩
  · exact w.elim
def conC : D → Const → Bool
  | .non, .none => true
  | .bl a, .bool b => a == b
  | .int i, .int j => decide (i = j)
  | .str s, .str z => decide (tx s = z)
  | _, _ => false
theorem ok_con {d : D} {c : Const} {j : Nat} {pos : Pos} (h : conC d c = true) : PE X (.Constant c j pos) (rdE G T O W (.con d)) := by
  unfold conC at h
  split at h
  · exact PE.of pe_non fun σ H Q ⟨F, τ, S, ρ, P, E, a, w, f, fx⟩ => by rw [wpE] at w; exact f.here a.sim w .non
  · have := eq_of_beq h
    subst this
    exact PE.of pe_bl fun σ H Q ⟨F, τ, S, ρ, P, E, a, w, f, fx⟩ => by rw [wpE] at w; exact f.here a.sim w (.bl _)
  · have := of_decide_eq_true h
    subst this
    exact PE.of pe_int fun σ H Q ⟨F, τ, S, ρ, P, E, a, w, f, fx⟩ => by rw [wpE] at w; exact f.here a.sim w (.int _)
  · have := of_decide_eq_true h
    subst this
    exact PE.of pe_str fun σ H Q ⟨F, τ, S, ρ, P, E, a, w, f, fx⟩ => by rw [wpE] at w; exact f.here a.sim w (.str _)
  · cases h
theorem xgl (xo : XOk G N sc k X) {x : Str} (h : sc.names.lookup x = some .globalImplicit) : Gl X x := by
  show X.env.kindOf x = _
  unfold Env.kindOf
  rw [xo.sc]; exact h
theorem ok_glo {g : Nat} {x : Str} {pos : Pos} (xo : XOk G N sc k X) (go : GOk G T) (hg : T.gl g = some x) (hl : sc.names.lookup x = some .globalImplicit) (hd : (x == ("__debug__" : Str)) = false) : PE X (.Name x pos) (rdE G T O W (.glo g)) := by
  obtain ⟨u, v, h1, h2, h3⟩ := go.gl g x hg
  refine PE.of (pe_glob (xgl xo hl) (by rw [xo.mg]; exact h1) h2 hd) fun σ H Q ⟨F, τ, S, ρ, P, E, a, w, f, fx⟩ => ?_
  rw [wpE] at w
  exact f.here a.sim w (h3 _ _ _ _ a.sim)
/-! ### operators -/
theorem ok_bin {a b : IE} {l r : Expr} {op : Operator} {fz : Bool} {pos : Pos} (xo : XOk G N sc k X) (ha : PE X l (rdE G T O W a)) (hb : PE X r (rdE G T O W b)) : PE X (.BinOp l op r pos) (rdE G T O W (.bin op fz a b)) := by
  refine PE.of (pe_op (OpR.ex fun F => bin_ok (G := G.frm F) xo.K op fz) ha hb) fun σ H Q ⟨F, τ, S, ρ, P, E, a, w, f, fx⟩ => ?_
  rw [wpE] at w
  exact rd2e a w fx fun x y S2 ρ2 H2 u v p a2 t r1 r2 => ⟨F, S2, ρ2, x, y, P, a2.sim, r1, r2, p, f.step t⟩
theorem ok_modp {a b : IE} {l r : Expr} {pos : Pos} (ha : PE X l (rdE G T O W a)) (hb : PE X r (rdE G T O W b)) : PE X (.BinOp l .Mod r pos) (rdE G T O W (.modp a b)) := by
  refine PE.of (pe_op (OpR.ex fun F => modp_ok (G := G.frm F)) ha hb) fun σ H Q ⟨F, τ, S, ρ, P, E, a, w, f, fx⟩ => ?_
  rw [wpE] at w
  exact rd2e a w fx fun x y S2 ρ2 H2 u v p a2 t r1 r2 => ⟨F, S2, ρ2, x, y, P, a2.sim, r1, r2, p, f.step t⟩
theorem ok_divp {a b : IE} {l r : Expr} {pos : Pos} (ha : PE X l (rdE G T O W a)) (hb : PE X r (rdE G T O W b)) : PE X (.BinOp l .FloorDiv r pos) (rdE G T O W (.divp a b)) := by
  refine PE.of (pe_op (OpR.ex fun F => divp_ok (G := G.frm F)) ha hb) fun σ H Q ⟨F, τ, S, ρ, P, E, a, w, f, fx⟩ => ?_
  rw [wpE] at w
  exact rd2e a w fx fun x y S2 ρ2 H2 u v p a2 t r1 r2 => ⟨F, S2, ρ2, x, y, P, a2.sim, r1, r2, p, f.step t⟩
theorem ok_neg {a : IE} {e : Expr} {pos : Pos} (ha : PE X e (rdE G T O W a)) : PE X (.UnaryOp .USub e pos) (rdE G T O W (.neg a)) := by
  refine PE.of (pe_un un_neg ha) fun σ H Q ⟨F, τ, S, ρ, P, E, a, w, f, fx⟩ => ?_
  rw [wpE] at w
  refine rd1 a w fx fun x S2 ρ2 H2 u p a2 t r => ?_
  split at p
  · cases r
    exact ⟨_, rfl, (f.step t).here a2.sim p (.int _)⟩
  · exact p.elim
theorem ok_not {a : IE} {e : Expr} {pos : Pos} (ha : PE X e (rdE G T O W a)) : PE X (.UnaryOp .Not e pos) (rdE G T O W (.not a)) := by
  refine PE.of (pe_not ha) fun σ H Q ⟨F, τ, S, ρ, P, E, a, w, f, fx⟩ => ?_
  rw [wpE] at w
  refine rd1 a w fx fun x S2 ρ2 H2 u p a2 t r => ?_
  split at p
  · cases r
    exact ⟨_, rfl, (f.step t).here a2.sim p (.bl _)⟩
  · exact p.elim
theorem ok_and {a b : IE} {x y : Expr} {rest : List Expr} {pos : Pos} (ha : PE X x (rdE G T O W a)) (hb : PE X (.BoolOp .And (y :: rest) pos) (rdE G T O W b)) : PE X (.BoolOp .And (x :: y :: rest) pos) (rdE G T O W (.and_ a b)) := by
  refine PE.of (pe_and ha hb) fun σ H Q ⟨F, τ, S, ρ, P, E, a, w, f, fx⟩ => ?_
  rw [wpE] at w
  refine rd1 a w fx fun x S2 ρ2 H2 u p a2 t r => ?_
  split at p
  · cases r
    rcases iteW_e p with ⟨e, p⟩ | ⟨e, p⟩
    · exact ⟨_, rfl, by rw [e, if_pos rfl]; exact ⟨F, _, _, _, _, _, a2, p, f.step t, fx.step t⟩⟩
    · exact ⟨_, rfl, by rw [e, if_neg Bool.false_ne_true]; exact (f.step t).here a2.sim p (.bl _)⟩
  · exact p.elim
theorem ok_or {a b : IE} {x y : Expr} {rest : List Expr} {pos : Pos} (ha : PE X x (rdE G T O W a)) (hb : PE X (.BoolOp .Or (y :: rest) pos) (rdE G T O W b)) : PE X (.BoolOp .Or (x :: y :: rest) pos) (rdE G T O W (.or_ a b)) := by
  refine PE.of (pe_or ha hb) fun σ H Q ⟨F, τ, S, ρ, P, E, a, w, f, fx⟩ => ?_
  rw [wpE] at w
  refine rd1 a w fx fun x S2 ρ2 H2 u p a2 t r => ?_
  split at p
  · cases r
    rcases iteW_e p with ⟨e, p⟩ | ⟨e, p⟩
    · exact ⟨_, rfl, by rw [e, if_pos rfl]; exact (f.step t).here a2.sim p (.bl _)⟩
    · exact ⟨_, rfl, by rw [e, if_neg Bool.false_ne_true]; exact ⟨F, _, _, _, _, _, a2, p, f.step t, fx.step t⟩⟩
  · exact p.elim
/-! ### comparisons -/
theorem cmp_ok (hK : X.K = G.K) (hr : Room k X.A) (op : CmpOp) : OpR X (compareOp op) (rd2 G (cmpW op)) := by
  cases op with
  | Eq => exact eq_ok hK hr
  | NotEq => exact ne_ok hK hr
  | Lt => exact ord_ok op_lt
  | LtE => exact ord_ok op_le
  | Gt => exact ord_ok op_gt
  | GtE => exact ord_ok op_ge
  | Is => exact is_okW
  | IsNot => exact isnt_okW
  | In => exact in_core false rfl hK hr
  | NotIn => exact in_core true rfl hK hr
theorem eqW_imp {x y : D} {R R' : Bool → Prop} (m : ∀ b, R b → R' b) (h : eqW x y R) : eqW x y R' := by
  unfold eqW at h ⊢
  split at h <;> first
    | exact m _ h
    | exact ⟨h.1, m _ h.2⟩
theorem inSeq_imp {x : D} {xs : List D} {R R' : Bool → Prop} (m : ∀ b, R b → R' b) (h : inSeq x xs R) : inSeq x xs R' := by
  unfold inSeq at h ⊢
  split at h <;> exact ⟨h.1, m _ h.2⟩
theorem inW_imp {x y : D} {S : Store} {R R' : Bool → Prop} (m : ∀ b, R b → R' b) (h : inW x y S R) : inW x y S R' := by
  unfold inW inSW at h ⊢
  split at h <;> first
    | exact h.elim
    | exact inSeq_imp m h
    | exact ⟨h.1, m _ h.2⟩
    | (split at h <;> first
        | exact m _ h
        | exact h.elim
        | exact inSeq_imp m h
        | exact ⟨h.1, m _ h.2⟩)
theorem isW_imp {x y : D} {R R' : Bool → Prop} (m : ∀ b, R b → R' b) (h : isW x y R) : isW x y R' := by
  unfold isW at h ⊢
  split at h <;> first
    | exact m _ h
    | exact h.elim
    | (split at h <;> first
        | exact h.elim
        | exact m _ h)
/-- a comparison is a bool -/
theorem cmpW_imp {op : CmpOp} {x y : D} {S : Store} {Q Q' : QD} (m : ∀ b S, Q (.bl b) S → Q' (.bl b) S) (h : cmpW op x y S Q) : cmpW op x y S Q' := by
  cases op <;> simp only [cmpW] at h ⊢ <;> first
    | exact eqW_imp (fun _ => m _ _) h
    | exact isW_imp (fun _ => m _ _) h
    | exact inW_imp (fun _ => m _ _) h
    | (unfold ordW at h ⊢
       split at h <;> first
        | exact m _ _ h
        | exact h.elim)
theorem ok_cmp {a b : IE} {l r : Expr} {op : CmpOp} {pos : Pos} (xo : XOk G N sc k X) (hs : noSet r = true) (ha : PE X l (rdE G T O W a)) (hb : PE X r (rdE G T O W b)) : PE X (.Compare l [op] [r] pos) (rdE G T O W (.cmp op a b)) := by
  refine PE.of (pe_cmpR (OpR.ex fun F => cmp_ok (G := G.frm F) xo.K xo.room op) ha hb (noSet_in hs)) fun σ H Q ⟨F, τ, S, ρ, P, E, a, w, f, fx⟩ => ?_
  rw [wpE] at w
  exact rd2e a w fx fun x y S2 ρ2 H2 u v p a2 t r1 r2 => ⟨F, S2, ρ2, x, y, P, a2.sim, r1, r2, p, f.step t⟩
theorem okT_cmp {a b : IE} {l r : Expr} {op : CmpOp} {pos : Pos} (xo : XOk G N sc k X) (hs : noSet r = true) (ha : PE X l (rdE G T O W a)) (hb : PE X r (rdE G T O W b)) : PT X (.Compare l [op] [r] pos) (rdT G T O W (.val (.cmp op a b))) := by
  refine PT.of (pt_cmpR (OpR.ex fun F => cmp_ok (G := G.frm F) xo.K xo.room op) ha hb (noSet_in hs)) fun σ H Q ⟨F, τ, S, ρ, P, E, a, w, f, fx⟩ => ?_
  rw [wpT, wpE] at w
  refine rd2e a w fx fun x y S2 ρ2 H2 u v p a2 t r1 r2 => ⟨F, S2, ρ2, x, y, fun d S3 => ∃ b, d = .bl b ∧ P b S3, a2.sim, r1, r2, cmpW_imp (fun b S h => ⟨b, rfl, h⟩) p, ?_⟩
  rintro d S3 ρ3 H3 u3 ⟨b, rfl, p3⟩ s3 t3 r3
  cases r3
  exact ⟨b, rfl, f b S3 ρ3 H3 p3 s3 (t.trans t3)⟩
theorem rd_chn {a b c : IE} {op op' : CmpOp} {P : QD} {Q : VK} (a0 : At (G.frm F) τ S ρ σ H) (w : wpE T O (.chn op op' a b c) τ S P E) (fx : FinX (G.frm F) S ρ H E (WE W σ)) (f : Fin (G.frm F) S ρ H P Q) :
    tChain (fun u v H Q => ∃ F, rd2 (G.frm F) (cmpW op) u v H Q) (fun u v H Q => ∃ F, rd2 (G.frm F) (cmpW op') u v H Q) (rdE G T O W a) (rdE G T O W b) (rdE G T O W c) σ H Q := by
  rw [wpE] at w
  refine rd2e a0 w fx fun x y S2 ρ2 H2 u v p a2 t r1 r2 => ⟨F, S2, ρ2, x, y, _, a2.sim, r1, r2, p, ?_⟩
  intro d S3 ρ3 H3 u3 p3 s3 t3 r3
  split at p3
  · cases r3
    refine ⟨_, rfl, ?_⟩
    rcases iteW_e p3 with ⟨e, p3⟩ | ⟨e, p3⟩
    · rw [e, if_pos rfl]
      refine rd1 (a2.step s3 t3) p3 (fx.step (t.trans t3)) fun z S4 ρ4 H4 u4 p4 a4 t4 r4 => ⟨F, S4, ρ4, y, z, _, a4.sim, t4.rv (t3.rv r2), r4, p4, f.step ((t.trans t3).trans t4)⟩
    · rw [e, if_neg Bool.false_ne_true]
      exact (f.step (t.trans t3)).here s3 p3 (.bl _)
  · exact p3.elim
theorem lastM {op op' : CmpOp} {m r : Expr} (hs : noSet r = true) : lastMarks [op, op'] [m, r] = false := noSet_in hs
theorem ok_chn {a b c : IE} {l m r : Expr} {op op' : CmpOp} {pos : Pos} (xo : XOk G N sc k X) (hs : noSet r = true) (ha : PE X l (rdE G T O W a)) (hb : PE X m (rdE G T O W b)) (hc : PE X r (rdE G T O W c)) :
    PE X (.Compare l [op, op'] [m, r] pos) (rdE G T O W (.chn op op' a b c)) :=
  PE.of (pe_chain (OpR.ex fun F => cmp_ok (G := G.frm F) xo.K xo.room op) (OpR.ex fun F => cmp_ok (G := G.frm F) xo.K xo.room op') ha hb hc (lastM hs)) fun σ H Q ⟨F, τ, S, ρ, P, E, a, w, f, fx⟩ => rd_chn a w fx f
theorem okT_chn {a b c : IE} {l m r : Expr} {op op' : CmpOp} {pos : Pos} (xo : XOk G N sc k X) (hs : noSet r = true) (ha : PE X l (rdE G T O W a)) (hb : PE X m (rdE G T O W b)) (hc : PE X r (rdE G T O W c)) :
    PT X (.Compare l [op, op'] [m, r] pos) (rdT G T O W (.chn op op' a b c)) := by
  refine PT.of (pt_chain (OpR.ex fun F => cmp_ok (G := G.frm F) xo.K xo.room op) (OpR.ex fun F => cmp_ok (G := G.frm F) xo.K xo.room op') ha hb hc (lastM hs)) fun σ H Q ⟨F, τ, S, ρ, P, E, a0, w, f, fx⟩ => ?_
  rw [wpT] at w
  refine rd2e a0 w fx fun x y S2 ρ2 H2 u v p a2 t r1 r2 => ⟨F, S2, ρ2, x, y, _, a2.sim, r1, r2, p, ?_⟩
  intro d S3 ρ3 H3 u3 p3 s3 t3 r3
  split at p3
  · cases r3
    refine ⟨_, rfl, ?_⟩
    rcases iteW_e p3 with ⟨e, p3⟩ | ⟨e, p3⟩
    · rw [e, if_pos rfl]
      refine rd1 (a2.step s3 t3) p3 (fx.step (t.trans t3)) fun z S4 ρ4 H4 u4 p4 a4 t4 r4 => ⟨F, S4, ρ4, y, z, _, a4.sim, t4.rv (t3.rv r2), r4, p4, ?_⟩
      intro d5 S5 ρ5 H5 u5 p5 s5 t5 r5
      split at p5
      · cases r5
        exact ⟨_, rfl, f _ _ _ _ p5 s5 (((t.trans t3).trans t4).trans t5)⟩
      · exact p5.elim
    · rw [e, if_neg Bool.false_ne_true]
      exact ⟨_, rfl, f _ _ _ _ p3 s3 (t.trans t3)⟩
  · exact p3.elim
end
end DL

set_option maxHeartbeats 1000000
/-! DL 7b: the expressions' cases, more -/
namespace DL
open PySem PySem.Spec PyProof.Rows L2
section
variable {G : Gd} {T : Tab} {N : List Str} {sc : Scope} {k : Nat} {X : Cx} {W : WX} {O : Orc} {F : Addr → Prop} {τ : Sl} {S : Store} {ρ : List Addr} {σ : L2.St} {H : Hp} {E : QD}
theorem ok_ifx {c : IT} {a b : IE} {t l r : Expr} {pos : Pos} (hc : PT X t (rdT G T O W c)) (ha : PE X l (rdE G T O W a)) (hb : PE X r (rdE G T O W b)) : PE X (.IfExp t l r pos) (rdE G T O W (.ifx c a b)) := by
  refine PE.of (pe_ifExp hc ha hb) fun σ H Q ⟨F, τ, S, ρ, P, E, a0, w, f, fx⟩ => ?_
  rw [wpE] at w
  refine rdTe a0 w fx fun b S2 ρ2 H2 p a2 t => ?_
  rcases iteW_e p with ⟨e, p⟩ | ⟨e, p⟩
  · rw [e, if_pos rfl]; exact ⟨F, _, _, _, _, _, a2, p, f.step t, fx.step t⟩
  · rw [e, if_neg Bool.false_ne_true]; exact ⟨F, _, _, _, _, _, a2, p, f.step t, fx.step t⟩
theorem ok_idx {a b : IE} {l r : Expr} {pos : Pos} (xo : XOk G N sc k X) (hs : noSlice r = true) (ha : PE X l (rdE G T O W a)) (hb : PE X r (rdE G T O W b)) : PE X (.Subscript l r pos) (rdE G T O W (.idx a b)) := by
  refine PE.of (pe_ix (IxR.ex fun F => idx_ok (G := G.frm F) xo.K xo.room) ha hb (plainIx hs)) fun σ H Q ⟨F, τ, S, ρ, P, E, a, w, f, fx⟩ => ?_
  rw [wpE] at w
  exact rd2e a w fx fun x y S2 ρ2 H2 u v p a2 t r1 r2 => ⟨F, S2, ρ2, x, y, P, a2.sim, r1, r2, p, f.step t⟩
theorem ok_kget {g : Nat} {a : IE} {x : Str} {r : Expr} {p pos : Pos} (xo : XOk G N sc k X) (go : GOk G T) (hs : noSlice r = true) (hg : T.kdn g = some x) (hl : sc.names.lookup x = some .globalImplicit) (hd : (x == ("__debug__" : Str)) = false) (hb : PE X r (rdE G T O W a)) :
    PE X (.Subscript (.Name x p) r pos) (rdE G T O W (.kget g a)) := by
  obtain ⟨ad, h1, h2⟩ := go.kd g x hg
  refine PE.of (pe_ix ix_kdict (pe_glob (v := .ref ad) (xgl xo hl) (by rw [xo.mg]; exact h1) rfl hd) hb (plainIx hs)) fun σ H Q ⟨F, τ, S, ρ, P, E, a, w, f, fx⟩ => ?_
  rw [wpE] at w
  refine rd1 a w fx fun y S2 ρ2 H2 u q a2 t r => ?_
  split at q <;> try exact q.elim
  split at q <;> try exact q.elim
  rename_i z e
  cases r
  exact ⟨ad, _, _, rfl, rfl, by rw [xo.K, xo.w]; exact h2 _ _ e, f _ _ _ _ _ q a2.sim t (.str _)⟩
theorem ok_slc {a : IE} {lo hi : List IE} {e : Expr} {l h : Option Expr} {fz : Bool} {p2 pos : Pos} (xo : XOk G N sc k X) (ha : PE X e (rdE G T O W a)) (hl : PO X l (rdP G T O W lo)) (hh : PO X h (rdP G T O W hi)) :
    PE X (.Subscript e (.Slice l h none p2) pos) (rdE G T O W (.slc fz a lo hi)) := by
  refine PE.of (pe_slice (SlR.ex fun F => slc_ok (G := G.frm F) xo.K fz) ha hl hh) fun σ H Q ⟨F, τ, S, ρ, P, E, a, w, f, fx⟩ => ?_
  rw [wpE] at w
  exact rd1 a w fx fun x S2 ρ2 H2 u p a2 t r => rdPe a2 p (fx.step t) fun i S3 ρ3 H3 p3 a3 t3 => rdPe a3 p3 (fx.step (t.trans t3)) fun j S4 ρ4 H4 p4 a4 t4 =>
    ⟨F, S4, ρ4, x, P, a4.sim, t4.rv (t3.rv r), p4, f.step ((t.trans t3).trans t4)⟩
theorem okP_nil : PO X none (rdP G T O W []) := PO.of po_none fun σ H Q ⟨F, τ, S, ρ, P, E, a, w, f, fx⟩ => by
  rw [wpP] at w
  exact f _ _ _ _ w a.sim Stp.refl
theorem okP_one {a : IE} {e : Expr} (ha : PE X e (rdE G T O W a)) : PO X (some e) (rdP G T O W [a]) := PO.of (po_some ha) fun σ H Q ⟨F, τ, S, ρ, P, E, a, w, f, fx⟩ => by
  rw [wpP] at w
  refine rd1 a w fx fun x S2 ρ2 H2 u p a2 t r => ?_
  split at p
  · cases r
    exact ⟨_, rfl, f _ _ _ _ p a2.sim t⟩
  · exact p.elim
theorem ok_rev {a : IE} {e : Expr} {fz : Bool} {j : Nat} {p1 p2 p3 pos : Pos} (xo : XOk G N sc k X) (ha : PE X e (rdE G T O W a)) : PE X (.Subscript e (.Slice none none (some (.UnaryOp .USub (.Constant (.int 1) j p1) p2)) p3) pos) (rdE G T O W (.rev fz a)) := by
  refine PE.of (pe_revAny ha) fun σ H Q ⟨F, τ, S, ρ, P, E, a, w, f, fx⟩ => ?_
  rw [wpE] at w
  refine rd1 a w fx fun x S2 ρ2 H2 u p a2 t r => ?_
  unfold revW at p
  split at p
  · cases r with
    | tup hz rr => exact ⟨_, _, rfl, .inr ⟨by rw [xo.K]; exact hz.seq, fun q hq => Fin.newT a2.sim (f.step t) hq rr.reverse p⟩⟩
  · split at p
    · rename_i e
      obtain ⟨b, us, rfl, h1, h2⟩ := lstOf_at a2.sim e r
      exact ⟨b, us, rfl, .inl ⟨SqL.of h1, fun q hq => Fin.new a2.sim (f.step t) hq h2.reverse p⟩⟩
    · exact p.elim
theorem ok_fld {a : IE} {e : Expr} {i : Nat} {x : Str} {pos : Pos} (xo : XOk G N sc k X) (go : GOk G T) (hs : noSup e = true) (hx : T.nm i = x) (ha : PE X e (rdE G T O W a)) : PE X (.Attribute e x pos) (rdE G T O W (.fld a i)) := by
  refine PE.of (pe_fld ha (attr_base hs _ _ _)) fun σ H Q ⟨F, τ, S, ρ, P, E, a, w, f, fx⟩ => ?_
  rw [wpE] at w
  refine rd1 a w fx fun x S2 ρ2 H2 u p a2 t r => ?_
  obtain ⟨b, C, dx, fl, v, y, rfl, h1, h2, h3, h4, h5, h6⟩ := fld_at a2.sim r p
  have en : (G.frm F).nm i = T.nm i := go.nm i
  subst hx
  refine ⟨b, C, dx, fl, v, rfl, h1, ?_, ?_, ?_, (f.step t).here a2.sim h6 h5⟩
  · rw [xo.K]; exact h2
  · rw [xo.K]; rw [en] at h3; exact h3
  · rw [en] at h4; exact h4
/-! ### lists of expressions -/
theorem okL_nil : PA X [] (rdL G T O W []) := PA.of pa_nil fun σ H Q ⟨F, τ, S, ρ, P, E, a, w, f, fx⟩ => by
  rw [wpL] at w
  exact f _ _ _ _ _ rfl w a.sim Stp.refl .nil
theorem okL_cons {a : IE} {as : List IE} {e : Expr} {es : List Expr} (hp : plainX e = true) (ha : PE X e (rdE G T O W a)) (hr : PA X es (rdL G T O W as)) : PA X (e :: es) (rdL G T O W (a :: as)) :=
  PA.of (pa_cons ha hr (star_eq hp _ _)) fun σ H Q ⟨F, τ, S, ρ, P, E, a, w, f, fx⟩ => by
    rw [wpL] at w
    exact rd1 a w fx fun x S2 ρ2 H2 u p a2 t r => rdLe a2 p (fx.step t) fun xs S3 ρ3 H3 us n p3 a3 t3 r3 => f _ _ _ _ _ (by simp [n]) p3 a3.sim (t.trans t3) (.cons (t3.rv r) r3)
theorem ok_tup {as : List IE} {es : List Expr} {j : Nat} {pos : Pos} (hl : as.length < 1000) (h : PA X es (rdL G T O W as)) : PE X (.Tuple es j pos) (rdE G T O W (.tup as)) := by
  refine PE.of (pe_tup h) fun σ H Q ⟨F, τ, S, ρ, P, E, a, w, f, fx⟩ => ?_
  rw [wpE] at w
  refine rdLe a w fx fun xs S2 ρ2 H2 us n p a2 t r => ⟨?_, fun q hq => Fin.newT a2.sim (f.step t) hq r p⟩
  rw [line, ← r.length, n]
  omega
theorem ok_lst {as : List IE} {es : List Expr} {fz : Bool} {pos : Pos} (hl : as.length < 1000) (h : PA X es (rdL G T O W as)) : PE X (.List es pos) (rdE G T O W (.lst fz as)) := by
  refine PE.of (pe_lst h) fun σ H Q ⟨F, τ, S, ρ, P, E, a, w, f, fx⟩ => ?_
  rw [wpE] at w
  refine rdLe a w fx fun xs S2 ρ2 H2 us n p a2 t r => ⟨?_, fun q hq => Fin.new a2.sim (f.step t) hq r p⟩
  rw [line, ← r.length, n]
  omega
theorem ok_dct {vs : List IE} {pos : Pos} : PE X (.Dict [] [] pos) (rdE G T O W (.dct [] vs)) := by
  refine PE.of pe_dnewK fun σ H Q ⟨F, τ, S, ρ, P, E, a, w, f, fx⟩ => ?_
  rw [wpE] at w
  intro p hp
  have st : Stp (G.frm F) S (S ++ [.dct [] []]) ρ (ρ ++ [p]) H (upd H p (.dK [])) := Stp.cell a.sim hp
  refine f (.ref S.length) (S ++ [.dct [] []]) (ρ ++ [p]) (upd H p (.dK [])) _ w (Sim.cell (c := .dct [] []) a.sim hp ⟨[], upd_same, .nil⟩) st (.ref ?_)
  rw [← a.sim.len, List.getElem?_append_right (Nat.le_refl _)]
  simp
/-! ### calls -/
theorem hasNo (xo : XOk G N sc k X) (go : GOk G T) {x : Str} (h : T.fre x = true) : X.mg x = none := by rw [xo.mg]; exact go.bi x h
theorem fnok (xo : XOk G N sc k X) {k' : Nat} {f : Addr} {fd : FuncData} {ps : List Str} {sp : Sp} (F : FnOk G.P G.w G.K G.mg G.base (CX G.P G.w) k' f fd ps sp) : FnOk X.prog X.w X.K X.mg X.base (L2.CX X.prog X.w) k' f fd ps sp := by
  rw [xo.prog, xo.w, xo.K, xo.mg, xo.base]; exact F
theorem bndok (xo : XOk G N sc k X) {fd : FuncData} {ps : List Str} {ds : List Value} (h : Binds G.K fd ps ds) : Binds X.K fd ps ds := by rw [xo.K]; exact h
theorem kpok (xo : XOk G N sc k X) {v : Value} (h : PySem.W.keepIn G.K v = true) : PySem.W.keepIn X.K v = true := by rw [xo.K]; exact h
/-- a call's arguments, then the call -/
theorem callArgs {args : List Expr} {as : List IE} {pos : Pos} {f : Value} {first : List Value} {pins : List (Addr × Obj)} {s : Shared} {Q : VK} {R : List D → Store → Prop} (xo : XOk G N sc k X) (hk : PySem.W.keepIn G.K f = true)
    (ha : PA X args (rdL G T O W as)) (hp : args.all plainX = true) (hn : args.length = as.length) (I : Inv X pins σ H s) (a0 : At (G.frm F) τ S ρ σ H) (w : wpL T O as τ S R E) (fx : FinX (G.frm F) S ρ H E (WE W σ))
    (h : ∀ xs S2 ρ2 H2 us vs s2, Inv X pins σ H2 s2 → R xs S2 → At (G.frm F) τ S2 ρ2 σ H2 → Stp (G.frm F) S S2 ρ ρ2 H H2 → RVsl (G.frm F) S2 ρ2 H2 xs us → Vals us vs → wpAny (model X.prog X.w) X.A (call f (first ++ vs)) (EP X pins σ Q) X.xe s2) :
    wpAny (model X.prog X.w) X.A (callWith pos f first (backTo pos (starEach args X.env)) (backToKw pos (keywordEach [] X.env))) (EP X pins σ Q) X.xe s := by
  cases args with
  | nil =>
    cases as with
    | cons a r => cases hn
    | nil =>
      rw [wpL] at w
      have := h [] S ρ H [] [] s I w a0 Stp.refl .nil .nil
      exact PySem.W.callWith_K0 I.kIn (kpok xo hk) this
  | cons e es =>
    rw [List.all_cons, Bool.and_eq_true] at hp
    refine PySem.W.callWith_K (h₀ := X.base) I.ok.mod.kin (kpok xo hk) (thn (ha.run pos pins s σ H _ I (rdLe (K := fun us H2 => ∃ xs S2 ρ2, R xs S2 ∧ At (G.frm F) τ S2 ρ2 σ H2 ∧ Stp (G.frm F) S S2 ρ ρ2 H H2 ∧ RVsl (G.frm F) S2 ρ2 H2 xs us) a0 w fx
      fun xs S2 ρ2 H2 us n p a2 t r => ⟨xs, S2, ρ2, p, a2, t, r⟩)) fun vs s1 ⟨us, H1, I1, r, xs, S2, ρ2, p, a2, t, rr⟩ => ⟨I1.kIn, ?_⟩) (star_eq hp.1 _ _) (star_all pos X.env hp.2).1
    exact h xs S2 ρ2 H1 us vs s1 I1 p a2 t rr r
theorem ok_call {i : Nat} {as : List IE} {args : List Expr} {x : Str} {p pos : Pos} (xo : XOk G N sc k X) (go : GOk G T) (tk : Takes X W) (hf : T.fn i = some x) (hl : sc.names.lookup x = some .globalImplicit) (hd : (x == ("__debug__" : Str)) = false)
    (ha : PA X args (rdL G T (orc G T k) W as)) (hp : args.all plainX = true) (hn : args.length = as.length) : PE X (.Call (.Name x p) args [] pos) (rdE G T (orc G T k) W (.call i as)) := by
  refine ⟨fun pins s σ H Q I ⟨F, τ, S, ρ, P, E, a0, w, f, fx⟩ => ?_⟩
  rw [wpE] at w
  obtain ⟨hm, hk⟩ := go.fn i x hf
  refine wpAny_Call_Name_kw (ld_glob I (xgl xo hl) (by rw [xo.mg]; exact hm) ?_ hd)
  refine callArgs (first := []) xo hk ha hp hn I a0 w fx fun xs S2 ρ2 H2 us vs s2 I2 q a2 t rr r => ?_
  obtain ⟨ps, FO, B⟩ := callP_e q
  exact run_fnS (fnok xo FO) xo.room (bndok xo B) (passAt tk σ) I2 r ⟨F, ρ2, a2.sim, rr, f.step t, fx.step t⟩
theorem cls_at {d : D} {c : Nat} {u : V} (sim : Sim G S ρ H) (h : RVl G S ρ H d u) (e : clsOf S d = some c) : ∃ a dx fl ns, u = .ref a ∧ H a = some (.ins (G.ca c) dx fl) ∧ Closed G c ns fl ∧ nsOf S d = some ns := by
  unfold clsOf at e
  split at e
  · cases e
    cases h with
    | ins h k r => exact ⟨_, _, _, _, rfl, h.2, k, rfl⟩
  · split at e
    · cases e
      rename_i e0
      obtain ⟨a, dx, fl, rfl, h1, h2, h3, _⟩ := sim.obj_at e0 h
      exact ⟨a, dx, fl, _, rfl, h1, h2, by simp only [nsOf, e0]⟩
    · cases e
  · cases e
theorem hasN_mem : ∀ {ns : List Nat} {m : Nat}, hasN ns m = false → m ∉ ns
  | [], _, _ => by simp
  | n :: r, m, h => by
    unfold hasN at h
    split at h
    · cases h
    · rename_i e
      have := hasN_mem h
      intro q
      rcases List.mem_cons.mp q with q | q
      · subst q
        rw [Nat.beq_refl] at e; cases e
      · exact this q
/-- what a method is found as -/
theorem mth_at {d : D} {m i : Nat} {u : V} (go : GOk G T) (sim : Sim (G.frm F) S ρ H) (h : RVl (G.frm F) S ρ H d u) (e : mthOf T S d m = some i) :
    ∃ a C dx fl, u = .ref a ∧ H a = some (.ins C dx fl) ∧ Cls G.K C ∧ Meth G.K C (T.nm m) (G.fa i) ∧ fl.lookup (T.nm m) = none := by
  unfold mthOf at e
  split at e
  · rename_i c ns ec en
    split at e
    · rename_i eh
      obtain ⟨a, dx, fl, ns', rfl, h1, h2, h3⟩ := cls_at sim h ec
      rw [en] at h3
      cases h3
      refine ⟨a, _, dx, fl, rfl, h1, h2.cls, go.mth c m i e, h2.none _ fun n hn q => hasN_mem eh ?_⟩
      have en : (G.frm F).nm n = T.nm n := go.nm n
      rw [en] at q
      rw [← go.mthn c m i n e q.symm]
      exact hn
    · cases e
  · cases e
theorem ok_meth {a : IE} {m : Nat} {as : List IE} {o : Expr} {args : List Expr} {x : Str} {apos pos : Pos} (xo : XOk G N sc k X) (go : GOk G T) (tk : Takes X W) (hs : noSup o = true) (hx : T.nm m = x) (hln : (apos.endLine == pos.line) = true)
    (ho : PE X o (rdE G T (orc G T k) W a)) (ha : PA X args (rdL G T (orc G T k) W as)) (hp : args.all plainX = true) (hn : args.length = as.length) (h30 : as.length < 25) :
    PE X (.Call (.Attribute o x apos) args [] pos) (rdE G T (orc G T k) W (.meth a m as)) := by
  refine ⟨fun pins s σ H Q I ⟨F, τ, S, ρ, P, E, a0, w, f, fx⟩ => ?_⟩
  rw [wpE] at w
  have hform : methodCallForm (args.length + ([] : List Keyword).length) (backTo pos (starEach args X.env)) (backToKw pos (keywordEach [] X.env)) = true := by
    unfold methodCallForm
    rw [(star_all pos X.env hp).2.1]
    show (true && true && decide (args.length + 0 + 0 < 30)) = true
    simp
    omega
  refine PySem.W.methodCall_KW (pl := plainOf o X.env) (thn (ho.run pins s σ H _ I (rd1 (K := fun u H1 => ∃ x S2 ρ2, At (G.frm F) τ S2 ρ2 σ H1 ∧ Stp (G.frm F) S S2 ρ ρ2 H H1 ∧ RVl (G.frm F) S2 ρ2 H1 x u ∧ _) a0 w fx fun x S2 ρ2 H2 u p a2 t r => ⟨x, S2, ρ2, a2, t, r, p⟩))
    fun u s1 ⟨v, H1, I1, rx, d, S2, ρ2, a2, t, rd, q⟩ => ?_) ?_
  · split at q
    · rename_i i em
      obtain ⟨b, C, dx, fl, rfl, h1, h2, h3, h4⟩ := mth_at go a2.sim rd em
      cases (show u = Value.ref b from rx)
      subst hx
      refine getmeth_ok I1 h1 (by rw [xo.K]; exact h2) (by rw [xo.K]; exact h3) h4 ?_
      refine callArgs (first := [.ref b]) xo h3.kp ha hp hn I1 a2 q (fx.step t) fun xs S3 ρ3 H3 us vs s3 I3 q3 a3 t3 rr r => ?_
      obtain ⟨ps, FO, B⟩ := callP_e q3
      exact run_fnS (us := .ref b :: vs) (vs := .ref b :: us) (fnok xo FO) xo.room (bndok xo B) (passAt tk σ) I3 (.cons rfl r) ⟨F, ρ3, a3.sim, .cons (t3.rv rd) rr, (f.step t).step t3, (fx.step t).step t3⟩
    · exact q.elim
  · rw [arm_eval_Call, attr_base hs]
    have e : ∀ ov, methodCall o x apos pos X.env ov (args.length + ([] : List Keyword).length) (backTo pos (starEach args X.env)) (backToKw pos (keywordEach [] X.env)) = _ := fun ov => mcall_line hform hln
    simp only [e]
theorem newAt (xo : XOk G N sc k X) (go : GOk G T) {c : Nat} {xs : List D} {us : List V} {vs : List Value} {pins : List (Addr × Obj)} {s : Shared} {P : QD} {Q : VK} (tk : Takes X W) (I : Inv X pins σ H s) (sim : Sim (G.frm F) S ρ H) (r : RVsl (G.frm F) S ρ H xs us) (rv : Vals us vs)
    (w : NewP G T k c xs S P) (fin : Fin (G.frm F) S ρ H P Q) : wpAny (model X.prog X.w) X.A (call (.ref (G.ca c)) vs) (EP X pins σ Q) X.xe s := by
  obtain ⟨f, k', hi, rfl, w2⟩ := newP_e w
  obtain ⟨ps, FO, B⟩ := callP_e w2
  refine run_make (E := fun _ _ _ => False) (dvs := []) (ds := []) (by rw [xo.K]; exact go.mk c f hi) (fnok xo FO) xo.room (bndok xo B) .nil (fun pins σ H s e s' I c => tk e s' (XE.of_call I (fun _ _ _ h => h.elim) c)) I rv fun x dx hx hd ne => ?_
  rw [List.append_nil]
  have h1 : upd H dx (.own x) x = none := by rw [upd_ne (Ne.symm ne)]; exact hx
  have s1 : Sim (G.frm F) S ρ (upd H dx (.own x)) := sim.laid hd
  have st : Stp (G.frm F) S (S ++ [.obj c [] []]) ρ (ρ ++ [x]) H (upd (upd H dx (.own x)) x (.ins (G.ca c) dx [])) := (Stp.laid sim hd).trans (Stp.cell s1 h1)
  have hc : Cls G.K (G.ca c) := go.ccls c f hi
  have s2 : Sim (G.frm F) (S ++ [.obj c [] []]) (ρ ++ [x]) (upd (upd H dx (.own x)) x (.ins (G.ca c) dx [])) := Sim.cell s1 h1 ⟨dx, [], upd_same, ⟨fun _ _ => rfl, Nat.le_refl _, fun n h => absurd h (List.not_mem_nil), hc, List.nodup_nil, go.eqo c f hi⟩, .nil⟩
  have rx : RVl (G.frm F) (S ++ [.obj c [] []]) (ρ ++ [x]) (upd (upd H dx (.own x)) x (.ins (G.ca c) dx [])) (.ref S.length) (.ref x) := .ref (by rw [← sim.len, List.getElem?_append_right (Nat.le_refl _)]; simp)
  refine ⟨F, ρ ++ [x], s2, .cons rx (st.rvs r), ?_, FinX.no⟩
  rintro d S' ρ' H' u ⟨rfl, d2, S2, g, p⟩ s' t' ru
  cases ru
  exact ⟨rfl, Fin.gh sim fin g s' (st.trans t') (t'.rv rx) p⟩
theorem ok_new {i : Nat} {as : List IE} {args : List Expr} {x : Str} {p pos : Pos} (xo : XOk G N sc k X) (go : GOk G T) (tk : Takes X W) (hf : T.cl i = some x) (hl : sc.names.lookup x = some .globalImplicit) (hd : (x == ("__debug__" : Str)) = false)
    (ha : PA X args (rdL G T (orc G T k) W as)) (hp : args.all plainX = true) (hn : args.length = as.length) : PE X (.Call (.Name x p) args [] pos) (rdE G T (orc G T k) W (.new i as)) := by
  refine ⟨fun pins s σ H Q I ⟨F, τ, S, ρ, P, E, a0, w, f, fx⟩ => ?_⟩
  rw [wpE] at w
  obtain ⟨hm, hk⟩ := go.cl i x hf
  refine wpAny_Call_Name_kw (ld_glob I (xgl xo hl) (by rw [xo.mg]; exact hm) ?_ hd)
  exact callArgs (first := []) xo hk ha hp hn I a0 w fx fun xs S2 ρ2 H2 us vs s2 I2 q a2 t rr r => newAt xo go tk I2 a2.sim rr r q (f.step t)
/-! ### built-ins -/
def biN : Bi → Str
  | .len => "len" | .abs => "abs" | .max2 => "max" | .min2 => "min" | .max1 => "max" | .min1 => "min" | .all => "all" | .any => "any" | .sum => "sum" | .sorted => "sorted" | .divmod => "divmod" | .repr => "repr"
  | .str => "str" | .int => "int" | .list => "list" | .tuple => "tuple" | .set => "set" | .dict => "dict"
def biKind : Bi → Sum String String
  | .len => .inl "len" | .abs => .inl "abs" | .max2 => .inl "max" | .min2 => .inl "min" | .max1 => .inl "max" | .min1 => .inl "min" | .all => .inl "all" | .any => .inl "any" | .sum => .inl "sum" | .sorted => .inl "sorted" | .divmod => .inl "divmod" | .repr => .inl "repr"
  | .str => .inr "str" | .int => .inr "int" | .list => .inr "list" | .tuple => .inr "tuple" | .set => .inr "set" | .dict => .inr "dict"
theorem biV_kind (b : Bi) : biV b = match biKind b with | .inl s => .builtin s | .inr s => .type s := by cases b <;> rfl
theorem bi_boot (b : Bi) : bootBuiltins (biN b) = some (biV b) := by cases b <;> decide +kernel
theorem bi_plain (b : Bi) : biN b ≠ "__name__" ∧ (biN b == ("__debug__" : Str)) = false := by cases b <;> exact ⟨by decide +kernel, by decide +kernel⟩
theorem ok_bi {b : Bi} {fz : Bool} {a : IE} {as : List IE} {e : Expr} {es : List Expr} {p pos : Pos} (xo : XOk G N sc k X) (go : GOk G T) (hf : T.fre (biN b) = true) (hl : sc.names.lookup (biN b) = some .globalImplicit)
    (ha : PA X (e :: es) (rdL G T O W (a :: as))) (hp : (e :: es).all plainX = true) : PE X (.Call (.Name (biN b) p) (e :: es) [] pos) (rdE G T O W (.bi b fz (a :: as))) := by
  have hc : CallR X (biV b) (fun u H Q => ∃ F, rdB (G.frm F) (biW b fz) u H Q) := CallR.ex fun F => bi_ok (G := G.frm F) xo.calm xo.K b fz
  rw [List.all_cons, Bool.and_eq_true] at hp
  have go2 : ∀ σ H Q, rdE G T O W (.bi b fz (a :: as)) σ H Q → tCB (fun u H Q => ∃ F, rdB (G.frm F) (biW b fz) u H Q) (rdL G T O W (a :: as)) σ H Q := fun σ H Q ⟨F, τ, S, ρ, P, E, a0, w, f, fx⟩ => by
    rw [wpE] at w
    exact rdLe a0 w fx fun xs S2 ρ2 H2 us n p a2 t r => ⟨F, S2, ρ2, xs, P, a2.sim, r, p, f.step t⟩
  have hb := bi_boot b
  rw [biV_kind b] at hb hc
  cases ek : biKind b with
  | inl s =>
    rw [ek] at hb hc
    exact PE.of (pe_callB hc (xgl xo hl) (hasNo xo go hf) hb ha (bi_plain b).1 (bi_plain b).2 (star_eq hp.1 _ _) (star_all pos X.env hp.2).1) go2
  | inr s =>
    rw [ek] at hb hc
    exact PE.of (pe_callTy hc (xgl xo hl) (hasNo xo go hf) hb ha (bi_plain b).1 (bi_plain b).2 (star_eq hp.1 _ _) (star_all pos X.env hp.2).1) go2
theorem ok_bm {m : Bm} {fz : Bool} {a : IE} {as : List IE} {o : Expr} {es : List Expr} {apos pos : Pos} (xo : XOk G N sc k X) (hm : bmOn m = true) (hs : noSup o = true) (hln : (apos.endLine == pos.line) = true)
    (ho : PE X o (rdE G T O W a)) (ha : PA X es (rdL G T O W as)) (hp : es.all plainX = true) (hn : es.length = as.length) (h30 : as.length < 25) : PE X (.Call (.Attribute o (bmN m) apos) es [] pos) (rdE G T O W (.bm m fz a as)) := by
  obtain ⟨pa, slot, hty⟩ := bm_facts m hm
  have hmt : MtR X (bmId m) (fun u xs H Q => ∃ F, rdM (G.frm F) (bmW m fz) u xs H Q) := MtR.ex fun F => bm_ok (G := G.frm F) xo.K xo.room m fz hm
  have go2 : ∀ σ H Q, rdE G T O W (.bm m fz a as) σ H Q → tM1 X.K (bmT m) (fun u xs H Q => ∃ F, rdM (G.frm F) (bmW m fz) u xs H Q) (rdE G T O W a) (rdL G T O W as) σ H Q := fun σ H Q ⟨F, τ, S, ρ, P, E, a0, w, f, fx⟩ => by
    rw [wpE] at w
    refine rd1 a0 w fx fun x S2 ρ2 H2 u p a2 t r => ?_
    split at p
    · rename_i er
      exact ⟨rcv_ty (G := G.frm F) xo.K a2.sim hm r er, rdLe a2 p (fx.step t) fun xs S3 ρ3 H3 us n p3 a3 t3 r3 => ⟨F, S3, ρ3, x, xs, P, a3.sim, t3.rv r, r3, p3, (f.step t).step t3⟩⟩
    · exact p.elim
  cases es with
  | nil =>
    cases as with
    | cons a r => cases hn
    | nil =>
      refine PE.of (pe_m0 pa slot hty hmt ho (attr_base hs _ _ _) hln) fun σ H Q ⟨F, τ, S, ρ, P, E, a0, w, f, fx⟩ => ?_
      rw [wpE] at w
      refine rd1 a0 w fx fun x S2 ρ2 H2 u p a2 t r => ?_
      split at p
      · rename_i er
        rw [wpL] at p
        exact ⟨rcv_ty (G := G.frm F) xo.K a2.sim hm r er, F, S2, ρ2, x, [], P, a2.sim, r, .nil, p, f.step t⟩
      · exact p.elim
  | cons e es =>
    have hq := hp
    rw [List.all_cons, Bool.and_eq_true] at hq
    refine PE.of (pe_m1 pa slot hty hmt ho ha (attr_base hs _ _ _) ?_ hln (star_eq hq.1 _ _) (star_all pos X.env hq.2).1) go2
    have := (star_all pos X.env hp).2.1
    rw [this, hn]
    show (true && true && decide (as.length + 0 + 0 < 30)) = true
    simp
    omega
theorem nubT_mem : ∀ {l : List Tx} {x : Tx}, x ∈ nubT l ↔ x ∈ l
  | [], x => Iff.rfl
  | y :: r, x => by
    unfold nubT
    cases e : decide (y ∈ r) with
    | true =>
      have hy : y ∈ r := of_decide_eq_true e
      show x ∈ nubT r ↔ _
      rw [nubT_mem, List.mem_cons]
      exact ⟨Or.inr, fun h => h.elim (fun z => by rw [z]; exact hy) id⟩
    | false =>
      show x ∈ y :: nubT r ↔ _
      rw [List.mem_cons, List.mem_cons, nubT_mem]
theorem nubT_nodup : ∀ l : List Tx, (nubT l).Nodup
  | [] => List.nodup_nil
  | y :: r => by
    unfold nubT
    cases e : decide (y ∈ r) with
    | true => exact nubT_nodup r
    | false => exact List.nodup_cons.mpr ⟨fun h => of_decide_eq_false e (nubT_mem.mp h), nubT_nodup r⟩
theorem perm_nd : ∀ {ys L : List Str}, ys.Nodup → L.Nodup → (∀ x, x ∈ ys ↔ x ∈ L) → L.Perm ys
  | [], L, _, _, m => by
    cases L with
    | nil => exact .refl _
    | cons a r => exact absurd ((m a).mpr List.mem_cons_self) List.not_mem_nil
  | y :: r, L, nd, nl, m => by
    obtain ⟨n1, n2⟩ := List.nodup_cons.mp nd
    have e := List.perm_cons_erase ((m y).mp List.mem_cons_self)
    have ne := List.nodup_cons.mp (e.nodup_iff.mp nl)
    refine e.trans (.cons y (perm_nd n2 ne.2 fun x => ?_))
    constructor
    · intro hx
      have nxy : x ≠ y := fun z => n1 (by rw [← z]; exact hx)
      exact (List.mem_erase_of_ne nxy).mpr ((m x).mp (List.mem_cons_of_mem _ hx))
    · intro hx
      rcases List.mem_cons.mp ((m x).mpr (List.mem_of_mem_erase hx)) with z | z
      · rw [z] at hx
        exact absurd hx ne.1
      · exact z
theorem nubT_len : ∀ xs : List Tx, (nubT xs).length ≤ xs.length
  | [] => Nat.le_refl _
  | x :: r => by
    have := nubT_len r
    unfold nubT
    split
    · exact Nat.le_succ_of_le this
    · exact Nat.succ_le_succ this
/-- sorted(set(e)) of texts -/
theorem ok_srt {a : IE} {e : Expr} {fz : Bool} {p1 p2 p3 p4 : Pos} (xo : XOk G N sc k X) (go : GOk G T) (f1 : T.fre "sorted" = true) (f2 : T.fre "set" = true) (l1 : sc.names.lookup ("sorted" : Str) = some .globalImplicit) (l2 : sc.names.lookup ("set" : Str) = some .globalImplicit)
    (ha : PE X e (rdE G T O W a)) (hp : plainX e = true) : PE X (.Call (.Name "sorted" p1) [.Call (.Name "set" p2) [e] [] p3] [] p4) (rdE G T O W (.srt fz a)) := by
  have i1 := pe_callTy (p := p2) (pos := p3) (cr_setTx xo.calm) (xgl xo l2) (hasNo xo go f2) (by decide +kernel : bootBuiltins "set" = some (.type "set")) (pa_cons ha pa_nil (star_eq hp [] X.env)) (by decide +kernel) (by decide +kernel) (star_eq hp _ _) (star_all p3 X.env (es := []) rfl).1
  have i2 := pe_callB (p := p1) (pos := p4) (cr_sortedSetTx xo.calm) (xgl xo l1) (hasNo xo go f1) (by decide +kernel : bootBuiltins "sorted" = some (.builtin "sorted")) (pa_cons i1 pa_nil (star_eq (show plainX (.Call (.Name "set" p2) [e] [] p3) = true from rfl) [] X.env)) (by decide +kernel) (by decide +kernel) (star_eq (show plainX (.Call (.Name "set" p2) [e] [] p3) = true from rfl) _ _) (star_all p4 X.env (es := []) rfl).1
  refine PE.of i2 fun σ H Q ⟨F, τ, S, ρ, P, E, a0, w, f, fx⟩ => ?_
  rw [wpE] at w
  refine rd1 a0 w fx fun x S2 ρ2 H2 u p a2 t r => ?_
  unfold srtW at p
  split at p
  · rename_i xs e1
    obtain ⟨b, us, rfl, h1, h2⟩ := lstOf_at a2.sim e1 r
    split at p
    · rename_i ts e2
      obtain ⟨e3, e4⟩ := rvs_strs h2 e2
      subst e3
      refine ⟨b, ts.map tx, rfl, SqL.of h1, by rw [List.length_map]; exact p.1.1, fun q ys hq nd ln mem => ?_⟩
      have pm1 : ys.Perm ((nubT ts).map tx) := perm_nd (List.Pairwise.map tx (fun a b h z => h (tx_inj z)) (nubT_nodup ts)) nd fun y => by
        rw [mem y, List.mem_map, List.mem_map]
        exact ⟨fun ⟨z, h, e⟩ => ⟨z, nubT_mem.mp h, e⟩, fun ⟨z, h, e⟩ => ⟨z, nubT_mem.mpr h, e⟩⟩
      refine ⟨q, ys, rfl, by unfold upd; exact if_pos rfl, by rw [pm1.length_eq, List.length_map]; exact p.1.2, fun q2 zs hq2 pm so => ?_⟩
      have pm2 : zs.Perm ((nubT ts).map tx) := pm.trans pm1
      rw [sortT_unique pm2 so]
      have s2 := a2.sim.laid (o := SetTxO X.prog X.w q ys) hq
      exact Fin.new s2 ((f.step t).step (Stp.laid a2.sim hq)) hq2 (RVs.of_strs _) p.2
    · exact p.elim
  · exact p.elim
end
end DL

set_option maxHeartbeats 1000000
/-! DL 7q: Base.__init__(self, ..): a class's own def, called by the class's name -/
namespace DL
open PySem PySem.Spec PyProof.Rows L2
section
variable {G : Gd} {T : Tab} {N : List Str} {sc : Scope} {k : Nat} {X : Cx} {W : WX}
theorem ok_bcall {i : Nat} {as : List IE} {args : List Expr} {x m : Str} {C : Addr} {p apos pos : Pos} (xo : XOk G N sc k X) (go : GOk G T) (tk : Takes X W) (hm : G.mg x = some (.ref C)) (b : BaseM G.K C m (G.fa i)) (hk : PySem.W.keepIn G.K (.ref (G.fa i)) = true)
    (hl : sc.names.lookup x = some .globalImplicit) (hd : (x == ("__debug__" : Str)) = false) (hs : noSup (.Name x p) = true) (hln : (apos.endLine == pos.line) = true)
    (ha : PA X args (rdL G T (orc G T k) W as)) (hp : args.all plainX = true) (hn : args.length = as.length) (h30 : as.length < 25) :
    PE X (.Call (.Attribute (.Name x p) m apos) args [] pos) (rdE G T (orc G T k) W (.call i as)) := by
  refine ⟨fun pins s σ H Q I ⟨F, τ, S, ρ, P, E, a0, w, f, fx⟩ => ?_⟩
  rw [wpE] at w
  have hform : methodCallForm (args.length + ([] : List Keyword).length) (backTo pos (starEach args X.env)) (backToKw pos (keywordEach [] X.env)) = true := by
    unfold methodCallForm
    rw [(star_all pos X.env hp).2.1]
    show (true && true && decide (args.length + 0 + 0 < 30)) = true
    simp
    omega
  refine PySem.W.methodCall_KW (pl := plainOf (.Name x p) X.env) (ld_glob I (xgl xo hl) (by rw [xo.mg]; exact hm) ?_ hd) ?_
  · refine PySem.W.method_cls I.kIn (by rw [xo.K]; exact b.ga) ?_
    refine PySem.W.cls_value I.kIn (by rw [xo.K]; exact b.rd) (by rw [xo.K]; exact b.at_) rfl ?_
    refine callArgs (first := []) xo hk ha hp hn (I.tok _) a0 w fx fun xs S2 ρ2 H2 us vs s2 I2 q a2 t rr r => ?_
    obtain ⟨ps, FO, B⟩ := callP_e q
    exact run_fnS (fnok xo FO) xo.room (bndok xo B) (passAt tk σ) I2 r ⟨F, ρ2, a2.sim, rr, f.step t, fx.step t⟩
  · rw [arm_eval_Call, attr_base hs]
    have e : ∀ ov, methodCall (.Name x p) m apos pos X.env ov (args.length + ([] : List Keyword).length) (backTo pos (starEach args X.env)) (backToKw pos (keywordEach [] X.env)) = _ := fun ov => mcall_line hform hln
    simp only [e]
end
end DL

set_option maxHeartbeats 1000000
/-! DL 7c: isinstance, comprehensions -/
namespace DL
open PySem PySem.Spec PyProof.Rows L2
theorem kit_bb (K : PySem.W.Frag) : ∀ t ∈ ["NoneType", "bool", "int", "str", "tuple", "list", "dict"], ∀ c ∈ ["int", "bool", "str", "tuple", "list", "dict"],
    PySem.W.kitOne K (.type t) (.type c) = some (decide (t = c) || (decide (t = "bool") && decide (c = "int"))) := by
  intro t ht c hc
  simp only [List.mem_cons, List.not_mem_nil, or_false] at ht hc
  rcases ht with rfl | rfl | rfl | rfl | rfl | rfl | rfl <;> rcases hc with rfl | rfl | rfl | rfl | rfl | rfl <;> kernel_rfl
theorem kit_bo {K : PySem.W.Frag} {C : Addr} (h : ((PySem.W.clsIn K C).isSome && PySem.W.typeIn K (.ref C) == some (.type "type")) = true) : ∀ t ∈ ["NoneType", "bool", "int", "str", "tuple", "list", "dict"],
    PySem.W.kitOne K (.type t) (.ref C) = some false := by
  intro t ht
  have e : PySem.W.kitOne K (.type t) (.ref C) = PySem.W.subIn K (.type t) (.ref C) := by
    show (if (Value.type t == Value.ref C) = true then some true else if ((PySem.W.clsIn K C).isSome && PySem.W.typeIn K (.ref C) == some (.type "type")) = true then PySem.W.subIn K (.type t) (.ref C) else none) = _
    rw [if_pos h]
    rfl
  rw [e]
  simp only [List.mem_cons, List.not_mem_nil, or_false] at ht
  rcases ht with rfl | rfl | rfl | rfl | rfl | rfl | rfl <;> kernel_rfl
def csVal (G : Gd) : Cs → Value
  | .own c => .ref (G.ca c) | .int => .type "int" | .bool => .type "bool" | .str => .type "str" | .tuple => .type "tuple" | .list => .type "list" | .dict => .type "dict"
def csV (G : Gd) : Cs → V
  | .own c => .ref (G.ca c) | .int => .ty "int" | .bool => .ty "bool" | .str => .ty "str" | .tuple => .ty "tuple" | .list => .ty "list" | .dict => .ty "dict"
def csN (T : Tab) : Cs → Option Str
  | .own c => T.cl c | .int => some "int" | .bool => some "bool" | .str => some "str" | .tuple => some "tuple" | .list => some "list" | .dict => some "dict"
def csB : Cs → Bool
  | .own _ => false
  | _ => true
theorem csClsV (G : Gd) (c : Cs) : ClsV (csV G c) (csVal G c) := by cases c <;> first | exact .own _ | exact .ty _
def tyV' : Nat → Value
  | 0 => .type "NoneType" | 1 => .type "bool" | 2 => .type "int" | 3 => .type "str" | 4 => .type "tuple" | 5 => .type "list" | 6 => .type "dict"
  | _ => .none
theorem isT_bb (G : Gd) (T : Tab) (go : GOk G T) (c : Cs) (hc : ∀ i, c = .own i → (T.cl i).isSome = true) : ∀ t < 7, PySem.W.kitOne G.K (tyV' t) (csVal G c) = some (isB t c) := by
  intro t ht
  cases c with
  | own i =>
    obtain ⟨x, hx⟩ := Option.isSome_iff_exists.mp (hc i rfl)
    have := kit_bo (go.isc i x hx)
    match t, ht with
    | 0, _ => exact this _ (by decide)
    | 1, _ => exact this _ (by decide)
    | 2, _ => exact this _ (by decide)
    | 3, _ => exact this _ (by decide)
    | 4, _ => exact this _ (by decide)
    | 5, _ => exact this _ (by decide)
    | 6, _ => exact this _ (by decide)
  | _ =>
    have := kit_bb G.K
    match t, ht with
    | 0, _ => exact this _ (by decide) _ (by decide)
    | 1, _ => exact this _ (by decide) _ (by decide)
    | 2, _ => exact this _ (by decide) _ (by decide)
    | 3, _ => exact this _ (by decide) _ (by decide)
    | 4, _ => exact this _ (by decide) _ (by decide)
    | 5, _ => exact this _ (by decide) _ (by decide)
    | 6, _ => exact this _ (by decide) _ (by decide)
section
variable {G : Gd} {T : Tab} {N : List Str} {sc : Scope} {k : Nat} {X : Cx} {W : WX} {O : Orc} {F : Addr → Prop} {τ : Sl} {S : Store} {ρ : List Addr} {σ : L2.St} {H : Hp} {E : QD}
/-- a datum's type -/
theorem tyN_at (go : GOk G T) {d : D} {u : V} (sim : Sim (G.frm F) S ρ H) (h : RVl (G.frm F) S ρ H d u) {t : Nat} (e : tyN S d = some t) (hk : ∀ c, t = 7 + c → kn T c = true) :
    ∃ tv, TyX G.K H u tv ∧ ((t < 7 ∧ tv = tyV' t) ∨ ∃ c, t = 7 + c ∧ tv = .ref (G.ca c)) := by
  have obj : ∀ {c : Nat} {a dx : Addr} {fl : List (Str × V)}, t = 7 + c → H a = some (.ins (G.ca c) dx fl) → Cls G.K (G.ca c) → u = .ref a → ∃ tv, TyX G.K H u tv ∧ ((t < 7 ∧ tv = tyV' t) ∨ ∃ c, t = 7 + c ∧ tv = .ref (G.ca c)) := fun {c a dx fl} et h1 cl eu => by
    obtain ⟨x, hx⟩ := Option.isSome_iff_exists.mp (hk c et)
    obtain ⟨i1, i2, i3, i4⟩ := go.ins c x hx
    subst eu
    exact ⟨_, .base (.ins h1 cl i1 i2 i3 i4), .inr ⟨c, et, rfl⟩⟩
  cases h with
  | non => cases e; exact ⟨_, .base .non, .inl ⟨by decide, rfl⟩⟩
  | bl b => cases e; exact ⟨_, .base (.bl b), .inl ⟨by decide, rfl⟩⟩
  | int b => cases e; exact ⟨_, .base (.int b), .inl ⟨by decide, rfl⟩⟩
  | str b => cases e; exact ⟨_, .base (.str _), .inl ⟨by decide, rfl⟩⟩
  | tup h r =>
    cases e
    rcases h with ⟨_, h⟩ | ⟨o, its, n, h, hc, _⟩
    · rcases h with h | ⟨o, h⟩
      · exact ⟨_, .base (.tup h), .inl ⟨by decide, rfl⟩⟩
      · exact ⟨_, .fTuple h, .inl ⟨by decide, rfl⟩⟩
    · exact ⟨_, .kTuple h hc, .inl ⟨by decide, rfl⟩⟩
  | lst h r => cases e; exact ⟨_, .base (.lst h.2), .inl ⟨by decide, rfl⟩⟩
  | klst h r => cases e
  | dct h r =>
    cases e
    rcases h.2 with h2 | ⟨o, h2⟩
    · exact ⟨_, .base (.dK h2), .inl ⟨by decide, rfl⟩⟩
    · exact ⟨_, .fDict h2, .inl ⟨by decide, rfl⟩⟩
  | ins h c r => cases e; exact obj rfl h.2 c.cls rfl
  | pin _ _ => cases e
  | ref h =>
    rename_i n a
    simp only [tyN] at e
    split at e <;> rename_i e0
    · cases e
      obtain ⟨_, us, e1, h1, _⟩ := sim.lst_at e0 (.ref h)
      cases e1
      exact ⟨_, .base (.lst h1), .inl ⟨by decide, rfl⟩⟩
    · cases e
      obtain ⟨_, us, e1, h1, _⟩ := sim.dct_at e0 (.ref h)
      cases e1
      exact ⟨_, .base (.dK h1), .inl ⟨by decide, rfl⟩⟩
    · cases e
      obtain ⟨_, dx, fl, e1, h1, h2, _⟩ := sim.obj_at e0 (.ref h)
      exact obj rfl h1 h2.cls e1
    · cases e
theorem csb_mem {c : Cs} (h : csB c = true) : ∃ t ∈ ["int", "bool", "str", "tuple", "list", "dict"], csVal G c = .type t := by
  cases c <;> first
    | exact absurd h Bool.false_ne_true
    | exact ⟨_, by decide, rfl⟩
theorem isT_own {c : Nat} {cs : Cs} {b : Bool} (e : isT T (7 + c) cs = some b) : kn T c = true ∧ ((∃ d, cs = .own d ∧ kn T d = true ∧ b = T.sub c d) ∨ (csB cs = true ∧ b = false)) := by
  rw [Nat.add_comm] at e
  unfold isT at e
  simp only at e
  split at e
  · rename_i k1
    refine ⟨k1, ?_⟩
    split at e
    · split at e
      · rename_i k2
        cases e
        exact .inl ⟨_, rfl, k2, rfl⟩
      · cases e
    · rename_i hno
      cases e
      refine .inr ⟨?_, rfl⟩
      cases cs <;> first
        | rfl
        | exact absurd rfl (hno _)
  · cases e
theorem isA_at (go : GOk G T) {d : D} {u : V} {c : Cs} {b : Bool} {tv : Value} {t : Nat} (hc : ∀ i, c = .own i → (T.cl i).isSome = true) (ht : (t < 7 ∧ tv = tyV' t) ∨ ∃ c, t = 7 + c ∧ tv = .ref (G.ca c)) (e : isT T t c = some b) : PySem.W.kitOne G.K tv (csVal G c) = some b := by
  rcases ht with ⟨h1, rfl⟩ | ⟨i, rfl, rfl⟩
  · rw [isT_bb G T go c hc t h1, ← e]
    match t, h1 with
    | 0, _ => rfl
    | 1, _ => rfl
    | 2, _ => rfl
    | 3, _ => rfl
    | 4, _ => rfl
    | 5, _ => rfl
    | 6, _ => rfl
  · obtain ⟨k1, h⟩ := isT_own e
    obtain ⟨x, hx⟩ := Option.isSome_iff_exists.mp k1
    rcases h with ⟨d, rfl, k2, rfl⟩ | ⟨h1, rfl⟩
    · obtain ⟨y, hy⟩ := Option.isSome_iff_exists.mp k2
      exact go.iso i d x y hx hy
    · obtain ⟨ty, hm, e2⟩ := csb_mem (G := G) h1
      rw [e2]
      exact go.isb i x ty hx hm
theorem isA_ty {d : D} {c : Cs} {b : Bool} (e : isA T S d c = some b) : ∃ t, tyN S d = some t ∧ isT T t c = some b := by
  unfold isA at e
  split at e
  · exact ⟨_, by assumption, e⟩
  · cases e
theorem isAny_hd {d : D} {c : Cs} {r : List Cs} {b : Bool} (e : isAny T S d (c :: r) = some b) : ∃ t b', tyN S d = some t ∧ isT T t c = some b' := by
  unfold isAny at e
  split at e
  · rename_i h
    obtain ⟨t, h1, h2⟩ := isA_ty h
    exact ⟨t, _, h1, h2⟩
  · rename_i h
    obtain ⟨t, h1, h2⟩ := isA_ty h
    exact ⟨t, _, h1, h2⟩
  · cases e
theorem isAny_at (go : GOk G T) {d : D} {u : V} {b : Bool} {tv : Value} {t : Nat} (h1 : tyN S d = some t) (ht : (t < 7 ∧ tv = tyV' t) ∨ ∃ c, t = 7 + c ∧ tv = .ref (G.ca c)) :
    ∀ {cs : List Cs}, (∀ c ∈ cs, ∀ i, c = .own i → (T.cl i).isSome = true) → isAny T S d cs = some b → PySem.W.kitAny G.K tv (cs.map (csVal G)) = some b
  | [], _, e => e
  | c :: r, hc, e => by
    have hc1 := hc c List.mem_cons_self
    have hc2 := fun x (h : x ∈ r) => hc x (List.mem_cons_of_mem _ h)
    unfold isAny at e
    split at e
    · rename_i h
      obtain ⟨t', g1, g2⟩ := isA_ty h
      rw [h1] at g1; cases g1
      show (match PySem.W.kitOne G.K tv (csVal G c) with | some true => some true | some false => PySem.W.kitAny G.K tv (r.map (csVal G)) | none => none) = _
      rw [isA_at go (d := d) (u := u) hc1 ht g2]
      exact e
    · rename_i h
      obtain ⟨t', g1, g2⟩ := isA_ty h
      rw [h1] at g1; cases g1
      show (match PySem.W.kitOne G.K tv (csVal G c) with | some true => some true | some false => PySem.W.kitAny G.K tv (r.map (csVal G)) | none => none) = _
      rw [isA_at go (d := d) (u := u) hc1 ht g2]
      exact isAny_at go (u := u) h1 ht hc2 e
    · cases e
theorem hk_of {t : Nat} {c : Cs} {b : Bool} (e : isT T t c = some b) : ∀ i, t = 7 + i → kn T i = true := fun i h => by subst h; exact (isT_own e).1
theorem ok_cls {c : Cs} {x : Str} {p : Pos} (xo : XOk G N sc k X) (go : GOk G T) (hn : csN T c = some x) (hl : sc.names.lookup x = some .globalImplicit) (hd : (x == ("__debug__" : Str)) = false) (hf : csB c = true → T.fre x = true) : PE X (.Name x p) (tC (csV G c)) := by
  have hg := xgl xo hl
  cases c with
  | own i =>
    obtain ⟨h1, _⟩ := go.cl i x hn
    exact pe_glob hg (by rw [xo.mg]; exact h1) rfl hd
  | int => cases hn; exact pe_bltn hg (hasNo xo go (hf rfl)) (u := .type "int") (by decide +kernel) rfl (by decide +kernel) hd
  | bool => cases hn; exact pe_bltn hg (hasNo xo go (hf rfl)) (u := .type "bool") (by decide +kernel) rfl (by decide +kernel) hd
  | str => cases hn; exact pe_bltn hg (hasNo xo go (hf rfl)) (u := .type "str") (by decide +kernel) rfl (by decide +kernel) hd
  | tuple => cases hn; exact pe_bltn hg (hasNo xo go (hf rfl)) (u := .type "tuple") (by decide +kernel) rfl (by decide +kernel) hd
  | list => cases hn; exact pe_bltn hg (hasNo xo go (hf rfl)) (u := .type "list") (by decide +kernel) rfl (by decide +kernel) hd
  | dict => cases hn; exact pe_bltn hg (hasNo xo go (hf rfl)) (u := .type "dict") (by decide +kernel) rfl (by decide +kernel) hd
theorem bootIs : bootBuiltins "isinstance" = some (.builtin "isinstance") := by decide +kernel
theorem cls_some {c : Cs} {x : Str} (hn : csN T c = some x) : ∀ i, c = .own i → (T.cl i).isSome = true := fun i h => by subst h; exact Option.isSome_iff_exists.mpr ⟨x, hn⟩
theorem ok_isi1 {a : IE} {c : Cs} {e : Expr} {x : Str} {p p2 pos : Pos} (xo : XOk G N sc k X) (go : GOk G T) (hp : plainX e = true) (hi : T.fre "isinstance" = true) (hil : sc.names.lookup ("isinstance" : Str) = some .globalImplicit)
    (hn : csN T c = some x) (hl : sc.names.lookup x = some .globalImplicit) (hd : (x == ("__debug__" : Str)) = false) (hf : csB c = true → T.fre x = true) (ha : PE X e (rdE G T O W a)) :
    PE X (.Call (.Name "isinstance" p) [e, .Name x p2] [] pos) (rdE G T O W (.isi a true [c])) := by
  refine PE.of (pe_callB (call_isi (X := X)) (xgl xo hil) (hasNo xo go hi) bootIs (pa_cons ha (pa_cons (ok_cls xo go hn hl hd hf) pa_nil) (star_eq hp _ _)) (by decide +kernel) (by decide +kernel) (star_eq hp _ _) rfl) fun σ H Q ⟨F, τ, S, ρ, P, E, a0, w, f, fx⟩ => ?_
  rw [wpE] at w
  refine rd1 a0 w fx fun d S2 ρ2 H2 u q a2 t r => ?_
  split at q
  · rename_i b eb
    obtain ⟨t1, b', h1, h2⟩ := isAny_hd eb
    have eb' : isA T S2 d c = some b := by
      unfold isAny at eb
      split at eb
      · cases eb; assumption
      · cases eb; assumption
      · cases eb
    obtain ⟨t3, h3, h4⟩ := isA_ty eb'
    rw [h1] at h3; cases h3
    obtain ⟨tv, ty, ht⟩ := tyN_at go a2.sim r h1 (hk_of h2)
    exact ⟨u, csV G c, tv, csVal G c, b, rfl, csClsV G c, by rw [xo.K]; exact ty, by rw [xo.K]; exact isA_at go (d := d) (u := u) (cls_some hn) ht h4, (f.step t).here a2.sim q (.bl _)⟩
  · exact q.elim
/-- a tuple of classes -/
def tCls (G : Gd) (cs : List Cs) : TA := fun _ H Q => Q (cs.map (csV G)) H
theorem okC_nil : PA X [] (tCls G []) := pa_nil
theorem okC_cons {c : Cs} {cs : List Cs} {x : Str} {p : Pos} {es : List Expr} (h1 : PE X (.Name x p) (tC (csV G c))) (h2 : PA X es (tCls G cs)) : PA X (.Name x p :: es) (tCls G (c :: cs)) :=
  PA.of (pa_cons h1 h2) fun σ H Q h => h
theorem pairCls (G : Gd) : ∀ cs : List Cs, Paired ClsV (cs.map (csV G)) (cs.map (csVal G))
  | [] => .nil
  | c :: r => .cons (csClsV G c) (pairCls G r)
theorem ok_isiT {a : IE} {c : Cs} {cs : List Cs} {e : Expr} {es : List Expr} {j : Nat} {p p2 pos : Pos} (xo : XOk G N sc k X) (go : GOk G T) (hp : plainX e = true) (hi : T.fre "isinstance" = true) (hil : sc.names.lookup ("isinstance" : Str) = some .globalImplicit)
    (hn : ∀ d ∈ c :: cs, ∀ i, d = .own i → (T.cl i).isSome = true) (h30 : cs.length < 100) (hcs : PA X es (tCls G (c :: cs))) (ha : PE X e (rdE G T O W a)) :
    PE X (.Call (.Name "isinstance" p) [e, .Tuple es j p2] [] pos) (rdE G T O W (.isi a false (c :: cs))) := by
  refine PE.of (pe_callB (call_isiT (X := X)) (xgl xo hil) (hasNo xo go hi) bootIs (pa_cons ha (pa_cons (pe_tup hcs) pa_nil) (star_eq hp _ _)) (by decide +kernel) (by decide +kernel) (star_eq hp _ _) rfl) fun σ H Q ⟨F, τ, S, ρ, P, E, a0, w, f, fx⟩ => ?_
  rw [wpE] at w
  refine rd1 a0 w fx fun d S2 ρ2 H2 u q a2 t r => ⟨by rw [line, List.length_map, List.length_cons]; omega, fun tp htp => ?_⟩
  have st := Stp.laid (o := .tup ((c :: cs).map (csV G))) a2.sim htp
  have s3 := a2.sim.laid (o := .tup ((c :: cs).map (csV G))) htp
  split at q
  · rename_i b eb
    obtain ⟨t1, b', h1, h2⟩ := isAny_hd eb
    obtain ⟨tv, ty, ht⟩ := tyN_at go s3 (st.rv r) h1 (hk_of h2)
    exact ⟨u, tp, _, tv, _, b, rfl, upd_same, pairCls G _, by rw [xo.K]; exact ty, by rw [xo.K]; exact isAny_at go (u := u) h1 ht hn eb, ((f.step t).step st).here s3 q (.bl _)⟩
  · exact q.elim
end
end DL

set_option maxHeartbeats 1000000
/-! DL 7d: what is walked -/
namespace DL
open PySem PySem.Spec PyProof.Rows L2
/-- a later state, in any frame -/
structure Lat (G : Gd) (Lv0 : Addr → Prop) (ρ0 : List Addr) (H0 : Hp) (S : Store) (ρ : List Addr) (H : Hp) : Prop where
  sim : Sim G S ρ H
  keep : Keep Lv0 (Live G S ρ) H0 H
  pre : ∀ (n : Nat) a, ρ0[n]? = some a → ρ[n]? = some a
/-- an iterator gives these items, while the source stands -/
structure SrcOk (G : Gd) (J : It) (items : List D) (st : Store → Prop) (Lv0 : Addr → Prop) (ρ0 : List Addr) (H0 : Hp) : Prop where
  go : ∀ F S ρ H i, Lat (G.frm F) Lv0 ρ0 H0 S ρ H → st S → i < items.length → J.go i H
  stop : ∀ F S ρ H i, Lat (G.frm F) Lv0 ρ0 H0 S ρ H → st S → items.length ≤ i → J.stop i H
  yld : ∀ F S ρ H i x H' d, Lat (G.frm F) Lv0 ρ0 H0 S ρ H → st S → J.yld i H x H' → items[i]? = some d → Sim (G.frm F) S ρ H' ∧ Stp (G.frm F) S S ρ ρ H H' ∧ RVl (G.frm F) S ρ H' d x
theorem upD_len : ∀ (a : Int) (n : Nat), (upD a n).length = n
  | _, 0 => rfl
  | a, n + 1 => by simp [upD, upD_len (a + 1) n]
theorem upD_get : ∀ (a : Int) (n i : Nat), i < n → (upD a n)[i]? = some (.int (a + i))
  | _, 0, _, h => absurd h (Nat.not_lt_zero _)
  | a, n + 1, 0, _ => by simp [upD]
  | a, n + 1, i + 1, h => by
    simp only [upD, List.getElem?_cons_succ]
    rw [upD_get (a + 1) n i (by omega)]
    simp
    omega
theorem Closed.frm {G : Gd} {F F' : Addr → Prop} {c : Nat} {ns : List Nat} {fl : List (Str × V)} (h : Closed (G.frm F) c ns fl) : Closed (G.frm F') c ns fl := ⟨h.none, h.len, h.noat, h.cls, h.nd, h.eqo⟩
mutual
theorem RV.frm {G : Gd} {F F' : Addr → Prop} {Lv : Addr → Prop} {ρ : List Addr} {H : Hp} : ∀ {d : D} {u : V}, RV (G.frm F) Lv ρ H d u → RV (G.frm F') Lv ρ H d u
  | _, _, .non => .non
  | _, _, .bl b => .bl b
  | _, _, .int i => .int i
  | _, _, .str s => .str s
  | _, _, .tup h r => .tup h (RVs.frm r)
  | _, _, .lst h r => .lst h (RVs.frm r)
  | _, _, .klst h r => .klst h (RVs.frm r)
  | _, _, .dct h r => .dct h (RKs.frm r)
  | _, _, .ins h c r => .ins h c.frm (RFs.frm r)
  | _, _, .ref h => .ref h
  | _, _, .pin h r => .pin h (RV.frm r)
theorem RVs.frm {G : Gd} {F F' : Addr → Prop} {Lv : Addr → Prop} {ρ : List Addr} {H : Hp} : ∀ {ds : List D} {us : List V}, RVs (G.frm F) Lv ρ H ds us → RVs (G.frm F') Lv ρ H ds us
  | _, _, .nil => .nil
  | _, _, .cons h t => .cons (RV.frm h) (RVs.frm t)
theorem RKs.frm {G : Gd} {F F' : Addr → Prop} {Lv : Addr → Prop} {ρ : List Addr} {H : Hp} : ∀ {ks vs : List D} {us : List (Key × V)}, RKs (G.frm F) Lv ρ H ks vs us → RKs (G.frm F') Lv ρ H ks vs us
  | _, _, _, .nil => .nil
  | _, _, _, .cons hk h t => .cons hk (RV.frm h) (RKs.frm t)
theorem RFs.frm {G : Gd} {F F' : Addr → Prop} {Lv : Addr → Prop} {ρ : List Addr} {H : Hp} : ∀ {fl : List (Str × V)} {ns : List Nat} {ds : List D}, RFs (G.frm F) Lv ρ H fl ns ds → RFs (G.frm F') Lv ρ H fl ns ds
  | _, _, _, .nil => .nil
  | _, _, _, .cons hn h t => .cons hn (RV.frm h) (RFs.frm t)
end
section
variable {G : Gd} {T : Tab} {N : List Str} {sc : Scope} {k : Nat} {X : Cx} {W : WX} {O : Orc} {F : Addr → Prop} {τ : Sl} {S : Store} {ρ : List Addr} {σ : L2.St} {H : Hp} {E : QD} {Lv0 : Addr → Prop} {ρ0 : List Addr} {H0 : Hp}
theorem src_rng (lo : Int) (n : Nat) : SrcOk G (Itr lo n) (upD lo n) (fun _ => True) Lv0 ρ0 H0 :=
  ⟨fun F S ρ H i _ _ h => by rw [upD_len] at h; exact h, fun F S ρ H i _ _ h => by rw [upD_len] at h; exact h, fun F S ρ H i x H' d l _ h e => by
    obtain ⟨rfl, rfl⟩ := h
    have hi := (List.getElem?_eq_some_iff.mp e).1
    rw [upD_len] at hi
    rw [upD_get lo n i hi] at e
    cases e
    exact ⟨l.sim, Stp.refl, .int _⟩⟩
theorem src_str (s : Tx) : SrcOk G (Its (tx s)) (s.map fun c => .str [c]) (fun _ => True) Lv0 ρ0 H0 := by
  have hz : (tx s).cps.size = s.length := tx_length s
  refine ⟨fun F S ρ H i _ _ h => ?_, fun F S ρ H i _ _ h => ?_, fun F S ρ H i x H' d l _ h e => ?_⟩
  · rw [List.length_map] at h; show i < (tx s).cps.size; rw [hz]; exact h
  · rw [List.length_map] at h; show (tx s).cps.size ≤ i; rw [hz]; exact h
  · obtain ⟨rfl, c, h1, rfl⟩ := h
    have h2 : s[i]? = some c := by
      have : (tx s).cps[i]? = s[i]? := by show s.toArray[i]? = _; simp
      rw [← this]; exact h1
    rw [List.getElem?_map, h2] at e
    cases e
    exact ⟨l.sim, Stp.refl, .str _⟩
/-- a list, a tuple: at every later state its items are there -/
theorem src_seqL {a : Addr} {xs : List D} {st : Store → Prop} (h : ∀ F S ρ H, Lat (G.frm F) Lv0 ρ0 H0 S ρ H → st S → ∃ us, SqL G.K H a us ∧ RVsl (G.frm F) S ρ H xs us) : SrcOk G (Itl G.K a) xs st Lv0 ρ0 H0 := by
  refine ⟨fun F S ρ H i l hs hi => ?_, fun F S ρ H i l hs hi => ?_, fun F S ρ H i x H' d l hs y e => ?_⟩
  · obtain ⟨us, h1, h2⟩ := h F S ρ H l hs
    obtain ⟨u, e, _⟩ := h2.get (List.getElem?_eq_getElem hi)
    exact ⟨us, u, h1, e⟩
  · obtain ⟨us, h1, h2⟩ := h F S ρ H l hs
    exact ⟨us, h1, by rw [← h2.length]; exact hi⟩
  · obtain ⟨us, h1, h2⟩ := h F S ρ H l hs
    obtain ⟨rfl, y⟩ := y
    obtain ⟨u, e1, e2⟩ := h2.get e
    rw [y us h1] at e1
    cases e1
    exact ⟨l.sim, Stp.refl, e2⟩
theorem src_seqT {a : Addr} {xs : List D} {st : Store → Prop} (h : ∀ F S ρ H, Lat (G.frm F) Lv0 ρ0 H0 S ρ H → st S → ∃ us, SqT G.K H a us ∧ RVsl (G.frm F) S ρ H xs us) : SrcOk G (Itt G.K a) xs st Lv0 ρ0 H0 := by
  refine ⟨fun F S ρ H i l hs hi => ?_, fun F S ρ H i l hs hi => ?_, fun F S ρ H i x H' d l hs y e => ?_⟩
  · obtain ⟨us, h1, h2⟩ := h F S ρ H l hs
    obtain ⟨u, e, _⟩ := h2.get (List.getElem?_eq_getElem hi)
    exact ⟨us, u, h1, e⟩
  · obtain ⟨us, h1, h2⟩ := h F S ρ H l hs
    exact ⟨us, h1, by rw [← h2.length]; exact hi⟩
  · obtain ⟨us, h1, h2⟩ := h F S ρ H l hs
    obtain ⟨rfl, y⟩ := y
    obtain ⟨u, e1, e2⟩ := h2.get e
    rw [y us h1] at e1
    cases e1
    exact ⟨l.sim, Stp.refl, e2⟩
/-! ### a dict locked -/
theorem Stp.lock {G : Gd} {S : Store} {ρ : List Addr} {H : Hp} {a : Addr} {od : Obj} {kus : List (Key × V)} (n : ¬ Live G S ρ a) (h : H a = some (.dK kus)) : Stp G S S ρ ρ H (upd H a (.frz od (.dK kus))) :=
  ⟨fun _ _ h => h, ⟨fun b o hb nb => by
    by_cases e : b = a
    · subst e
      rw [h] at hb
      cases hb
      exact ⟨.inr ⟨od, kus, rfl, upd_same⟩, nb⟩
    · exact ⟨.inl (by rw [upd_ne e]; exact hb), nb⟩⟩, fun b hb => upd_ne fun e => n (.inl (e ▸ hb))⟩
theorem Sim.lock {G : Gd} {S : Store} {ρ : List Addr} {H : Hp} {a : Addr} {od : Obj} {kus : List (Key × V)} (s : Sim G S ρ H) (n : ¬ Live G S ρ a) (h : H a = some (.dK kus)) : Sim G S ρ (upd H a (.frz od (.dK kus))) :=
  ⟨s.len, fun m b c h1 h2 => (s.ok m b c h1 h2).keep (Stp.lock n h).keep (fun _ _ h => h) fun nd ob hb => by
    have ne : b ≠ a := fun e => n (.inr ⟨m, c, e ▸ h1, h2, nd⟩)
    rw [upd_ne ne]; exact hb, s.inj, s.nfr, fun b hb => by
    obtain ⟨o, h1, h2⟩ := s.frt b hb
    have ne : b ≠ a := fun e => n (.inl (e ▸ hb))
    exact ⟨o, by rw [upd_ne ne]; exact h1, h2⟩⟩
theorem RKs.at {G : Gd} {Lv : Addr → Prop} {ρ : List Addr} {H : Hp} : ∀ {ks vs : List D} {kus : List (Key × V)} {i : Nat} {k : Key} {v : V}, RKs G Lv ρ H ks vs kus → kus[i]? = some (k, v) → ∃ d y, ks[i]? = some d ∧ vs[i]? = some y ∧ keyOf d = some k ∧ RV G Lv ρ H y v
  | _, _, _, i, _, _, .nil, e => by simp at e
  | _, _, _, 0, _, _, .cons hk h t, e => by
    simp at e
    obtain ⟨rfl, rfl⟩ := e
    exact ⟨_, _, rfl, rfl, hk, h⟩
  | _, _, _, i + 1, _, _, .cons hk h t, e => by
    obtain ⟨d, y, h1, h2, h3, h4⟩ := RKs.at t (by simpa using e)
    exact ⟨d, y, by simpa using h1, by simpa using h2, h3, h4⟩
theorem src_keys {d : Addr} {o : Obj} {ks vs : List D} {kus : List (Key × V)} (hd : H0 d = some (.frz o (.dK kus))) (nl : ¬ Lv0 d) (r : RKs G Lv0 ρ0 H0 ks vs kus) : SrcOk G (Itk d o kus) ks (fun _ => True) Lv0 ρ0 H0 := by
  have at' : ∀ F S ρ H, Lat (G.frm F) Lv0 ρ0 H0 S ρ H → H d = some (.frz o (.dK kus)) := fun F S ρ H l => (l.keep.keep _ _ hd nl).1.eq fun _ z => nomatch z
  refine ⟨fun F S ρ H i l _ hi => ⟨at' F S ρ H l, by rw [← r.lens.1]; exact hi⟩, fun F S ρ H i l _ hi => ⟨at' F S ρ H l, by rw [← r.lens.1]; exact hi⟩, fun F S ρ H i x H' dd l _ y e => ?_⟩
  obtain ⟨rfl, k, v, h1, rfl⟩ := y
  obtain ⟨d2, y, h2, _, h4, _⟩ := RKs.at r h1
  rw [h2] at e
  cases e
  exact ⟨l.sim, Stp.refl, keyOf_RV h4⟩
theorem src_vals {d : Addr} {o : Obj} {ks vs : List D} {kus : List (Key × V)} (hd : H0 d = some (.frz o (.dK kus))) (nl : ¬ Lv0 d) (r : RKs G Lv0 ρ0 H0 ks vs kus) : SrcOk G (Itd d o kus) vs (fun _ => True) Lv0 ρ0 H0 := by
  have at' : ∀ F S ρ H, Lat (G.frm F) Lv0 ρ0 H0 S ρ H → H d = some (.frz o (.dK kus)) := fun F S ρ H l => (l.keep.keep _ _ hd nl).1.eq fun _ z => nomatch z
  refine ⟨fun F S ρ H i l _ hi => ⟨at' F S ρ H l, by rw [← r.lens.2]; exact hi⟩, fun F S ρ H i l _ hi => ⟨at' F S ρ H l, by rw [← r.lens.2]; exact hi⟩, fun F S ρ H i x H' dd l _ y e => ?_⟩
  obtain ⟨rfl, k, h1⟩ := y
  obtain ⟨d2, y, _, h3, _, h5⟩ := RKs.at r h1
  rw [h3] at e
  cases e
  exact ⟨l.sim, Stp.refl, (h5.keep l.keep l.pre).frm⟩
theorem zipD_at : ∀ {ks vs : List D} {i : Nat} {x y : D}, ks[i]? = some x → vs[i]? = some y → (zipD ks vs)[i]? = some (.tup [x, y])
  | [], _, _, _, _, h, _ => by simp at h
  | _ :: _, [], _, _, _, _, h => by simp at h
  | a :: ks, b :: vs, 0, _, _, h1, h2 => by
    simp at h1 h2
    subst h1; subst h2
    rfl
  | a :: ks, b :: vs, i + 1, _, _, h1, h2 => by
    simp only [zipD, List.getElem?_cons_succ]
    exact zipD_at (by simpa using h1) (by simpa using h2)
theorem zipD_len : ∀ (ks vs : List D), ks.length = vs.length → (zipD ks vs).length = ks.length
  | [], _, _ => rfl
  | _ :: _, [], h => by simp at h
  | _ :: ks, _ :: vs, h => by
    simp only [zipD, List.length_cons]
    rw [zipD_len ks vs (by simpa using h)]
theorem src_items {d : Addr} {o : Obj} {ks vs : List D} {kus : List (Key × V)} (hd : H0 d = some (.frz o (.dK kus))) (nl : ¬ Lv0 d) (r : RKs G Lv0 ρ0 H0 ks vs kus) : SrcOk G (Iti d o kus) (zipD ks vs) (fun _ => True) Lv0 ρ0 H0 := by
  have at' : ∀ F S ρ H, Lat (G.frm F) Lv0 ρ0 H0 S ρ H → H d = some (.frz o (.dK kus)) := fun F S ρ H l => (l.keep.keep _ _ hd nl).1.eq fun _ z => nomatch z
  have hz : (zipD ks vs).length = kus.length := by rw [zipD_len ks vs (by rw [r.lens.1, r.lens.2]), r.lens.1]
  refine ⟨fun F S ρ H i l _ hi => ⟨at' F S ρ H l, by rw [← hz]; exact hi⟩, fun F S ρ H i l _ hi => ⟨at' F S ρ H l, by rw [← hz]; exact hi⟩, fun F S ρ H i x H' dd l _ y e => ?_⟩
  obtain ⟨t, k, v, h1, rfl, hT, rfl⟩ := y
  obtain ⟨d2, y, h2, h3, h4, h5⟩ := RKs.at r h1
  rw [zipD_at h2 h3] at e
  cases e
  have st : Stp (G.frm F) S S ρ ρ H (upd H t (.tup [kV k, v])) := Stp.laid l.sim hT
  exact ⟨l.sim.laid hT, st, .tup (.inl ⟨l.sim.fresh hT, .inl upd_same⟩) (.cons (keyOf_RV h4) (.cons (st.rv (h5.keep l.keep l.pre).frm) .nil))⟩
/-- .. while its walk begins -/
theorem lockd {G : Gd} {X : Cx} {F : Addr → Prop} {τ : Sl} {S : Store} {ρ : List Addr} {σ : L2.St} {H : Hp} {pins : List (Addr × Obj)} {s : Shared} {ks vs : List D} {u : V} (I : Inv X pins σ H s) (a : At (G.frm F) τ S ρ σ H) (r : RVl (G.frm F) S ρ H (.dct ks vs) u) :
    ∃ d o kus H2, u = .ref d ∧ Inv X pins σ H2 s ∧ At (G.frm F) τ S ρ σ H2 ∧ Stp (G.frm F) S S ρ ρ H H2 ∧ ¬ Live (G.frm F) S ρ d ∧ H2 d = some (.frz o (.dK kus)) ∧ RKs G (Live (G.frm F) S ρ) ρ H2 ks vs kus := by
  cases r with
  | @dct _ _ kus d hd rk =>
    rcases hd.2 with h | ⟨o, h⟩
    · obtain ⟨o, I2⟩ := I.lock h True.intro
      have st : Stp (G.frm F) S S ρ ρ H (upd H d (.frz o (.dK kus))) := Stp.lock hd.1 h
      exact ⟨d, o, kus, _, rfl, I2, a.step (a.sim.lock hd.1 h) st, st, hd.1, upd_same, (rk.keep st.keep st.pre).frm⟩
    · exact ⟨d, o, kus, H, rfl, I, a, Stp.refl, hd.1, h, rk.frm⟩
theorem Lat.rvs {G : Gd} {xs : List D} {us : List V} (l : Lat G Lv0 ρ0 H0 S ρ H) (r : RVs G Lv0 ρ0 H0 xs us) : RVsl G S ρ H xs us := r.keep l.keep l.pre
/-- the reading of a source -/
def rdS (G : Gd) (T : Tab) (O : Orc) (W : WX) (it : ItK) (src : List IE) : TI := fun σ H R => ∃ F τ S ρ, ∃ (P : Store → List D → (Store → Prop) → Prop) (E : QD), At (G.frm F) τ S ρ σ H ∧
  wpL T O src τ S (fun xs S1 => srcW it xs S1 (P S1)) E ∧ FinX (G.frm F) S ρ H E (WE W σ) ∧
  ∀ items st S1 ρ1 H1 J, P S1 items st → At (G.frm F) τ S1 ρ1 σ H1 → Stp (G.frm F) S S1 ρ ρ1 H H1 → SrcOk G J items st (Live (G.frm F) S1 ρ1) ρ1 H1 → R J H1
/-- walking an expression's value -/
theorem ok_srcE {a : IE} {e tg : Expr} (xo : XOk G N sc k X) (ha : PE X e (rdE G T O W a)) : PI X tg e (rdS G T O W .e [a]) := by
  refine ⟨fun pins s σ H R I ⟨F, τ, S, ρ, P, E, a0, w, fx, h⟩ => ?_⟩
  rw [wpL] at w
  refine thn (ha.run pins s σ H _ I (rd1 (K := fun u H1 => ∃ x S1 ρ1, At (G.frm F) τ S1 ρ1 σ H1 ∧ Stp (G.frm F) S S1 ρ ρ1 H H1 ∧ RVl (G.frm F) S1 ρ1 H1 x u ∧ srcV x S1 (P S1)) a0 w fx fun x S1 ρ1 H1 u p a1 t r => ⟨x, S1, ρ1, a1, t, r, by rw [wpL] at p; exact p⟩))
    fun v s1 ⟨u, H1, I1, r1, x, S1, ρ1, a1, t, rx, q⟩ => ?_
  have goL : ∀ {a : Addr} {xs : List D} {us : List V} {st : Store → Prop}, u = .ref a → SqL X.K H1 a us → P S1 xs st → SrcOk G (Itl G.K a) xs st (Live (G.frm F) S1 ρ1) ρ1 H1 → wpAny (model X.prog X.w) X.A (pyIter v) (PIE X pins σ tg R) X.xe s1 := fun {a xs us st} eu hs p so => by
    subst eu
    cases (show v = Value.ref a from r1)
    obtain ⟨its, rv, p2, hz⟩ := I1.list hs
    rw [← xo.K] at so
    exact wpAny_pyIter_list p2.isList (pi_one (tk := s1.toks) I1 _ (turn_list a _) ⟨_, Heap.get?_push_size _ rfl, rfl, rfl⟩ (h _ _ _ _ _ _ p a1 t so))
  unfold srcV at q
  split at q
  · cases rx with
    | @tup ds us a hz r =>
      cases (show v = Value.ref a from r1)
      have hs : SqT X.K H1 a us := by rw [xo.K]; exact hz.seq
      obtain ⟨its, rv, p2, hz2⟩ := I1.tuple hs
      refine wpAny_pyIter_tuple (show s1.heap.IsTuple a its.toArray from p2) (pi_one (tk := s1.toks) I1 _ (turn_tuple a _) ⟨_, Heap.get?_push_size _ rfl, rfl, rfl⟩ (h _ _ _ _ _ _ q a1 t ?_))
      rw [xo.K]
      exact src_seqT fun F' S ρ H l _ => ⟨us, (FzT.keep l.keep hz).seq, l.rvs r.frm⟩
  · cases rx with
    | @lst ds us a hz r => exact goL rfl (SqL.of hz.2) q (src_seqL fun F' S ρ H l _ => ⟨us, SqL.of ((l.keep.keep _ _ hz.2 hz.1).1.eq fun _ z => nomatch z), l.rvs r.frm⟩)
  · cases rx with
    | @klst ds us a hz r => exact goL rfl (by rw [xo.K]; exact hz.seq) q (src_seqL fun F' S ρ H l _ => ⟨us, (FzL.keep l.keep hz).seq, l.rvs r.frm⟩)
  · rename_i z
    cases rx with
    | str =>
      obtain ⟨tk, rfl⟩ := r1
      cases hc : (tx z).cps.all (· < 128)
      · exact wpAny_pyIter_wide hc (pi_one (tk := s1.toks) I1 _ (turn_str _ _ tk "str_iterator" (.inr rfl)) ⟨_, Heap.get?_push_size _ rfl, rfl, rfl⟩ (h _ _ _ _ _ _ q a1 t (src_str z)))
      · exact wpAny_pyIter_ascii hc (pi_one (tk := s1.toks) I1 _ (turn_str _ _ tk "str_ascii_iterator" (.inl rfl)) ⟨_, Heap.get?_push_size _ rfl, rfl, rfl⟩ (h _ _ _ _ _ _ q a1 t (src_str z)))
  · obtain ⟨d, o, kus, H2, rfl, I2, a2, t2, nl, hd, rk⟩ := lockd I1 a1 rx
    cases (show v = Value.ref d from r1)
    obtain ⟨hs, hgd, hx, es, ep, ws, hdt, hsz, kv, hm⟩ := I2.frzK hd
    refine iter_keys hs hgd hx hdt (pi_one (tk := s1.toks) I2 _ (turn_keys _ hdt) ⟨_, Heap.get?_push_size _ rfl, rfl, ?_⟩ (h _ _ _ _ _ _ q a2 (t.trans t2) (src_keys hd nl rk)))
    rw [hsz] <;> rfl
  · split at q
    · rename_i n _ xs e0
      obtain ⟨a, us, eu, h1, h2, h3⟩ := a1.sim.lst_at e0 rx
      refine goL eu (SqL.of h1) q (src_seqL fun F' S ρ H l hs => ?_)
      obtain ⟨b, us', eb, g1, g2, g3⟩ := l.sim.lst_at hs (.ref (l.pre _ _ h3))
      cases eb
      exact ⟨us', SqL.of g1, g2⟩
    · exact q.elim
  · exact q.elim
theorem bootRange : bootBuiltins "range" = some (.type "range") := by decide +kernel
theorem ok_srcR1 {as : List IE} {e tg : Expr} {p pos : Pos} (xo : XOk G N sc k X) (go : GOk G T) (hp : plainX e = true) (hf : T.fre "range" = true) (hl : sc.names.lookup ("range" : Str) = some .globalImplicit) (ha : PA X [e] (rdL G T O W as)) :
    PI X tg (.Call (.Name "range" p) [e] [] pos) (rdS G T O W .rng1 as) := by
  have b := pi_range1 (tg := tg) (p := p) (pos := pos) (xgl xo hl) (hasNo xo go hf) ha (star_eq hp _ _)
  refine ⟨fun pins s σ H R I ⟨F, τ, S, ρ, P, E, a0, w, fx, h⟩ => b.run pins s σ H R I (rdLe a0 w fx fun xs S1 ρ1 H1 us n q a1 t r => ?_)⟩
  simp only [srcW, srcR1] at q
  split at q
  · obtain ⟨u, rfl, ru⟩ := rvs_one r
    cases ru
    exact ⟨_, rfl, q.1.1, q.1.2, h _ _ _ _ _ _ q.2 a1 t (src_rng 0 _)⟩
  · exact q.elim
theorem ok_srcR2 {as : List IE} {e e2 tg : Expr} {p pos : Pos} (xo : XOk G N sc k X) (go : GOk G T) (hp : plainX e = true) (hp2 : plainX e2 = true) (hf : T.fre "range" = true) (hl : sc.names.lookup ("range" : Str) = some .globalImplicit) (ha : PA X [e, e2] (rdL G T O W as)) :
    PI X tg (.Call (.Name "range" p) [e, e2] [] pos) (rdS G T O W .rng2 as) := by
  have b := pi_range2 (tg := tg) (p := p) (pos := pos) (xgl xo hl) (hasNo xo go hf) ha (by rw [star_eq hp, star_eq hp2]; rfl) (star_eq hp2 _ _)
  refine ⟨fun pins s σ H R I ⟨F, τ, S, ρ, P, E, a0, w, fx, h⟩ => b.run pins s σ H R I (rdLe a0 w fx fun xs S1 ρ1 H1 us n q a1 t r => ?_)⟩
  simp only [srcW, srcR2] at q
  split at q
  · obtain ⟨u, v, rfl, ru, rv⟩ := rvs_two r
    cases ru
    cases rv
    exact ⟨_, _, rfl, q.1, h _ _ _ _ _ _ q.2 a1 t (src_rng _ _)⟩
  · exact q.elim
end
end DL

set_option maxHeartbeats 1000000
/-! DL 7e: targets, comprehensions -/
namespace DL
open PySem PySem.Spec PyProof.Rows L2
/-! ### slots set -/
theorem setS_get : ∀ (τ : Sl) (i j : Nat) (d e : D), getS (setS τ i d) j = some e → (j = i ∧ e = d ∧ i < τ.length) ∨ (j ≠ i ∧ getS τ j = some e)
  | [], i, j, d, e, h => by simp [setS, getS] at h
  | x :: r, 0, 0, d, e, h => by simp [setS, getS] at h; exact .inl ⟨rfl, h.symm, by simp⟩
  | x :: r, 0, j + 1, d, e, h => by simp [setS, getS] at h; exact .inr ⟨by omega, by simpa [getS] using h⟩
  | x :: r, i + 1, 0, d, e, h => by simp [setS, getS] at h; exact .inr ⟨by omega, by simpa [getS] using h⟩
  | x :: r, i + 1, j + 1, d, e, h => by
    simp only [setS, getS] at h
    rcases setS_get r i j d e h with ⟨a, b, c⟩ | ⟨a, b⟩
    · exact .inl ⟨by omega, b, by simp; omega⟩
    · exact .inr ⟨by omega, by simpa [getS] using b⟩
theorem setS_len : ∀ (τ : Sl) (i : Nat) (d : D), (setS τ i d).length = τ.length
  | [], _, _ => rfl
  | _ :: _, 0, _ => rfl
  | _ :: r, i + 1, d => by simp [setS, setS_len r i d]
theorem wipe_get (σ : L2.St) (vs : List Nat) (j : Nat) : (L2.wipe σ vs)[j]? = if j ∈ vs ∧ j < σ.length then some none else σ[j]? := by
  induction vs with
  | nil => simp [L2.wipe]
  | cons a r ih =>
    simp only [L2.wipe]
    by_cases e : a = j
    · subst e
      by_cases h : a < σ.length
      · rw [List.getElem?_set_self (by rw [L2.wipe_length]; exact h)]
        simp [h]
      · rw [List.getElem?_eq_none (by simp [L2.wipe_length]; omega)]
        rw [if_neg (by simp [h]), List.getElem?_eq_none (by omega)]
    · rw [List.getElem?_set_ne e, ih]
      simp [Ne.symm e]
theorem wipe_set {σ : L2.St} {i : Nat} {v : V} {vs : List Nat} (hi : i ∈ vs) : L2.wipe (σ.set i (some v)) vs = L2.wipe σ vs := by
  apply List.ext_getElem?
  intro j
  rw [wipe_get, wipe_get]
  by_cases e : i = j
  · subst e
    by_cases h : i < σ.length
    · simp [hi, h]
    · simp [h, List.getElem?_eq_none (Nat.le_of_not_lt h)]
  · rw [List.getElem?_set_ne e]
    simp
theorem wipe_idem (σ : L2.St) (vs : List Nat) : L2.wipe (L2.wipe σ vs) vs = L2.wipe σ vs := by
  apply List.ext_getElem?
  intro j
  rw [wipe_get, wipe_length, wipe_get]
  split
  · rfl
  · rfl
def tgIs : Tg → List Nat
  | .nm i => [i]
  | .tp is => is
section
variable {G : Gd} {T : Tab} {N : List Str} {sc : Scope} {k : Nat} {X : Cx} {W : WX} {O : Orc} {F : Addr → Prop} {τ : Sl} {S : Store} {ρ : List Addr} {σ : L2.St} {H : Hp} {E : QD} {Lv0 : Addr → Prop} {ρ0 : List Addr} {H0 : Hp}
theorem At.set {G : Gd} {i : Nat} {d : D} {v : V} (a : At G τ S ρ σ H) (r : RVl G S ρ H d v) : At G (setS τ i d) S ρ (σ.set i (some v)) H := by
  refine ⟨a.sim, by rw [setS_len, List.length_set]; exact a.len, fun j e h => ?_⟩
  rcases setS_get τ i j d e h with ⟨rfl, rfl, hl⟩ | ⟨hn, h⟩
  · exact ⟨v, by rw [List.getElem?_set_self (by rw [← a.len]; exact hl)], r⟩
  · obtain ⟨u, h1, h2⟩ := a.sl j e h
    exact ⟨u, by rw [List.getElem?_set_ne (Ne.symm hn)]; exact h1, h2⟩
/-- a target's reading -/
def rdG (G : Gd) (tg : Tg) : TG := fun v σ H Q => ∃ F τ S ρ d, ∃ P : Sl → Prop, At (G.frm F) τ S ρ σ H ∧ RVl (G.frm F) S ρ H d v ∧ bindTg tg d S τ P ∧
  ∀ τ' σ', P τ' → At (G.frm F) τ' S ρ σ' H → (∀ vs, (∀ i ∈ tgIs tg, i ∈ vs) → L2.wipe σ' vs = L2.wipe σ vs) → Q σ' H
/-- the names that a target sets are known -/
structure TgOk (X : Cx) (N : List Str) (i : Nat) (x : Str) : Prop where
  ix : N[i]? = some x
  lc : Loc X.env.scope x
  fn : X.fn x = true ∨ X.env.scope.names.lookup x = some .local
theorem ok_tgN {i : Nat} {x : Str} {pos : Pos} (hN : X.N = N) (nd : N.Nodup) (h : TgOk X N i x) : PG X (.Name x pos) (rdG G (.nm i)) := by
  have b := pg_name (X := X) (pos := pos) (by rw [hN]; exact nd) (by rw [hN]; exact h.ix) h.lc h.fn
  refine ⟨fun pins s σ H v u Q I r ⟨F, τ, S, ρ, d, P, a, rd, w, f⟩ => b.run pins s σ H v u Q I r ?_⟩
  exact f _ _ w (a.set rd) fun vs hv => wipe_set (hv i (by simp [tgIs]))
/-- many -/
def rdGs (G : Gd) (is : List Nat) : TGs := fun vs σ H Q => ∃ F τ S ρ ds, At (G.frm F) τ S ρ σ H ∧ RVsl (G.frm F) S ρ H ds vs ∧ ds.length = is.length ∧
  ∀ σ', At (G.frm F) (bindTg.setMany τ is ds) S ρ σ' H → (∀ vs, (∀ i ∈ is, i ∈ vs) → L2.wipe σ' vs = L2.wipe σ vs) → Q σ' H
theorem ok_tgsNil : PGs X [] (rdGs G []) := by
  refine ⟨fun pins s σ H vs us Q I r ⟨F, τ, S, ρ, ds, a, rd, hl, f⟩ => pgs_nil.run pins s σ H vs us Q I r ?_⟩
  cases ds with
  | cons d r => cases hl
  | nil =>
    cases rd
    exact ⟨rfl, f σ a fun _ _ => rfl⟩
theorem ok_tgsCons {i : Nat} {is : List Nat} {x : Str} {pos : Pos} {es : List Expr} (hN : X.N = N) (nd : N.Nodup) (h : TgOk X N i x) (hr : PGs X es (rdGs G is)) : PGs X (.Name x pos :: es) (rdGs G (i :: is)) := by
  have b := pgs_cons (pg_name (X := X) (pos := pos) (by rw [hN]; exact nd) (by rw [hN]; exact h.ix) h.lc h.fn) hr
  refine ⟨fun pins s σ H vs us Q I r ⟨F, τ, S, ρ, ds, a, rd, hl, f⟩ => b.run pins s σ H vs us Q I r ?_⟩
  cases rd with
  | nil => cases hl
  | cons h t =>
    refine ⟨_, _, rfl, F, _, S, ρ, _, a.set h, t, by simpa using hl, fun σ' a' hw => f σ' a' fun vs hv => ?_⟩
    rw [hw vs fun j hj => hv j (List.mem_cons_of_mem _ hj), wipe_set (hv i List.mem_cons_self)]
def namesA : List Expr → Bool
  | [] => true
  | .Name _ _ :: r => namesA r
  | _ :: _ => false
theorem names_len : ∀ {es : List Expr} (env : Env), namesA es = true → (assignEach es env).length = es.length ∧ (assignEach es env).findIdx? (·.1) = none
  | [], env, _ => ⟨rfl, rfl⟩
  | e :: es, env, h => by
    cases e <;> first
      | exact absurd h Bool.false_ne_true
      | (obtain ⟨a, b⟩ := names_len (es := es) env h
         refine ⟨by show (assignEach es env).length + 1 = _; rw [a]; rfl, ?_⟩
         simp only [assignEach, List.findIdx?_cons, b]
         rfl)
theorem ok_tgT {is : List Nat} {es : List Expr} {j : Nat} {pos : Pos} (hK : X.K = G.K) (hc : X.calm = true) (hn : namesA es = true) (hl : es.length = is.length) (h : PGs X es (rdGs G is)) : PG X (.Tuple es j pos) (rdG G (.tp is)) := by
  have b := pg_tup (X := X) (k := j) (pos := pos) (n := is.length) hc h (by rw [(names_len X.env hn).1, hl]) (names_len X.env hn).2
  have bl := pg_unl (X := X) (k := j) (pos := pos) (n := is.length) hc h (by rw [(names_len X.env hn).1, hl]) (names_len X.env hn).2
  refine ⟨fun pins s σ H v u Q I r ⟨F, τ, S, ρ, d, P, a, rd, w, f⟩ => ?_⟩
  cases rd with
  | @tup xs us a' hz rr => exact b.run pins s σ H _ u Q I r ⟨a', us, rfl, by rw [hK]; exact hz.seq, by rw [← rr.length]; exact w.1, F, τ, S, ρ, xs, a, rr, w.1, fun σ' a' hw => f _ σ' w.2 a' fun vs hv => hw vs hv⟩
  | @lst xs us a' hz rr => exact bl.run pins s σ H _ u Q I r ⟨a', us, rfl, SqL.of hz.2, by rw [← rr.length]; exact w.1, F, τ, S, ρ, xs, a, rr, w.1, fun σ' a' hw => f _ σ' w.2 a' fun vs hv => hw vs hv⟩
  | _ => exact w.elim
/-! ### comprehensions -/
theorem Keep.trans {L1 L2 L3 : Addr → Prop} {A B C : Hp} (a : Keep L1 L2 A B) (b : Keep L2 L3 B C) : Keep L1 L3 A C := ⟨fun x o h n => let ⟨h1, n1⟩ := a.keep x o h n; ⟨h1.trans fun o q => (b.keep x o q n1).1, h1.elim (fun q => (b.keep x o q n1).2) fun ⟨_, _, _, q⟩ => (b.keep x _ q n1).2⟩⟩
def addF (F : Addr → Prop) (D : Addr) : Addr → Prop := fun a => F a ∨ a = D
theorem live_add {D a : Addr} (l : Live (G.frm F) S ρ a) : Live (G.frm (addF F D)) S ρ a := l.imp .inl id
theorem live_add' {D a : Addr} (l : Live (G.frm (addF F D)) S ρ a) : Live (G.frm F) S ρ a ∨ a = D := by
  rcases l with (l | l) | l
  · exact .inl (.inl l)
  · exact .inr l
  · exact .inl (.inr l)
theorem keep_add (s : Sim (G.frm F) S ρ H) {D : Addr} {o : HO} (hD : H D = none) : Keep (Live (G.frm F) S ρ) (Live (G.frm (addF F D)) S ρ) H (upd H D o) :=
  ⟨fun a ob h n => ⟨.inl (by rw [upd_ne (ne_of_none h hD)]; exact h), fun l => (live_add' l).elim n fun e => by subst e; rw [hD] at h; cases h⟩⟩
theorem CellOk.frm {F F' : Addr → Prop} {Lv : Addr → Prop} {a : Addr} {c : Cell} (h : CellOk (G.frm F) Lv ρ H a c) : CellOk (G.frm F') Lv ρ H a c := by
  cases c with
  | lst xs => obtain ⟨us, h1, h2⟩ := h; exact ⟨us, h1, h2.frm⟩
  | dct ks vs => obtain ⟨us, h1, h2⟩ := h; exact ⟨us, h1, h2.frm⟩
  | obj c ns fs => obtain ⟨dx, fl, h1, h2, h3⟩ := h; exact ⟨dx, fl, h1, h2.frm, h3.frm⟩
  | dead => trivial
/-- an object laid, out of reach -/
theorem Sim.add (s : Sim (G.frm F) S ρ H) {D : Addr} {o : HO} (hD : H D = none) (hm : Mut (some o)) : Sim (G.frm (addF F D)) S ρ (upd H D o) := by
  refine ⟨s.len, fun n a c h1 h2 => ((s.ok n a c h1 h2).keep (keep_add s hD) (fun _ _ h => h) fun nd ob h => by rw [upd_ne (ne_of_none h hD)]; exact h).frm, s.inj, fun n a c h1 h2 h3 h4 => ?_, fun a h => ?_⟩
  · rcases h4 with h4 | h4
    · exact s.nfr n a c h1 h2 h3 h4
    · subst h4
      obtain ⟨o', q, _⟩ := (s.ok n a c h1 h2).there h3
      rw [hD] at q; cases q
  · rcases h with h | h
    · obtain ⟨o', q, m⟩ := s.frt a h
      exact ⟨o', by rw [upd_ne (ne_of_none q hD)]; exact q, m⟩
    · subst h
      exact ⟨o, upd_same, hm⟩
/-- what is out of reach, written -/
theorem Sim.putF {G : Gd} (s : Sim G S ρ H) {D : Addr} {o : HO} (hD : G.Fr D) (hm : Mut (some o)) : Sim G S ρ (upd H D o) ∧ Keep (Live G S ρ) (Live G S ρ) H (upd H D o) := by
  have k : Keep (Live G S ρ) (Live G S ρ) H (upd H D o) := ⟨fun a ob h n => ⟨.inl (by rw [upd_ne fun e => n (.inl (by rw [e]; exact hD))]; exact h), n⟩⟩
  refine ⟨⟨s.len, fun n a c h1 h2 => (s.ok n a c h1 h2).keep k (fun _ _ h => h) fun nd ob h => ?_, s.inj, s.nfr, fun a h => ?_⟩, k⟩
  · rw [upd_ne]
    · exact h
    · intro e
      subst e
      exact s.nfr n a c h1 h2 nd hD
  · by_cases e : a = D
    · subst e
      exact ⟨o, upd_same, hm⟩
    · obtain ⟨o', q, m⟩ := s.frt a h
      exact ⟨o', by rw [upd_ne e]; exact q, m⟩
/-- what was out of reach no more so: a datum -/
theorem Sim.less {D : Addr} (s : Sim (G.frm (addF F D)) S ρ H) : Sim (G.frm F) S ρ H :=
  ⟨s.len, fun n a c h1 h2 => ((s.ok n a c h1 h2).keep ⟨fun a o h n => ⟨.inl h, fun q => n (live_add q)⟩⟩ (fun _ _ h => h) fun _ _ h => h).frm, s.inj, fun n a c h1 h2 h3 h4 => s.nfr n a c h1 h2 h3 (.inl h4), fun a h => s.frt a (.inl h)⟩
/-- a cell -/
theorem live_cell {D a : Addr} {c : Cell} (hl : ρ.length = S.length) (l : Live (G.frm F) (S ++ [c]) (ρ ++ [D]) a) : Live (G.frm (addF F D)) S ρ a := by
  rcases l with l | ⟨n, c', h1, h2, h3⟩
  · exact .inl (.inl l)
  · rcases get_snoc h1 with h1 | ⟨e1, e2⟩
    · rcases get_snoc h2 with h2 | ⟨e3, e4⟩
      · exact .inr ⟨n, c', h1, h2, h3⟩
      · have := (List.getElem?_eq_some_iff.mp h1).1
        omega
    · exact .inl (.inr e2)
theorem Sim.asCell {D : Addr} {c : Cell} (s : Sim (G.frm (addF F D)) S ρ H) (hF : ¬ F D) (hc : CellOk (G.frm (addF F D)) (Live (G.frm (addF F D)) S ρ) ρ H D c) (nd : c ≠ .dead) : Sim (G.frm F) (S ++ [c]) (ρ ++ [D]) H := by
  have hnl : ∀ (n : Nat) c', ρ[n]? = some D → S[n]? = some c' → c' ≠ .dead → False := fun n c' h1 h2 h3 => s.nfr n D c' h1 h2 h3 (.inr rfl)
  have k : Keep (Live (G.frm (addF F D)) S ρ) (Live (G.frm F) (S ++ [c]) (ρ ++ [D])) H H := ⟨fun a o h n => ⟨.inl h, fun q => n (live_cell s.len q)⟩⟩
  have key : ∀ {n : Nat} {a : Addr} {c1 : Cell}, (ρ ++ [D])[n]? = some a → (S ++ [c])[n]? = some c1 → (ρ[n]? = some a ∧ S[n]? = some c1) ∨ (n = ρ.length ∧ a = D ∧ c1 = c) := fun {n a c1} h1 h2 => by
    have hl := s.len
    rcases get_snoc h1 with h1 | ⟨e1, e2⟩
    · rcases get_snoc h2 with h2 | ⟨e3, e4⟩
      · exact .inl ⟨h1, h2⟩
      · have := (List.getElem?_eq_some_iff.mp h1).1
        omega
    · rcases get_snoc h2 with h2 | ⟨e3, e4⟩
      · have := (List.getElem?_eq_some_iff.mp h2).1
        omega
      · exact .inr ⟨e1, e2, e4⟩
  refine ⟨by simp [s.len], fun n a c1 h1 h2 => ?_, fun n m a c1 c2 h1 h2 h3 h4 h5 h6 => ?_, fun n a c1 h1 h2 h3 h4 => ?_, fun a h => s.frt a (.inl h)⟩
  · rcases key h1 h2 with ⟨g1, g2⟩ | ⟨e1, e2, e3⟩
    · exact ((s.ok n a c1 g1 g2).keep k (fun _ _ h => get_pre h) fun _ _ h => h).frm
    · subst e2; subst e3
      exact (hc.keep k (fun _ _ h => get_pre h) fun _ _ h => h).frm
  · rcases key h1 h3 with ⟨g1, g2⟩ | ⟨e1, e2, e3⟩
    · rcases key h2 h5 with ⟨g3, g4⟩ | ⟨e4, e5, e6⟩
      · exact s.inj n m a c1 c2 g1 g3 g2 h4 g4 h6
      · subst e5
        exact (hnl n c1 g1 g2 h4).elim
    · rcases key h2 h5 with ⟨g3, g4⟩ | ⟨e4, e5, e6⟩
      · subst e2
        exact (hnl m c2 g3 g4 h6).elim
      · omega
  · rcases key h1 h2 with ⟨g1, g2⟩ | ⟨e1, e2, e3⟩
    · exact s.nfr n a c1 g1 g2 h3 (.inl h4)
    · subst e2
      exact hF h4
end
end DL

set_option maxHeartbeats 1000000
/-! DL 7f: comprehensions -/
namespace DL
open PySem PySem.Spec PyProof.Rows L2
theorem wipeS_get : ∀ {is : List Nat} {τ : Sl} {i : Nat} {d : D}, getS (wipeS τ is) i = some d → getS τ i = some d ∧ i ∉ is
  | [], _, _, _, h => ⟨h, List.not_mem_nil⟩
  | j :: r, τ, i, d, h => by
    obtain ⟨h1, h2⟩ := wipeS_get (is := r) h
    rw [getS_iff] at h1
    by_cases e : j = i
    · subst e
      by_cases hl : j < τ.length
      · rw [List.getElem?_set_self hl] at h1; cases h1
      · rw [List.getElem?_eq_none (by simp; omega)] at h1; cases h1
    · rw [List.getElem?_set_ne e] at h1
      exact ⟨(getS_iff _ _ _).mpr h1, by simp [Ne.symm e, h2]⟩
theorem wipeS_len : ∀ (is : List Nat) (τ : Sl), (wipeS τ is).length = τ.length
  | [], _ => rfl
  | j :: r, τ => by rw [wipeS, wipeS_len r, List.length_set]
section
variable {G : Gd} {T : Tab} {N : List Str} {sc : Scope} {k : Nat} {X : Cx} {W : WX} {O : Orc} {F : Addr → Prop} {τ : Sl} {S : Store} {ρ : List Addr} {σ : L2.St} {H : Hp} {E : QD}
theorem At.wipe {G : Gd} (a : At G τ S ρ σ H) (own : List Nat) : At G (wipeS τ own) S ρ (L2.wipe σ own) H := by
  refine ⟨a.sim, by rw [wipeS_len, wipe_length]; exact a.len, fun i d h => ?_⟩
  obtain ⟨h1, h2⟩ := wipeS_get h
  obtain ⟨u, g1, g2⟩ := a.sl i d h1
  exact ⟨u, by rw [wipe_out h2]; exact g1, g2⟩
theorem At.forget {G : Gd} (a : At G τ S ρ σ H) (own : List Nat) : At G (wipeS τ own) S ρ σ H :=
  ⟨a.sim, by rw [wipeS_len]; exact a.len, fun i d h => a.sl i d (wipeS_get h).1⟩
theorem okI_nil : PTs X [] (rdI G T O W []) := ⟨fun pins s σ H Q I ⟨F, τ, S, ρ, P, E, a, w, f, fx⟩ => by
  rw [wpI] at w
  exact pts_nil.run pins s σ H Q I (f _ _ _ _ w a.sim Stp.refl)⟩
theorem okI_one {c : IT} {e : Expr} (h : PT X e (rdT G T O W c)) : PTs X [e] (rdI G T O W [c]) := ⟨fun pins s σ H Q I ⟨F, τ, S, ρ, P, E, a, w, f, fx⟩ => by
  rw [wpI] at w
  exact (pts_one h).run pins s σ H Q I ⟨F, τ, S, ρ, P, E, a, w, f, fx⟩⟩
abbrev Wno : WX := fun _ _ _ _ => False
/-- a comprehension's state at a turn -/
def LcI (G : Gd) (T : Tab) (O : Orc) (tg : Tg) (ifs : List IT) (elt : IE) (st : Store → Prop) (F : Addr → Prop) (τ : Sl) (σ : L2.St) (P : QL) (items : List D) (Lv0 : Addr → Prop) (ρ0 : List Addr) (H0 : Hp) (D0 : Addr) (i m : Nat) (H : Hp) : Prop :=
  ∃ (acc : List D) (S : Store) (ρ : List Addr) (us : List V), i + m = items.length ∧ At (G.frm (addF F D0)) τ S ρ σ H ∧ H D0 = some (.lst us) ∧ RVsl (G.frm (addF F D0)) S ρ H acc us ∧
    Keep Lv0 (Live (G.frm (addF F D0)) S ρ) H0 H ∧ (∀ (n : Nat) a, ρ0[n]? = some a → ρ[n]? = some a) ∧ (∀ a, F a → H a = H0 a) ∧
    lcW0 (bindTg tg) (fun τ1 S2 R => wpI T O ifs τ1 S2 R (fun _ _ => False)) (fun τ1 S2 R => wpE T O elt τ1 S2 R (fun _ _ => False)) st τ P (items.drop i) acc S
theorem lc_turn {tg : Tg} {ifs : List IT} {elt : IE} {st : Store → Prop} {P : QL} {items : List D} {Lv0 : Addr → Prop} {ρ0 : List Addr} {H0 : Hp} {D0 : Addr} {i m : Nat} {J : It} {own : List Nat} {Q : VK}
    (s0 : Sim (G.frm F) S ρ H0) (h0 : H0 D0 = none) (hl0 : Lv0 = Live (G.frm F) S ρ) (hr0 : ρ0 = ρ) (so : SrcOk G J items st Lv0 ρ0 H0) (hown : ∀ j ∈ tgIs tg, j ∈ own)
    (fin : ∀ acc S2 ρ2 H2 us, P acc S2 → Sim (G.frm (addF F D0)) S2 ρ2 H2 → H2 D0 = some (.lst us) → RVsl (G.frm (addF F D0)) S2 ρ2 H2 acc us → Keep Lv0 (Live (G.frm (addF F D0)) S2 ρ2) H0 H2 → (∀ (n : Nat) a, ρ0[n]? = some a → ρ2[n]? = some a) → (∀ a, F a → H2 a = H0 a) → Q (.ref D0) H2)
    (h : LcI G T O tg ifs elt st F (wipeS τ own) (L2.wipe σ own) P items Lv0 ρ0 H0 D0 i m H) :
    (J.stop i H ∧ Q (.ref D0) H) ∨ (J.go i H ∧ ∃ Nx : Hp → Prop, (∀ H', Nx H' → ∃ m', m' < m ∧ LcI G T O tg ifs elt st F (wipeS τ own) (L2.wipe σ own) P items Lv0 ρ0 H0 D0 (i + 1) m' H') ∧ ∀ x H', J.yld i H x H' → rdG G tg x (L2.wipe σ own) H' fun σ2 H2 => L2.wipe σ2 own = L2.wipe σ own ∧
      rdI G T O Wno ifs σ2 H2 fun b H3 => if b = true then rdE G T O Wno elt σ2 H3 (fun y H4 => ∃ acc, H4 D0 = some (.lst acc) ∧ acc.length < sizeLine ∧ Nx (upd H4 D0 (.lst (acc ++ [y])))) else Nx H3) := by
  obtain ⟨acc, S2, ρ2, us, him, a2, hd, ra, kp, pr, fr, w⟩ := h
  have lat : Lat (G.frm (addF F D0)) Lv0 ρ0 H0 S2 ρ2 H := ⟨a2.sim, kp, pr⟩
  have fne : ∀ a, F a → a ≠ D0 := fun a h e => by
    obtain ⟨o, q, _⟩ := s0.frt a h
    rw [e, h0] at q; cases q
  cases hx : items[i]? with
  | none =>
    have hi := List.getElem?_eq_none_iff.mp hx
    rw [List.drop_eq_nil_of_le hi] at w
    exact .inl ⟨so.stop _ _ _ _ i lat w.1 hi, fin acc S2 ρ2 H us w.2 a2.sim hd ra kp pr fr⟩
  | some d =>
    obtain ⟨hi, hd2⟩ := List.getElem?_eq_some_iff.mp hx
    rw [List.drop_eq_getElem_cons hi, hd2] at w
    obtain ⟨w1, w2⟩ := w
    refine .inr ⟨so.go _ _ _ _ i lat w1 hi, fun H' => ∃ m', m' < m ∧ _, fun _ h => h, fun x H' y => ?_⟩
    obtain ⟨s3, t3, rx⟩ := so.yld _ _ _ _ i x H' d lat w1 y hx
    have a3 := a2.step s3 t3
    refine ⟨addF F D0, _, S2, ρ2, d, _, a3, rx, w2, fun τ1 σ1 p1 a4 hw => ⟨?_, ?_⟩⟩
    · rw [hw own hown]
      exact wipe_idem _ _
    · refine ⟨addF F D0, τ1, S2, ρ2, _, _, a4, p1, fun b S5 ρ5 H5 p5 s5 t5 => ?_, FinX.no⟩
      have t35 := t3.trans t5
      have hd5 : H5 D0 = some (.lst us) := (t35.fr D0 (.inr rfl)).trans hd
      rcases iteW_e p5 with ⟨e, p5⟩ | ⟨e, p5⟩
      · dsimp only
        rw [e, if_pos rfl]
        refine ⟨addF F D0, τ1, S5, ρ5, _, _, a4.step s5 t5, p5, fun v S6 ρ6 H6 u p6 s6 t6 rv => ?_, FinX.no⟩
        obtain ⟨hlen, v2, S7, g, p7⟩ := p6
        have t36 := t35.trans t6
        obtain ⟨ρ7, s7, t7, rv7⟩ := gh_ok g rfl a2.sim.len s6 t36 rv
        have hd6 : H6 D0 = some (.lst us) := (t36.fr D0 (.inr rfl)).trans hd
        obtain ⟨s8, k8⟩ := Sim.putF (o := .lst (us ++ [u])) s7 (D := D0) (.inr rfl) True.intro
        have ra7 := t7.rvs ra
        refine ⟨us, hd6, by rw [line, ← ra.length]; exact hlen, m - 1, by omega, acc ++ [v2], S7, ρ7, us ++ [u], by omega, ⟨s8, a2.len, fun j e hj => ?_⟩, upd_same, ?_, (kp.trans t7.keep).trans k8, fun n a h => t7.pre n a (pr n a h), fun a h => ?_, p7⟩
        · obtain ⟨z, z1, z2⟩ := a2.sl j e hj
          exact ⟨z, z1, (t7.rv z2).keep k8 fun _ _ h => h⟩
        · exact (ra7.append (.cons rv7 .nil)).keep k8 fun _ _ h => h
        · rw [upd_ne (fne a h), t7.fr a (.inl h), fr a h]
      · dsimp only
        rw [e, if_neg Bool.false_ne_true]
        exact ⟨m - 1, by omega, acc, S5, ρ5, us, by omega, a2.step s5 t35, hd5, t35.rvs ra, kp.trans t35.keep, fun n a h => t35.pre n a (pr n a h), fun a h => (t35.fr a (.inl h)).trans (fr a h), p5⟩
theorem blk_ok (xo : XOk G N sc k X) (s : Shared) (H : Hp) (scope : Scope) (C : Addr) (cl : List (Str × Addr)) (fp : List Addr) : XOk G N (relS scope sc) k (X.blk s H scope (compEnvC scope cl C X.env) fp) := by
  refine ⟨xo.prog, xo.w, xo.K, xo.mg, xo.base, xo.eqN, xo.nd, ?_, xo.calm, xo.room⟩
  rw [← xo.sc]
  rfl
theorem no_takes : Takes X Wno := fun u s' ⟨_, _, _, _, _, _, _, _, _, _, _, _, _, _, _, _, h⟩ => h.elim
theorem noSet_iter {e : Expr} (h : noSet e = true) (env : Env) (x : Value) : foldedSetIterable e env x = pure x := by
  cases e <;> first
    | exact absurd h Bool.false_ne_true
    | rfl
theorem lc_read {tg : Tg} {it : ItK} {src : List IE} {ifs : List IT} {elt : IE} {own : List Nat} {fz : Bool} (htg : ∀ j ∈ tgIs tg, j ∈ own) (Q : VK) (h : rdE G T O W (.lc fz own tg it src ifs elt) σ H Q) :
    tLc (rdS G T O W it src) (rdG G tg) (rdI G T O Wno ifs) (rdE G T O Wno elt) own σ H Q := by
  obtain ⟨F, τ, S, ρ, P, E, a0, w, f, fx⟩ := h
  rw [wpE] at w
  refine ⟨F, τ, S, ρ, _, E, a0, w, fx, fun items st S1 ρ1 H1 J p a1 t so D0 hD => ?_⟩
  unfold lcW at p
  have fne : ∀ a, F a → a ≠ D0 := fun a h e => by
    obtain ⟨o, q, _⟩ := a1.sim.frt a h
    rw [e, hD] at q; cases q
  have k0 := keep_add (o := .lst []) a1.sim hD
  have a1w := a1.wipe own
  refine ⟨fun i m H => LcI G T O tg ifs elt st F (wipeS τ own) (L2.wipe σ own) (fun ys S3 => mkL fz ys S3 P) items (Live (G.frm F) S1 ρ1) ρ1 H1 D0 i m H,
    ⟨items.length, [], S1, ρ1, [], by omega, ⟨a1.sim.add hD True.intro, a1w.len, fun j e hj => ?_⟩, upd_same, .nil, k0, fun _ _ h => h, fun a h => upd_ne (fne a h), p⟩, fun i m H' hI => lc_turn a1.sim hD rfl rfl so htg ?_ hI⟩
  · obtain ⟨z, z1, z2⟩ := a1w.sl j e hj
    exact ⟨z, z1, (z2.keep k0 fun _ _ h => h).frm⟩
  · intro acc S2 ρ2 H2 us p2 s2 hd ra kp pr fr
    have hF : ¬ F D0 := fun h => fne D0 h rfl
    have keep : Keep (Live (G.frm F) S1 ρ1) (Live (G.frm F) S2 ρ2) H1 H2 := ⟨fun a o h n => let ⟨h1, n1⟩ := kp.keep a o h n; ⟨h1, fun q => n1 (live_add q)⟩⟩
    cases fz with
    | true =>
      have nl : ¬ Live (G.frm F) S2 ρ2 D0 := fun l => by
        rcases l with l | ⟨n, c, h1, h2, h3⟩
        · exact hF l
        · exact s2.nfr n D0 c h1 h2 h3 (.inr rfl)
      exact f (.lst acc) S2 ρ2 H2 _ p2 s2.less (t.trans ⟨pr, keep, fr⟩) (.lst ⟨nl, hd⟩ (ra.live fun a => live_add).frm)
    | false =>
      have s3 : Sim (G.frm F) (S2 ++ [.lst acc]) (ρ2 ++ [D0]) H2 := s2.asCell hF ⟨us, hd, ra⟩ (by simp)
      have keep3 : Keep (Live (G.frm F) S1 ρ1) (Live (G.frm F) (S2 ++ [.lst acc]) (ρ2 ++ [D0])) H1 H2 := ⟨fun a o h n => let ⟨h1, n1⟩ := kp.keep a o h n; ⟨h1, fun q => n1 (live_cell s2.len q)⟩⟩
      refine f (.ref S2.length) (S2 ++ [.lst acc]) (ρ2 ++ [D0]) H2 _ (show P (.ref S2.length) (S2 ++ [Cell.lst acc]) from p2) s3 (t.trans ⟨fun n a h => get_pre (pr n a h), keep3, fr⟩) (.ref ?_)
      rw [← s2.len, List.getElem?_append_right (Nat.le_refl _)]
      simp
theorem ok_lc {tg : Tg} {it : ItK} {src : List IE} {ifs : List IT} {elt : IE} {own : List Nat} {ownp : List (Str × Nat)} {fz : Bool} {elt' tg' iter' : Expr} {ifs' : List Expr} {scope : Scope} {pos : Pos}
    (xo : XOk G N sc k X) (hi : PI X tg' iter' (rdS G T O W it src)) (hb : blkC N sc scope ownp = true) (hown : ownp.map (·.2) = own) (htg : ∀ j ∈ tgIs tg, j ∈ own)
    (hg : ∀ X', XOk G N (relS scope sc) k X' → PG X' tg' (rdG G tg)) (ht : ∀ X', XOk G N (relS scope sc) k X' → PTs X' ifs' (rdI G T O Wno ifs)) (he : ∀ X', XOk G N (relS scope sc) k X' → PE X' elt' (rdE G T O Wno elt)) (hs : noSet iter' = true) :
    PE X (.ListComp elt' [⟨tg', iter', ifs', 0⟩] scope pos) (rdE G T O W (.lc fz own tg it src ifs elt)) := by
  have ok : BlkOk X.N X.env.scope scope ownp := by rw [xo.eqN, xo.sc]; exact blkOk_by hb
  refine PE.of (pe_lc xo.calm (by rw [xo.eqN]; exact xo.nd) hi ok (fun s H C cl fp => hg _ (blk_ok xo s H scope C cl fp)) (fun s H C cl fp => ht _ (blk_ok xo s H scope C cl fp)) (fun s H C cl fp => he _ (blk_ok xo s H scope C cl fp)) (noSet_iter hs _)) fun σ H Q h => ?_
  rw [hown]
  exact lc_read htg Q h
end
end DL

set_option maxHeartbeats 1000000
/-! DL 7m: enumerate, items, values -/
namespace DL
open PySem PySem.Spec PyProof.Rows L2
/-! ### enumerate of a tuple -/
theorem enum_new1 {v : Value} {o : Obj} {H : Heap → Prop} (B : Begins v o H) :
    Meets (Builtin.«enumerate.__new__» ⟨[.type "enumerate", v], []⟩) (fun _ R s => H s.heap ∧
      R (.ok (.ret (.ref (s.heap.push o).objs.size))) { s with heap := (s.heap.push o).push { cls := .type "enumerate", data := .fields #[.none, .bool false, .ref s.heap.objs.size, rawInt 0, .none, .none] } }) :=
  .of_wp fun prog w A R s h => by
    obtain ⟨hp, g, d, tk, os⟩ := s
    obtain ⟨h1, h⟩ := h
    have hsub := sub_enumerate
    have q : ∀ {A' : Around} {E Q : Value → Shared → Prop}, Q (.ref hp.objs.size) ⟨hp.push o, g, d, tk, os⟩ → wpAny (model prog w) A' (pyIter v) Q E ⟨hp, g, d, tk, os⟩ := fun z => B.iter prog w _ _ ⟨hp, g, d, tk, os⟩ _ h1 z
    wp_walk using q
    refine wpAny_stack_any fun st => wpAny_pure ?_
    split
    · rename_i c _ _ _ _ _
      cases (c == Value.type "enumerate") <;> (wp_walk using q; exact ⟨_, rfl, h⟩)
    · wp_walk using q
      exact ⟨_, rfl, h⟩
theorem enum_at {prog : Program} {w : World} {A : Around} {E Q : Value → Shared → Prop} {s : Shared} {v : Value} {o : Obj} {H : Heap → Prop} (B : Begins v o H) (h1 : H s.heap)
    (h : ∀ h', IsEnum h' (s.heap.objs.size + 1) s.heap.objs.size 0 .none → h'.get? s.heap.objs.size = some o → (∀ b o, s.heap.get? b = some o → h'.get? b = some o) → Q (.ref (s.heap.objs.size + 1)) { s with heap := h' }) :
    wpAny (model prog w) A (call (.type "enumerate") [v]) Q E s := by
  refine callType_new F.called_enumerate (by decide) (F.typeCall_enumerate_1 _) (F.newCall_enumerate_1 _) (fun obj => F.args_object_init_2 obj _) F.entry_enumerate_new (enum_new1 B) ⟨h1, ?_⟩
  have hz : (s.heap.push o).objs.size = s.heap.objs.size + 1 := Heap.size_push ..
  show _ ∧ _
  rw [hz]
  have q := Heap.get?_push_size (s.heap.push o) (o := { cls := .type "enumerate", data := .fields #[.none, .bool false, .ref s.heap.objs.size, rawInt 0, .none, .none] }) rfl
  rw [hz] at q
  exact ⟨⟨_, q, rfl⟩, h _ q (Heap.get?_push_of_some _ (Heap.get?_push_size _ B.free)) fun b o x => Heap.get?_push_of_some _ (Heap.get?_push_of_some _ x)⟩
theorem enT_end {prog : Program} {w : World} {A : Around} {E : Value → Shared → Prop} {s : Shared} {e it t : Addr} {i : Int} {j : Nat} {items : Array Value} {old : Value} {Q : Option Value → Shared → Prop} (hh : A.handled = none)
    (he : IsEnum s.heap e it i old) (hit : s.heap.IsTupleIter it t j) (ht : s.heap.IsTuple t items) (hx : items[j]? = none) (hQ : ∀ h', Heap.ExtBut it s.heap h' → Q none { s with heap := h' }) : wpAny (model prog w) A (pyNext (.ref e)) Q E s := by
  have ty : s.TypeIs (.ref e) "enumerate" := ⟨_, he, rfl⟩
  unfold pyNext
  refine wpAny_bind (wpAny_attempt (wpAny_callSpecial?_slot (name := Str.ofString "__next__") ty F.slot_enumerate_next (wpAny_call_entry F.slot_enumerate_next ty F.entry_enumerate_next ?_ (F.args_enumerate_next_1 _))))
  refine wpAny_bind (m := field (.ref e) 2) (wpAny_field he rfl (x := .ref it) rfl (wpAny_bind (wpAny_nextOf_tuple_end hh hit ht hx fun h' x he' z => ?_)))
  obtain ⟨o, ho, hc⟩ := z
  exact wpAny_bind (wpAny_isInstance (T := "StopIteration") (b := true) ⟨o, ho, hc⟩ isSubtype_stop (wpAny_pure (hQ _ he')))
/-- the tuple at a, each item in a new pair -/
def IteT (K : PySem.W.Frag) (a : Addr) : It :=
  ⟨fun i H => ∃ (xs : List V) (x : V), SqT K H a xs ∧ xs[i]? = some x, fun i H v H' => ∃ t x, v = .ref t ∧ H t = none ∧ H' = upd H t (.tup [.int (i : Nat), x]) ∧ ∀ xs, SqT K H a xs → xs[i]? = some x, fun i H => ∃ xs : List V, SqT K H a xs ∧ xs.length ≤ i⟩
theorem turn_enT {P : Program} {w : World} {K : PySem.W.Frag} {elts : List Expr} {kk : Nat} {tpos : Pos} (a e it : Addr) :
    Turn P w K (.Tuple elts kk tpos) (IteT K a) [e, it] e (fun i h => (∃ old, IsEnum h e it ((i : Nat) : Int) old) ∧ h.IsTupleIter it a i ∧ e ≠ it ∧ e ≠ a ∧ a ≠ it) where
  mem := by simp
  obj := fun i h st b hb => by
    obtain ⟨⟨old, he⟩, ⟨o, ho, hc, hd⟩, _⟩ := st
    have q : b = e ∨ b = it := by simpa using hb
    rcases q with z | z
    · subst z; exact ⟨_, he, fun v q => nomatch q⟩
    · subst z; exact ⟨o, ho, fun v q => by rw [hd] at q; cases q⟩
  keep := fun i h h' st k => let ⟨⟨old, he⟩, hi, hn⟩ := st; ⟨⟨old, k e (by simp) _ he⟩, hi.at fun o q => k it (by simp) o q, hn⟩
  item := by
    intro X hP hw hK hc i pins s σ H E I hf st hg
    subst hP hw hK
    obtain ⟨⟨old, he⟩, hit, hne, hea, hai⟩ := st
    obtain ⟨xs, x, hq, hx⟩ := hg
    obtain ⟨its, rv, p, hz⟩ := I.tuple hq
    obtain ⟨u, hu, ru⟩ := rv.get hx
    have hel : e < s.heap.objs.size := Heap.lt_size he
    have hil : it < s.heap.objs.size := let ⟨_, q, _⟩ := hit; Heap.lt_size q
    have hT : s.heap.IsTuple a its.toArray := p
    have hi' : i < its.toArray.size := by
      have := (List.getElem?_eq_some_iff.mp hu).1
      simpa using this
    refine wpAny_pyNext_enum_itemD (Draws.tuple (A := X.A.in1) (show X.A.in1.handled = none from I.ok.hd hc) it a hai its.toArray) he ⟨hit, hT⟩ hi' hne (by simp [hne, hea]) fun y h' tk hy ho hs hN hsz hk => ?_
    have ey : y = u := by
      have hy' : its.toArray[i]? = some y := hy
      have : its[i]? = some y := by simpa using hy'
      rw [hu] at this
      cases this
      rfl
    subst ey
    refine ⟨_, rfl, wpAny_letOwnedTupleGo_enum (s := { s with heap := h', toks := tk + 1 }) ho fun h'' he' sb => ?_⟩
    have hN2 : h''.get? s.heap.objs.size = some { cls := .type "tuple", data := .seq #[.int i tk, y] } := (sb.2 _ (Nat.ne_of_gt hel)).trans hN
    have new : ObjOk X.prog X.w (upd H s.heap.objs.size (.tup [.int (i : Nat), x])) h'' s.heap.objs.size (.tup [.int (i : Nat), x]) :=
      ⟨by show 2 ≤ sizeLine; decide, [.int i tk, y], .cons ⟨_, rfl⟩ (.cons ru .nil), ⟨_, hN2, rfl, _, rfl⟩⟩
    have I1 : Inv X pins σ (upd H s.heap.objs.size (.tup [.int (i : Nat), x])) { s with heap := h'', toks := tk + 1 } :=
      I.turnedNew (ch := [e, it]) (fun b o hb q => (sb.2 b fun z => hb (by simp [z])).trans (hk b o (fun z => hb (by simp [z])) (fun z => hb (by simp [z])) q)) hf (Nat.le_refl _) new
    refine ⟨.ref s.heap.objs.size, _, I1, rfl, ⟨_, x, rfl, I.hok.fresh (Nat.le_refl _), rfl, fun ys hy => by rw [I.tuple_inj hy hq]; exact hx⟩, ⟨⟨y, ?_⟩, hs.1.at fun o q => (sb.2 it (Ne.symm hne)).trans q, hne, hea, hai⟩, fun b hb => ?_⟩
    · rw [show ((i + 1 : Nat) : Int) = (i : Int) + 1 by omega]; exact he'
    · have q : b = e ∨ b = it := by simpa using hb
      have hb' : b < s.heap.objs.size := by rcases q with z | z <;> (rw [z]; assumption)
      rw [upd_ne (Nat.ne_of_lt hb')]
      exact (hf b hb).1
  done := by
    intro X hP hw hK hc i pins s σ H E I hf st hg
    subst hP hw hK
    obtain ⟨⟨old, he⟩, hit, hne, hea, hai⟩ := st
    obtain ⟨xs, hq, hx⟩ := hg
    obtain ⟨its, rv, p, hz⟩ := I.tuple hq
    obtain ⟨f0, f1, f2, f3, f4, f5⟩ := hf it (by simp)
    have hl := rv.length
    exact enT_end (I.ok.hd hc) he hit (show s.heap.IsTuple a its.toArray from p) (by simp; omega) fun h' eb => ⟨rfl, I.turned (t' := s.toks) (fun b o hb q => eb b o hb q) f0 f1 f3 f4 f5⟩
  self := fun A i s Q E st h => let ⟨⟨_, he⟩, _⟩ := st; wpAny_pyIter_enum he h
/-! ### what is walked -/
theorem enumD_len : ∀ (n : Nat) (xs : List D), (enumD n xs).length = xs.length
  | _, [] => rfl
  | n, _ :: r => by simp only [enumD, List.length_cons, enumD_len (n + 1) r]
theorem enumD_at : ∀ {n i : Nat} {xs : List D} {x : D}, xs[i]? = some x → (enumD n xs)[i]? = some (.tup [.int ((n + i : Nat) : Int), x])
  | _, _, [], _, h => by simp at h
  | n, 0, a :: r, _, h => by
    simp at h
    subst h
    rfl
  | n, i + 1, a :: r, _, h => by
    simp only [enumD, List.getElem?_cons_succ]
    rw [enumD_at (n := n + 1) (by simpa using h)]
    congr 5
    omega
section
variable {G : Gd} {T : Tab} {N : List Str} {sc : Scope} {k : Nat} {X : Cx} {W : WX} {O : Orc} {F : Addr → Prop} {τ : Sl} {S : Store} {ρ : List Addr} {σ : L2.St} {H : Hp} {E : QD} {Lv0 : Addr → Prop} {ρ0 : List Addr} {H0 : Hp}
theorem en_yld {F : Addr → Prop} {S : Store} {ρ : List Addr} {H : Hp} {xs : List D} {us : List V} {i : Nat} {t : Addr} {x : V} {d : D} (s : Sim (G.frm F) S ρ H) (r : RVsl (G.frm F) S ρ H xs us) (hx : us[i]? = some x) (ht : H t = none) (e : (enumD 0 xs)[i]? = some d) :
    Sim (G.frm F) S ρ (upd H t (.tup [.int (i : Nat), x])) ∧ Stp (G.frm F) S S ρ ρ H (upd H t (.tup [.int (i : Nat), x])) ∧ RVl (G.frm F) S ρ (upd H t (.tup [.int (i : Nat), x])) d (.ref t) := by
  obtain ⟨y, h1, h2⟩ := r.get' hx
  rw [enumD_at h1] at e
  cases e
  have st : Stp (G.frm F) S S ρ ρ H (upd H t (.tup [.int (i : Nat), x])) := Stp.laid s ht
  refine ⟨s.laid ht, st, .tup (.inl ⟨s.fresh ht, .inl upd_same⟩) (.cons ?_ (.cons (st.rv h2) .nil))⟩
  rw [Nat.zero_add]
  exact .int _
theorem src_enL {a : Addr} {xs : List D} {st : Store → Prop} (h : ∀ F S ρ H, Lat (G.frm F) Lv0 ρ0 H0 S ρ H → st S → ∃ us, SqL G.K H a us ∧ RVsl (G.frm F) S ρ H xs us) : SrcOk G (Ite G.K a) (enumD 0 xs) st Lv0 ρ0 H0 := by
  refine ⟨fun F S ρ H i l hs hi => ?_, fun F S ρ H i l hs hi => ?_, fun F S ρ H i x H' d l hs y e => ?_⟩
  · obtain ⟨us, h1, h2⟩ := h F S ρ H l hs
    rw [enumD_len] at hi
    obtain ⟨u, e, _⟩ := h2.get (List.getElem?_eq_getElem hi)
    exact ⟨us, u, h1, e⟩
  · obtain ⟨us, h1, h2⟩ := h F S ρ H l hs
    rw [enumD_len] at hi
    exact ⟨us, h1, by rw [← h2.length]; exact hi⟩
  · obtain ⟨us, h1, h2⟩ := h F S ρ H l hs
    obtain ⟨t, z, rfl, ht, rfl, y⟩ := y
    exact en_yld l.sim h2 (y us h1) ht e
theorem src_enT {a : Addr} {xs : List D} {st : Store → Prop} (h : ∀ F S ρ H, Lat (G.frm F) Lv0 ρ0 H0 S ρ H → st S → ∃ us, SqT G.K H a us ∧ RVsl (G.frm F) S ρ H xs us) : SrcOk G (IteT G.K a) (enumD 0 xs) st Lv0 ρ0 H0 := by
  refine ⟨fun F S ρ H i l hs hi => ?_, fun F S ρ H i l hs hi => ?_, fun F S ρ H i x H' d l hs y e => ?_⟩
  · obtain ⟨us, h1, h2⟩ := h F S ρ H l hs
    rw [enumD_len] at hi
    obtain ⟨u, e, _⟩ := h2.get (List.getElem?_eq_getElem hi)
    exact ⟨us, u, h1, e⟩
  · obtain ⟨us, h1, h2⟩ := h F S ρ H l hs
    rw [enumD_len] at hi
    exact ⟨us, h1, by rw [← h2.length]; exact hi⟩
  · obtain ⟨us, h1, h2⟩ := h F S ρ H l hs
    obtain ⟨t, z, rfl, ht, rfl, y⟩ := y
    exact en_yld l.sim h2 (y us h1) ht e
theorem ok_srcEn {as : List IE} {e : Expr} {elts : List Expr} {kk : Nat} {tpos p pos : Pos} (xo : XOk G N sc k X) (go : GOk G T) (hp : plainX e = true) (hf : T.fre "enumerate" = true) (hl : sc.names.lookup ("enumerate" : Str) = some .globalImplicit) (ha : PA X [e] (rdL G T O W as)) :
    PI X (.Tuple elts kk tpos) (.Call (.Name "enumerate" p) [e] [] pos) (rdS G T O W .enum as) := by
  refine ⟨fun pins s σ H R I ⟨F, τ, S, ρ, P, E, a0, w, fx, h⟩ => ?_⟩
  refine Call_ (ld_blt I (xgl xo hl) (hasNo xo go hf) boot_enumerate (PyProof.Rows.callWith_type1 (thn (ha.run pos pins s σ H _ I (rdLe (K := fun us H1 => ∃ xs S1 ρ1, At (G.frm F) τ S1 ρ1 σ H1 ∧ Stp (G.frm F) S S1 ρ ρ1 H H1 ∧ RVsl (G.frm F) S1 ρ1 H1 xs us ∧ srcEn xs S1 (P S1)) a0 w fx
    fun xs S1 ρ1 H1 us n q a1 t r => ⟨xs, S1, ρ1, a1, t, r, q⟩)) fun us s1 ⟨vs, H1, I1, r1, xs, S1, ρ1, a1, t, r, q⟩ => ?_) (star_eq hp _ _) rfl))
  have fresh : ∀ {h' : Heap} {J : It} {tn : Nat → Heap → Prop} (o : Obj), IsEnum h' (s1.heap.objs.size + 1) s1.heap.objs.size 0 .none → (∀ b o, s1.heap.get? b = some o → h'.get? b = some o) → Turn X.prog X.w X.K (.Tuple elts kk tpos) J [s1.heap.objs.size + 1, s1.heap.objs.size] (s1.heap.objs.size + 1) tn → tn 0 h' → R J H1 →
      wpAny (model X.prog X.w) X.A (pyIter (.ref (s1.heap.objs.size + 1))) (PIE X pins σ (.Tuple elts kk tpos) R) X.xe { s1 with heap := h' } := fun {h' J tn} o he hk tu h0 q => by
    refine wpAny_pyIter_enum he ⟨s1.heap.objs.size + 1, [s1.heap.objs.size + 1, s1.heap.objs.size], _, _, H1, rfl, I1.kept (t' := s1.toks) hk, tu, h0, fun b hb => ?_, q⟩
    have hle : s1.heap.objs.size ≤ b := by
      have q : b = s1.heap.objs.size + 1 ∨ b = s1.heap.objs.size := by simpa using hb
      rcases q with z | z
      · rw [z]; exact Nat.le_succ _
      · rw [z]; exact Nat.le_refl _
    exact I1.fpOk hle (I1.hok.fresh hle)
  have goL : ∀ {a : Addr} {ds : List D} {ws : List V} {st : Store → Prop}, vs = [.ref a] → SqL X.K H1 a ws → P S1 (enumD 0 ds) st → SrcOk G (Ite G.K a) (enumD 0 ds) st (Live (G.frm F) S1 ρ1) ρ1 H1 →
      wpAny (model X.prog X.w) X.A (call (.type "enumerate") us) (fun v s1 => wpAny (model X.prog X.w) X.A (pyIter v) (PIE X pins σ (.Tuple elts kk tpos) R) X.xe s1) X.xe s1 := fun {a ds ws st} ev hs p so => by
    subst ev
    obtain ⟨u, rfl, ru⟩ := vals1 r1
    obtain rfl : u = Value.ref a := ru
    obtain ⟨its, rv, p2, hz⟩ := I1.list hs
    rw [← xo.K] at so
    exact enum_at (begins_list a its.toArray) p2.isList fun h' he hg hk => fresh { cls := .type "list_iterator", data := .fields #[.ref a, .int 0 0] } he hk (turn_enum a _ _) ⟨⟨.none, he⟩, ⟨_, hg, rfl, rfl⟩, Nat.succ_ne_self _⟩ (h _ _ _ _ _ _ p a1 t so)
  simp only [srcEn] at q
  split at q
  · obtain ⟨u, rfl, ru⟩ := rvs_one r
    cases ru with
    | @tup ds ws a hz rr =>
      obtain ⟨u, rfl, ru⟩ := vals1 r1
      obtain rfl : u = Value.ref a := ru
      have hs : SqT X.K H1 a ws := by rw [xo.K]; exact hz.seq
      obtain ⟨its, rv, p2, hz2⟩ := I1.tuple hs
      have hlt : a < s1.heap.objs.size := by
        obtain ⟨o, ho, _⟩ := (show s1.heap.IsTuple a its.toArray from p2)
        exact Heap.lt_size ho
      refine enum_at (begins_tuple a its.toArray) p2 fun h' he hg hk => fresh { cls := .type "tuple_iterator", data := .fields #[.ref a, .int 0 0] } he hk (turn_enT a _ _) ⟨⟨.none, he⟩, ⟨_, hg, rfl, rfl⟩, Nat.succ_ne_self _, Nat.ne_of_gt (Nat.lt_succ_of_lt hlt), Nat.ne_of_lt hlt⟩ (h _ _ _ _ _ _ q a1 t ?_)
      rw [xo.K]
      exact src_enT fun F' S ρ H l _ => ⟨ws, (FzT.keep l.keep hz).seq, l.rvs rr.frm⟩
  · obtain ⟨u, rfl, ru⟩ := rvs_one r
    cases ru with
    | @lst ds ws a hz rr => exact goL rfl (SqL.of hz.2) q (src_enL fun F' S ρ H l _ => ⟨ws, SqL.of ((l.keep.keep _ _ hz.2 hz.1).1.eq fun _ z => nomatch z), l.rvs rr.frm⟩)
  · obtain ⟨u, rfl, ru⟩ := rvs_one r
    split at q
    · rename_i n _ xs e0
      obtain ⟨a, ws, eu, h1, h2, h3⟩ := a1.sim.lst_at e0 ru
      subst eu
      refine goL rfl (SqL.of h1) q (src_enL fun F' S ρ H l hs => ?_)
      obtain ⟨b, us', eb, g1, g2, g3⟩ := l.sim.lst_at hs (.ref (l.pre _ _ h3))
      cases eb
      exact ⟨us', SqL.of g1, g2⟩
    · exact q.elim
  · exact q.elim
/-- the value, a dict that is locked from here on -/
def tLk (td : TE) : TE := fun σ H Q => td σ H fun x H1 => ∃ d kus, x = .ref d ∧ ((∃ o, H1 d = some (.frz o (.dK kus)) ∧ Q x H1) ∨ (H1 d = some (.dK kus) ∧ ∀ od, Q x (upd H1 d (.frz od (.dK kus)))))
theorem pe_lk {e : Expr} {td : TE} (h : PE X e td) : PE X e (tLk td) := by
  refine ⟨fun pins s σ H Q I hw => thn (h.run pins s σ H _ I hw) fun v s1 ⟨x, H1, I1, r, d, kus, ex, q⟩ => ?_⟩
  rcases q with ⟨o, _, q⟩ | ⟨hd, q⟩
  · exact ⟨x, H1, I1, r, q⟩
  · obtain ⟨od, I2⟩ := I1.lock hd True.intro
    exact ⟨x, _, I2, r, q od⟩
/-- a dict's walk by its locked state -/
theorem rdLk {a : IE} {R : D → Store → Prop} {R2 : V → Hp → Prop} (a0 : At (G.frm F) τ S ρ σ H) (w : wpE T O a τ S R E) (fx : FinX (G.frm F) S ρ H E (WE W σ)) (hR : ∀ x S1, R x S1 → ∃ ks vs, x = .dct ks vs)
    (h : ∀ ks vs S1 ρ1 H2 d o kus, R (.dct ks vs) S1 → At (G.frm F) τ S1 ρ1 σ H2 → Stp (G.frm F) S S1 ρ ρ1 H H2 → ¬ Live (G.frm F) S1 ρ1 d → H2 d = some (.frz o (.dK kus)) → RKs G (Live (G.frm F) S1 ρ1) ρ1 H2 ks vs kus → R2 (.ref d) H2) : tLk (rdE G T O W a) σ H R2 := by
  refine rd1 a0 w fx fun x S1 ρ1 H1 u p a1 t r => ?_
  obtain ⟨ks, vs, rfl⟩ := hR x S1 p
  cases r with
  | @dct _ _ kus d hd rk =>
    refine ⟨d, kus, rfl, ?_⟩
    rcases hd.2 with hK | ⟨o, hF⟩
    · refine .inr ⟨hK, fun od => ?_⟩
      have st : Stp (G.frm F) S1 S1 ρ1 ρ1 H1 (upd H1 d (.frz od (.dK kus))) := Stp.lock hd.1 hK
      exact h ks vs S1 ρ1 _ d od kus p (a1.step (a1.sim.lock hd.1 hK) st) (t.trans st) hd.1 upd_same (rk.keep st.keep st.pre).frm
    · exact .inl ⟨o, hF, h ks vs S1 ρ1 H1 d o kus p a1 t hd.1 hF rk.frm⟩
theorem ok_srcIt {a : IE} {e : Expr} {elts : List Expr} {kk : Nat} {tpos apos cpos : Pos} (hs : noSup e = true) (hln : (apos.endLine == cpos.line) = true) (ha : PE X e (rdE G T O W a)) : PI X (.Tuple elts kk tpos) (.Call (.Attribute e "items" apos) [] [] cpos) (rdS G T O W .items [a]) := by
  have b := pi_items (elts := elts) (kk := kk) (tpos := tpos) (apos := apos) (cpos := cpos) (pe_lk ha) (attr_base hs _ _ _) hln
  refine ⟨fun pins s σ H R I ⟨F, τ, S, ρ, P, E, a0, w, fx, h⟩ => b.run pins s σ H R I ?_⟩
  rw [wpL] at w
  refine rdLk a0 w fx (fun x S1 q => ?_) fun ks vs S1 ρ1 H2 d o kus q a1 t nl hd rk => ⟨d, o, kus, rfl, hd, h _ _ _ _ _ _ (by rw [wpL] at q; exact q) a1 t (src_items hd nl rk)⟩
  rw [wpL] at q
  simp only [srcW] at q
  unfold srcIt at q
  split at q
  · rename_i heq
    cases heq
    exact ⟨_, _, rfl⟩
  · exact q.elim
theorem ok_srcVs {a : IE} {e tg : Expr} {apos cpos : Pos} (hs : noSup e = true) (hln : (apos.endLine == cpos.line) = true) (ha : PE X e (rdE G T O W a)) : PI X tg (.Call (.Attribute e "values" apos) [] [] cpos) (rdS G T O W .values [a]) := by
  have b := pi_values (tg := tg) (apos := apos) (cpos := cpos) (pe_lk ha) (attr_base hs _ _ _) hln
  refine ⟨fun pins s σ H R I ⟨F, τ, S, ρ, P, E, a0, w, fx, h⟩ => b.run pins s σ H R I ?_⟩
  rw [wpL] at w
  refine rdLk a0 w fx (fun x S1 q => ?_) fun ks vs S1 ρ1 H2 d o kus q a1 t nl hd rk => ⟨d, o, kus, rfl, hd, h _ _ _ _ _ _ (by rw [wpL] at q; exact q) a1 t (src_vals hd nl rk)⟩
  rw [wpL] at q
  simp only [srcW] at q
  unfold srcVs at q
  split at q
  · rename_i heq
    cases heq
    exact ⟨_, _, rfl⟩
  · exact q.elim
end
end DL

set_option maxHeartbeats 1000000
namespace DL
open PySem PySem.Spec PyProof.Rows L2
theorem zipD_len2 : ∀ xs ys : List D, (zipD xs ys).length = min xs.length ys.length
  | [], _ => by simp [zipD]
  | _ :: _, [] => by simp [zipD]
  | x :: r, y :: s => by
    have := zipD_len2 r s
    simp only [zipD, List.length_cons, this]
    omega
theorem zipD_at2 : ∀ {i : Nat} {xs ys : List D} {x y : D}, xs[i]? = some x → ys[i]? = some y → (zipD xs ys)[i]? = some (.tup [x, y])
  | _, [], _, _, _, h, _ => by simp at h
  | _, _ :: _, [], _, _, _, h => by simp at h
  | 0, a :: r, b :: s, _, _, h, h2 => by
    simp at h h2
    subst h h2
    rfl
  | i + 1, a :: r, b :: s, _, _, h, h2 => by
    simp only [zipD, List.getElem?_cons_succ]
    exact zipD_at2 (by simpa using h) (by simpa using h2)
section
variable {G : Gd} {T : Tab} {N : List Str} {sc : Scope} {k : Nat} {X : Cx} {W : WX} {O : Orc} {F : Addr → Prop} {τ : Sl} {S : Store} {ρ : List Addr} {σ : L2.St} {H : Hp} {E : QD} {Lv0 : Addr → Prop} {ρ0 : List Addr} {H0 : Hp}
theorem zp_yld {F : Addr → Prop} {S : Store} {ρ : List Addr} {H : Hp} {xs ys : List D} {us ws : List V} {i : Nat} {t : Addr} {x y : V} {d : D} (s : Sim (G.frm F) S ρ H) (r : RVsl (G.frm F) S ρ H xs us) (r2 : RVsl (G.frm F) S ρ H ys ws) (hx : us[i]? = some x) (hy : ws[i]? = some y) (ht : H t = none) (e : (zipD xs ys)[i]? = some d) :
    Sim (G.frm F) S ρ (upd H t (.tup [x, y])) ∧ Stp (G.frm F) S S ρ ρ H (upd H t (.tup [x, y])) ∧ RVl (G.frm F) S ρ (upd H t (.tup [x, y])) d (.ref t) := by
  obtain ⟨a, h1, h2⟩ := r.get' hx
  obtain ⟨b, g1, g2⟩ := r2.get' hy
  rw [zipD_at2 h1 g1] at e
  cases e
  have st : Stp (G.frm F) S S ρ ρ H (upd H t (.tup [x, y])) := Stp.laid s ht
  exact ⟨s.laid ht, st, .tup (.inl ⟨s.fresh ht, .inl upd_same⟩) (.cons (st.rv h2) (.cons (st.rv g2) .nil))⟩
theorem src_zpT {a b : Addr} {xs ys : List D} {st : Store → Prop} (h : ∀ F S ρ H, Lat (G.frm F) Lv0 ρ0 H0 S ρ H → st S → ∃ us ws, (SqT G.K H a us ∧ RVsl (G.frm F) S ρ H xs us) ∧ SqT G.K H b ws ∧ RVsl (G.frm F) S ρ H ys ws) : SrcOk G (RZ.ItzT G.K a b) (zipD xs ys) st Lv0 ρ0 H0 := by
  refine ⟨fun F S ρ H i l hs hi => ?_, fun F S ρ H i l hs hi => ?_, fun F S ρ H i x H' d l hs y e => ?_⟩
  · obtain ⟨us, ws, ⟨h1, h2⟩, h3, h4⟩ := h F S ρ H l hs
    rw [zipD_len2] at hi
    obtain ⟨u, e, _⟩ := h2.get (List.getElem?_eq_getElem (show i < xs.length by omega))
    obtain ⟨w, e2, _⟩ := h4.get (List.getElem?_eq_getElem (show i < ys.length by omega))
    exact ⟨us, ws, u, w, h1, h3, e, e2⟩
  · obtain ⟨us, ws, ⟨h1, h2⟩, h3, h4⟩ := h F S ρ H l hs
    rw [zipD_len2] at hi
    have l1 := h2.length
    have l2 := h4.length
    exact ⟨us, ws, h1, h3, by omega⟩
  · obtain ⟨us, ws, ⟨h1, h2⟩, h3, h4⟩ := h F S ρ H l hs
    obtain ⟨t, p, q, rfl, ht, rfl, f1, f2⟩ := y
    exact zp_yld l.sim h2 h4 (f1 us h1) (f2 ws h3) ht e
theorem src_zpL {a b : Addr} {xs ys : List D} {st : Store → Prop} (h : ∀ F S ρ H, Lat (G.frm F) Lv0 ρ0 H0 S ρ H → st S → ∃ us ws, (SqL G.K H a us ∧ RVsl (G.frm F) S ρ H xs us) ∧ SqL G.K H b ws ∧ RVsl (G.frm F) S ρ H ys ws) : SrcOk G (Itz G.K a b) (zipD xs ys) st Lv0 ρ0 H0 := by
  refine ⟨fun F S ρ H i l hs hi => ?_, fun F S ρ H i l hs hi => ?_, fun F S ρ H i x H' d l hs y e => ?_⟩
  · obtain ⟨us, ws, ⟨h1, h2⟩, h3, h4⟩ := h F S ρ H l hs
    rw [zipD_len2] at hi
    obtain ⟨u, e, _⟩ := h2.get (List.getElem?_eq_getElem (show i < xs.length by omega))
    obtain ⟨w, e2, _⟩ := h4.get (List.getElem?_eq_getElem (show i < ys.length by omega))
    exact ⟨us, ws, u, w, h1, h3, e, e2⟩
  · obtain ⟨us, ws, ⟨h1, h2⟩, h3, h4⟩ := h F S ρ H l hs
    rw [zipD_len2] at hi
    have l1 := h2.length
    have l2 := h4.length
    exact ⟨us, ws, h1, h3, by omega⟩
  · obtain ⟨us, ws, ⟨h1, h2⟩, h3, h4⟩ := h F S ρ H l hs
    obtain ⟨t, p, q, rfl, ht, rfl, f1, f2⟩ := y
    exact zp_yld l.sim h2 h4 (f1 us h1) (f2 ws h3) ht e
theorem ok_srcZp {as : List IE} {e e2 : Expr} {elts : List Expr} {kk : Nat} {tpos p pos : Pos} (xo : XOk G N sc k X) (go : GOk G T) (hp : plainX e = true) (hp2 : plainX e2 = true) (hf : T.fre "zip" = true) (hl : sc.names.lookup ("zip" : Str) = some .globalImplicit) (ha : PA X [e, e2] (rdL G T O W as)) :
    PI X (.Tuple elts kk tpos) (.Call (.Name "zip" p) [e, e2] [] pos) (rdS G T O W .zip as) := by
  have b := RZ.pi_zipA (elts := elts) (kk := kk) (tpos := tpos) (p := p) (pos := pos) (xgl xo hl) (hasNo xo go hf) ha (star_eq hp _ _) (star_all pos X.env (es := [e2]) (by simp [hp2])).1
  refine ⟨fun pins s σ H R I ⟨F, τ, S, ρ, P, E, a0, w, fx, h⟩ => b.run pins s σ H R I ?_⟩
  refine rdLe a0 w fx fun xs S1 ρ1 H1 us n q a1 t r => ?_
  simp only [srcW, srcZp] at q
  split at q
  · obtain ⟨u, v, rfl, ru, rv⟩ := rvs_two r
    cases ru with
    | @tup ds ws a hz rr =>
      cases rv with
      | @tup ds2 ws2 c hz2 rr2 =>
        refine ⟨a, c, ws, ws2, rfl, .inr ⟨by rw [xo.K]; exact hz.seq, by rw [xo.K]; exact hz2.seq, h _ _ _ _ _ _ q a1 t ?_⟩⟩
        rw [xo.K]
        exact src_zpT fun F' S ρ H l _ => ⟨ws, ws2, ⟨(FzT.keep l.keep hz).seq, l.rvs rr.frm⟩, (FzT.keep l.keep hz2).seq, l.rvs rr2.frm⟩
  · obtain ⟨u, v, rfl, ru, rv⟩ := rvs_two r
    cases ru with
    | @lst ds ws a hz rr =>
      cases rv with
      | @lst ds2 ws2 c hz2 rr2 =>
        refine ⟨a, c, ws, ws2, rfl, .inl ⟨SqL.of hz.2, SqL.of hz2.2, h _ _ _ _ _ _ q a1 t ?_⟩⟩
        rw [xo.K]
        exact src_zpL fun F' S ρ H l _ => ⟨ws, ws2, ⟨SqL.of ((l.keep.keep _ _ hz.2 hz.1).1.eq fun _ z => nomatch z), l.rvs rr.frm⟩, SqL.of ((l.keep.keep _ _ hz2.2 hz2.1).1.eq fun _ z => nomatch z), l.rvs rr2.frm⟩
  · exact q.elim
end
end DL

set_option maxHeartbeats 1000000
namespace DL
open PySem PySem.Spec PyProof.Rows L2
section
variable {G : Gd} {T : Tab} {N : List Str} {sc : Scope} {k : Nat} {X : Cx} {W : WX} {O : Orc} {F : Addr → Prop} {τ : Sl} {S : Store} {ρ : List Addr} {σ : L2.St} {H : Hp} {E : QD}
/-- list(d.values()) -/
theorem ok_lvals {fz : Bool} {a : IE} {e : Expr} {p apos cpos pos : Pos} (xo : XOk G N sc k X) (go : GOk G T) (hf : T.fre "list" = true) (hl : sc.names.lookup ("list" : Str) = some .globalImplicit) (hs : noSup e = true) (hln : (apos.endLine == cpos.line) = true) (ha : PE X e (rdE G T O W a)) :
    PE X (.Call (.Name "list" p) [.Call (.Attribute e "values" apos) [] [] cpos] [] pos) (rdE G T O W (.lvals fz a)) := by
  have hst : starEach [.Call (.Attribute e "values" apos) [] [] cpos] X.env = (false, eval (.Call (.Attribute e "values" apos) [] [] cpos) X.env) :: starEach [] X.env := rfl
  refine ⟨fun pins s σ H Q I ⟨F, τ, S, ρ, P, E, a0, w, f, fx⟩ => ?_⟩
  rw [wpE] at w
  refine wpAny_Call_Name_kw (ld_blt I (xgl xo hl) (hasNo xo go hf) (by decide +kernel : bootBuiltins "list" = some (.type "list")) ?_)
  refine PyProof.Rows.callWith_type1 ?_ hst rfl
  rw [hst]
  show wpAny _ _ (spliced ((false, eval _ X.env) :: backTo pos (starEach [] X.env))) _ _ s
  refine Calls.spliced_cons ?_
  refine wpAny_Call_method (T := "dict") (id := "dict.values") (attr_base hs _ _ _) rfl hln PySem.F.plainAttrs_dict PySem.F.slot_dict_values PySem.F.type_dict_values (thn (ha.run pins s σ H _ I (rd1 (K := fun u H1 => ∃ x S1 ρ1, At (G.frm F) τ S1 ρ1 σ H1 ∧ Stp (G.frm F) S S1 ρ ρ1 H H1 ∧ RVl (G.frm F) S1 ρ1 H1 x u ∧ (match dctOf S1 x with
    | some (_, vs) => mkL fz vs S1 P
    | none => False)) a0 w fx fun x S1 ρ1 H1 u q a1 t r => ⟨x, S1, ρ1, a1, t, r, q⟩)) fun u s1 ⟨v, H1, I1, rx, x, S1, ρ1, a1, t, r, q⟩ => ?_)
  split at q
  · rename_i ks vs ed
    obtain ⟨d, kus, rfl, hd, rk⟩ := dctOf_at a1.sim ed r
    obtain rfl : u = Value.ref d := rx
    obtain ⟨hz, lo, ws, kv, dd⟩ := dk_rd I1.hok hd
    obtain ⟨ep, hat⟩ := dd.dictAt
    have lk : kus.length = ws.length := Paired.length kv
    refine ⟨dd.typeIs, dd.mapOf.noDict, ?_⟩
    show wpAny _ _ (callWith cpos (.builtin "dict.values") [.ref d] [] []) _ X.xe s1
    refine method_meetsIn PySem.F.slot_dict_values PySem.F.entry_dict_values rfl (PySem.evalArgs_none ⟨rfl, dd.typeIs, PySem.F.args_dict_values_1 _, _, meets_dict_values (mixKind X.prog X.w) d lo, ⟨ws, dd⟩, ?_⟩)
    refine Calls.spliced_nil ?_
    have I2 : Inv X pins σ H1 { s1 with heap := s1.heap.push { cls := .type "dict_values", data := .fields #[.ref d] } } := I1.kept (t' := s1.toks) fun b ob q => Heap.get?_push_of_some _ q
    refine PySem.W.kdl_call (PySem.W.kdl_values (knd := mixKind X.prog X.w) (kvs := ws) (ep := ep)) (I1.ok.hd xo.calm) ⟨⟨_, Heap.get?_push_size _ rfl, rfl, rfl⟩, hat.push _⟩ (by omega) fun h' tk ac c' hk hS hac => ?_
    have hn : H1 (s1.heap.push { cls := .type "dict_values", data := .fields #[.ref d] }).objs.size = none := I2.hok.fresh (Nat.le_refl _)
    refine ⟨.ref _, _, I2.laid hk (Nat.le_refl _) (show ObjOk X.prog X.w _ _ _ (.lst (kus.map fun kv => kv.2)) from ⟨by rw [List.length_map]; exact hz, ac.toList, c', ?_, by rw [Array.toArray_toList]; exact hS⟩), rfl, (f.step t).new a1.sim hn (rks_vals rk) q⟩
    have el : ac.toList.length = ac.size := by simp
    refine vals_of_at (by rw [List.length_map, el, hac.1, lk]) fun j v y h1 h2 => ?_
    obtain ⟨key, hkv⟩ := hac.2 j y (by rw [← Array.getElem?_toList]; exact h2)
    rw [List.getElem?_map] at h1
    obtain ⟨⟨k2, v2⟩, h3, rfl⟩ := Option.map_eq_some_iff.mp h1
    obtain ⟨u, h4, h5⟩ := kv_get kv h3
    rw [hkv] at h4
    cases h4
    exact h5
  · exact q.elim
end
end DL

set_option maxHeartbeats 1000000
/-! DL 7o: dicts written out -/
namespace DL
open PySem PySem.Spec PyProof.Rows L2
section
variable {G : Gd} {T : Tab} {N : List Str} {sc : Scope} {k : Nat} {X : Cx} {W : WX} {O : Orc} {F : Addr → Prop} {τ : Sl} {S : Store} {ρ : List Addr} {σ : L2.St} {H : Hp} {E : QD}
/-- values, one by one -/
inductive Pes (X : Cx) (G : Gd) (T : Tab) (O : Orc) (W : WX) : List Expr → List IE → Prop
  | nil : Pes X G T O W [] []
  | cons {e : Expr} {a : IE} {es : List Expr} {as : List IE} (h : PE X e (rdE G T O W a)) (t : Pes X G T O W es as) : Pes X G T O W (e :: es) (a :: as)
/-- written keys -/
def keyC : IE → Option Expr → Bool
  | .con d, some (.Constant c _ _) => keyD d && conC d c
  | _, _ => false
def keysC : List IE → List (Option Expr) → Bool
  | [], [] => true
  | k :: ks, e :: es => keyC k e && keysC ks es
  | _, _ => false
def trsOf (G : Gd) (T : Tab) (O : Orc) (W : WX) : List IE → List IE → List (TE × TE)
  | k :: ks, v :: vs => (rdE G T O W k, rdE G T O W v) :: trsOf G T O W ks vs
  | _, _ => []
theorem pps_ok {pos : Pos} : ∀ {ks vs : List IE} {keys : List (Option Expr)} {values : List Expr}, keysC ks keys = true → Pes X G T O W values vs → keys.length = values.length → PPs X pos keys values (trsOf G T O W ks vs)
  | [], _, [], _, _, .nil, _ => pps_nil
  | [], _, _ :: _, _, h, _, _ => by cases h
  | _ :: _, _, [], _, h, _, _ => by cases h
  | k :: ks, _, e :: es, _, h, .nil, hl => by cases hl
  | k :: ks, _, e :: es, _, h, .cons hv t, hl => by
    unfold keysC at h
    rw [Bool.and_eq_true] at h
    obtain ⟨h1, h2⟩ := h
    unfold keyC at h1
    split at h1
    · rw [Bool.and_eq_true] at h1
      exact pps_cons (ok_con h1.2) hv (pps_ok h2 t (by simpa using hl))
    · cases h1
theorem keyC_con {k : IE} {e : Option Expr} (h : keyC k e = true) : ∃ d, k = .con d ∧ keyD d = true := by
  unfold keyC at h
  split at h
  · rw [Bool.and_eq_true] at h
    exact ⟨_, rfl, h.1⟩
  · cases h
/-- the pairs in turn -/
theorem pairs_ok {p : Addr} (R : List D → Store → Prop) : ∀ {ks vs : List IE} {keys : List (Option Expr)} {S : Store} {ρ : List Addr} {H : Hp} {Q : List (V × V) → Hp → Prop}, keysC ks keys = true → ks.length = vs.length → At (G.frm (addF F p)) τ S ρ σ H → H p = some (.dK []) →
    wpL T O vs τ S R (fun _ _ => False) →
    (∀ xs S2 ρ2 H2 (kvs : List (Key × V)), xs.length = vs.length → R xs S2 → At (G.frm (addF F p)) τ S2 ρ2 σ H2 → Stp (G.frm (addF F p)) S S2 ρ ρ2 H H2 → kvs.length = xs.length → RKs (G.frm (addF F p)) (Live (G.frm (addF F p)) S2 ρ2) ρ2 H2 (consOf ks) xs kvs → Q (kvs.map fun kv => (kV kv.1, kv.2)) H2) →
    tPairs (trsOf G T O W ks vs) σ H Q
  | [], [], _, S, ρ, H, Q, _, _, a, hp, w, h => by
    rw [wpL] at w
    exact h [] S ρ H [] rfl w a Stp.refl rfl .nil
  | [], _ :: _, _, _, _, _, _, _, hl, _, _, _, _ => by cases hl
  | _ :: _, [], _, _, _, _, _, _, hl, _, _, _, _ => by cases hl
  | k :: ks, v :: vs, keys, S, ρ, H, Q, hk, hl, a, hp, w, h => by
    cases keys with
    | nil => cases hk
    | cons e es =>
      unfold keysC at hk
      rw [Bool.and_eq_true] at hk
      obtain ⟨d, rfl, hd⟩ := keyC_con hk.1
      obtain ⟨key, ek⟩ := keyOf_keyD hd
      rw [wpL] at w
      show rdE G T O W (.con d) σ H _
      refine rd1 (R := fun x S2 => x = d ∧ S2 = S) (E := fun _ _ => False) a (by rw [wpE]; exact ⟨rfl, rfl⟩) FinX.no fun x S1 ρ1 H1 u q a1 t1 r1 => ?_
      obtain ⟨rfl, rfl⟩ := q
      have eu := r1.key ek
      subst eu
      have hp1 : H1 p = some (.dK []) := (t1.fr p (.inr rfl)).trans hp
      have w1 : wpE T O v τ S1 (fun x S1 => wpL T O vs τ S1 (fun xs S2 => R (x :: xs) S2) (fun _ _ => False)) (fun _ _ => False) := w
      refine rd1 a1 w1 FinX.no fun y S2 ρ2 H2 z q a2 t2 r2 => ?_
      have hp2 : H2 p = some (.dK []) := (t2.fr p (.inr rfl)).trans hp1
      refine pairs_ok (fun xs S2 => R (y :: xs) S2) hk.2 (by simpa using hl) a2 hp2 q fun xs S3 ρ3 H3 kvs h1 h2 h3 h4 h5 h6 => ?_
      have := h (y :: xs) S3 ρ3 H3 ((key, z) :: kvs) (by simp [h1]) h2 h3 ((t1.trans t2).trans h4) (by simp [h5]) (.cons ek (h4.rv r2) h6)
      exact this
theorem mkPs_zip : ∀ {ks xs ks0 vs0 ks' vs' : List D} {Lv : Addr → Prop} {kus kvs : List (Key × V)}, RKs G Lv ρ H ks0 vs0 kus → RKs G Lv ρ H ks xs kvs → mkPs ks0 vs0 (zipD ks xs) = some (ks', vs') → RKs G Lv ρ H ks' vs' (mergeK kus kvs)
  | [], [], _, _, _, _, _, _, _, r, .nil, e => by
    cases e
    exact r
  | k :: ks, x :: xs, ks0, vs0, ks', vs', _, kus, _, r, .cons (k' := key) (u := u) (kus := rest) ek h t, e => by
    have e' : (match keyD k with | true => mkPs (dputK ks0 k) (dputV ks0 vs0 k x) (zipD ks xs) | false => none) = some (ks', vs') := e
    split at e'
    · have z := mkPs_zip (RKs.put ek h r) t e'
      exact z
    · cases e'
theorem ok_dctN {k : IE} {ks vs : List IE} {keys : List (Option Expr)} {values : List Expr} {pos : Pos} (hk : keysC (k :: ks) keys = true) (hv : Pes X G T O W values vs) (hl : keys.length = values.length) (h0 : keys ≠ []) (h15 : keys.length ≤ 15) (hlv : (k :: ks).length = vs.length) (hs : keys.all (·.isSome) = true) :
    PE X (.Dict keys values pos) (rdE G T O W (.dct (k :: ks) vs)) := by
  refine PE.of (pe_disp (pps_ok hk hv hl) hs hl h0 h15) fun σ H Q ⟨F, τ, S, ρ, P, E, a0, w, f, fx⟩ => ?_
  rw [wpE] at w
  intro p hp
  have hF : ¬ F p := fun h => by
    obtain ⟨o, q, _⟩ := a0.sim.frt p h
    rw [hp] at q; cases q
  have fne : ∀ a, F a → a ≠ p := fun a h e => hF (e ▸ h)
  have k0 := keep_add (o := .dK []) a0.sim hp
  have a1 : At (G.frm (addF F p)) τ S ρ σ (upd H p (.dK [])) := ⟨a0.sim.add hp True.intro, a0.len, fun j d hj => by
    obtain ⟨z, z1, z2⟩ := a0.sl j d hj
    exact ⟨z, z1, (z2.keep k0 fun _ _ h => h).frm⟩⟩
  refine pairs_ok _ hk hlv a1 upd_same w fun xs S2 ρ2 H2 kvs h1 h2 h3 h4 h5 h6 => ?_
  obtain ⟨⟨c1, c2⟩, c3⟩ := h2
  have hp2 : H2 p = some (.dK []) := (h4.fr p (.inr rfl)).trans upd_same
  refine ⟨hp2, kvs, rfl, by omega, ?_⟩
  split at c3
  · rename_i ks' vs' em
    have rm := mkPs_zip (kus := []) .nil h6 em
    obtain ⟨s3, kp3⟩ := h3.sim.putF (D := p) (o := .dK (mergeK [] kvs)) (.inr rfl) True.intro
    have rm3 := rm.keep kp3 (fun _ _ h => h)
    have s4 : Sim (G.frm F) (S2 ++ [.dct ks' vs']) (ρ2 ++ [p]) (upd H2 p (.dK (mergeK [] kvs))) := s3.asCell hF ⟨_, upd_same, rm3⟩ (by simp)
    have kp : Keep (Live (G.frm F) S ρ) (Live (G.frm F) (S2 ++ [.dct ks' vs']) (ρ2 ++ [p])) H (upd H2 p (.dK (mergeK [] kvs))) := by
      have z := (k0.trans h4.keep).trans kp3
      exact ⟨fun a o h n => let ⟨h1, n1⟩ := z.keep a o h n; ⟨h1, fun q => n1 (live_cell h3.sim.len q)⟩⟩
    refine f (.ref S2.length) (S2 ++ [.dct ks' vs']) (ρ2 ++ [p]) _ _ c3 s4 ⟨fun n a h => get_pre (h4.pre n a h), kp, fun a h => ?_⟩ (.ref ?_)
    · rw [upd_ne (fne a h), h4.fr a (.inl h), upd_ne (fne a h)]
    · rw [← h3.sim.len, List.getElem?_append_right (Nat.le_refl _)]
      simp
  · exact c3.elim
end
end DL

set_option maxHeartbeats 1000000
/-! DL 7g: the code is the program's: a check, and what it gives -/
namespace DL
open PySem PySem.Spec PyProof.Rows L2
def visC (sc : Scope) (x : Str) : Bool := match sc.names.lookup x with
  | some .local => true
  | some .cell => true
  | some .free => true
  | _ => false
def glC (sc : Scope) (x : Str) : Bool := (match sc.names.lookup x with
  | some .globalImplicit => true
  | _ => false) && !(x == ("__debug__" : Str))
def locC (sc : Scope) (x : Str) : Bool := match sc.names.lookup x with
  | some .local => true
  | _ => false
def ixC (N : List Str) (i : Nat) (x : Str) : Bool := decide (N[i]? = some x)
def varC (N : List Str) (sc : Scope) (i : Nat) (x : Str) : Bool := ixC N i x && visC sc x && !(x == ("__debug__" : Str)) && !(x == ("__classdict__" : Str))
def isS (o : Option Str) (x : Str) : Bool := match o with
  | some y => decide (y = x)
  | none => false
def isBas (o : Option (Str × Str)) (x m : Str) : Bool := match o with
  | some p => decide (p.1 = x) && decide (p.2 = m)
  | none => false
def tgsC (N : List Str) (sc : Scope) : List Nat → List Expr → Bool
  | [], [] => true
  | i :: is, e :: es => (match e with
    | .Name x _ => ixC N i x && locC sc x
    | _ => false) && tgsC N sc is es
  | _, _ => false
def tgC (N : List Str) (sc : Scope) : Tg → Expr → Bool
  | .nm i, e => match e with
    | .Name x _ => ixC N i x && locC sc x
    | _ => false
  | .tp is, e => match e with
    | .Tuple es _ _ => tgsC N sc is es && namesA es && Nat.beq es.length is.length
    | _ => false
def csC (T : Tab) (sc : Scope) (c : Cs) : Expr → Bool
  | .Name x _ => isS (csN T c) x && glC sc x && (!csB c || T.fre x)
  | _ => false
def cssC (T : Tab) (sc : Scope) : List Cs → List Expr → Bool
  | [], [] => true
  | c :: cs, e :: es => csC T sc c e && cssC T sc cs es
  | _, _ => false
def tupX : Expr → Bool
  | .Tuple _ _ _ => true
  | _ => false
section
variable (T : Tab) (N : List Str)
mutual
def chkE (sc : Scope) : IE → Expr → Bool
  | .var i, e => match e with
    | .Name x _ => varC N sc i x
    | _ => false
  | .con d, e => match e with
    | .Constant c _ _ => conC d c
    | _ => false
  | .glo g, e => match e with
    | .Name x _ => isS (T.gl g) x && glC sc x
    | _ => false
  | .bin op _ a b, e => match e with
    | .BinOp l o r _ => decide (o = op) && chkE sc a l && chkE sc b r
    | _ => false
  | .modp a b, e => match e with
    | .BinOp l o r _ => decide (o = .Mod) && chkE sc a l && chkE sc b r
    | _ => false
  | .divp a b, e => match e with
    | .BinOp l o r _ => decide (o = .FloorDiv) && chkE sc a l && chkE sc b r
    | _ => false
  | .neg a, e => match e with
    | .UnaryOp o x _ => decide (o = .USub) && chkE sc a x
    | _ => false
  | .not a, e => match e with
    | .UnaryOp o x _ => decide (o = .Not) && chkE sc a x
    | _ => false
  | .and_ a b, e => match e with
    | .BoolOp o (x :: y :: r) p => decide (o = .And) && chkE sc a x && chkE sc b (match r with
      | [] => y
      | _ => .BoolOp .And (y :: r) p)
    | _ => false
  | .or_ a b, e => match e with
    | .BoolOp o (x :: y :: r) p => decide (o = .Or) && chkE sc a x && chkE sc b (match r with
      | [] => y
      | _ => .BoolOp .Or (y :: r) p)
    | _ => false
  | .cmp op a b, e => match e with
    | .Compare l [o] [r] _ => decide (o = op) && noSet r && chkE sc a l && chkE sc b r
    | _ => false
  | .chn op op' a b c, e => match e with
    | .Compare l [o, o'] [m, r] _ => decide (o = op) && decide (o' = op') && noSet r && chkE sc a l && chkE sc b m && chkE sc c r
    | _ => false
  | .ifx c a b, e => match e with
    | .IfExp t l r _ => chkT sc c t && chkE sc a l && chkE sc b r
    | _ => false
  | .idx a b, e => match e with
    | .Subscript l r _ => noSlice r && chkE sc a l && chkE sc b r
    | _ => false
  | .kget g a, e => match e with
    | .Subscript (.Name x _) r _ => noSlice r && isS (T.kdn g) x && glC sc x && chkE sc a r
    | _ => false
  | .slc _ a lo hi, e => match e with
    | .Subscript l (.Slice x y none _) _ => chkE sc a l && chkP sc lo x && chkP sc hi y
    | _ => false
  | .rev _ a, e => match e with
    | .Subscript l (.Slice none none (some (.UnaryOp .USub (.Constant (.int 1) _ _) _)) _) _ => chkE sc a l
    | _ => false
  | .srt _ a, e => match e with
    | .Call (.Name x _) [.Call (.Name y _) [b] [] _] [] _ => decide (x = "sorted") && decide (y = "set") && (T.fre "sorted" && T.fre "set") && (glC sc "sorted" && glC sc "set") && plainX b && chkE sc a b
    | _ => false
  | .fld a f, e => match e with
    | .Attribute o x _ => decide (T.nm f = x) && noSup o && chkE sc a o
    | _ => false
  | .call f es, e => match e with
    | .Call (.Name x _) as [] _ => isS (T.fn f) x && glC sc x && as.all plainX && chkL sc es as
    | .Call (.Attribute (.Name x xp) m ap) as [] p => isBas (T.bas f) x m && noSup (.Name x xp) && (ap.endLine == p.line) && glC sc x && as.all plainX && Nat.blt es.length 25 && chkL sc es as
    | _ => false
  | .new c es, e => match e with
    | .Call (.Name x _) as [] _ => isS (T.cl c) x && glC sc x && as.all plainX && chkL sc es as
    | _ => false
  | .meth a m es, e => match e with
    | .Call (.Attribute o x ap) as [] p => decide (T.nm m = x) && noSup o && (ap.endLine == p.line) && as.all plainX && Nat.blt es.length 25 && chkE sc a o && chkL sc es as
    | _ => false
  | .bi b _ es, e => match e with
    | .Call (.Name x _) as [] _ => decide (x = biN b) && T.fre x && glC sc x && as.all plainX && !es.isEmpty && chkL sc es as
    | _ => false
  | .bm m _ a es, e => match e with
    | .Call (.Attribute o x ap) as [] p => bmOn m && decide (x = bmN m) && noSup o && (ap.endLine == p.line) && as.all plainX && Nat.blt es.length 25 && chkE sc a o && chkL sc es as
    | _ => false
  | .isi a one cs, e => match e with
    | .Call (.Name x _) [l, c] [] _ => decide (x = "isinstance") && T.fre "isinstance" && glC sc "isinstance" && plainX l && chkE sc a l && (match one, cs with
      | true, [k] => csC T sc k c
      | false, k :: ks => (match c with
        | .Tuple es _ _ => cssC T sc (k :: ks) es && Nat.blt ks.length 100
        | _ => false)
      | _, _ => false)
    | _ => false
  | .tup es, e => match e with
    | .Tuple as _ _ => Nat.blt es.length 1000 && as.all plainX && chkL sc es as
    | _ => false
  | .lst _ es, e => match e with
    | .List as _ => Nat.blt es.length 1000 && as.all plainX && chkL sc es as
    | _ => false
  | .dct ks vs, e => match e with
    | .Dict keys values _ => (ks.isEmpty && keys.isEmpty && values.isEmpty) || (!ks.isEmpty && keysC ks keys && keys.all (·.isSome) && Nat.ble keys.length 15 && Nat.beq keys.length values.length && Nat.beq ks.length vs.length && chkL sc vs values)
    | _ => false
  | .lvals _ a, e => match e with
    | .Call (.Name x _) [.Call (.Attribute o y ap) [] [] p] [] _ => decide (x = "list") && decide (y = "values") && T.fre "list" && glC sc "list" && noSup o && (ap.endLine == p.line) && chkE sc a o
    | _ => false
  | .lc _ own tg it src ifs elt, e => match e with
    | .ListComp el [⟨t, i, fs, 0⟩] scope _ => blkC N sc scope (own.map fun j => (N.getD j ⟨#[]⟩, j)) && (tgIs tg).all (fun j => own.contains j) && noSet i && tgC N (relS scope sc) tg t && (match it with
        | .e => (match src with
          | [a] => chkE sc a i
          | _ => false)
        | .rng1 => (match i with
          | .Call (.Name x _) [l] [] _ => decide (x = "range") && T.fre "range" && glC sc "range" && plainX l && chkL sc src [l]
          | _ => false)
        | .rng2 => (match i with
          | .Call (.Name x _) [l, r] [] _ => decide (x = "range") && T.fre "range" && glC sc "range" && plainX l && plainX r && chkL sc src [l, r]
          | _ => false)
        | .enum => (match i with
          | .Call (.Name x _) [l] [] _ => decide (x = "enumerate") && T.fre "enumerate" && glC sc "enumerate" && plainX l && tupX t && chkL sc src [l]
          | _ => false)
        | .zip => (match i with
          | .Call (.Name x _) [l, r] [] _ => decide (x = "zip") && T.fre "zip" && glC sc "zip" && plainX l && plainX r && tupX t && chkL sc src [l, r]
          | _ => false)
        | .items => (match i with
          | .Call (.Attribute o x ap) [] [] p => decide (x = "items") && noSup o && (ap.endLine == p.line) && tupX t && (match src with
            | [a] => chkE sc a o
            | _ => false)
          | _ => false)
        | .values => (match i with
          | .Call (.Attribute o x ap) [] [] p => decide (x = "values") && noSup o && (ap.endLine == p.line) && (match src with
            | [a] => chkE sc a o
            | _ => false)
          | _ => false)
        | _ => false) && chkI (relS scope sc) ifs fs && chkE (relS scope sc) elt el
    | _ => false
def chkT (sc : Scope) : IT → Expr → Bool
  | .val e, x => (tstOk x || isCmpA x) && chkE sc e x
  | .not t, e => match e with
    | .UnaryOp o x _ => decide (o = .Not) && chkT sc t x
    | _ => false
  | .and_ a b, e => match e with
    | .BoolOp o (x :: y :: r) p => decide (o = .And) && chkT sc a x && chkT sc b (match r with
      | [] => y
      | _ => .BoolOp .And (y :: r) p)
    | _ => false
  | .or_ a b, e => match e with
    | .BoolOp o (x :: y :: r) p => decide (o = .Or) && chkT sc a x && chkT sc b (match r with
      | [] => y
      | _ => .BoolOp .Or (y :: r) p)
    | _ => false
  | .chn op op' a b c, e => match e with
    | .Compare l [o, o'] [m, r] _ => decide (o = op) && decide (o' = op') && noSet r && chkE sc a l && chkE sc b m && chkE sc c r
    | _ => false
def chkL (sc : Scope) : List IE → List Expr → Bool
  | [], l => l.isEmpty
  | a :: as, l => match l with
    | e :: es => chkE sc a e && chkL sc as es
    | [] => false
def chkP (sc : Scope) : List IE → Option Expr → Bool
  | [], o => o.isNone
  | a :: r, o => match o with
    | some e => chkE sc a e && r.isEmpty
    | none => false
def chkI (sc : Scope) : List IT → List Expr → Bool
  | [], l => l.isEmpty
  | a :: r, l => match l with
    | [e] => chkT sc a e && r.isEmpty
    | _ => false
end
end
end DL

set_option maxHeartbeats 1000000
/-! DL 7h: the check is good -/
namespace DL
open PySem PySem.Spec PyProof.Rows L2
theorem tupX_ok {e : Expr} (h : tupX e = true) : ∃ el k p, e = .Tuple el k p := by
  cases e <;> first
    | exact ⟨_, _, _, rfl⟩
    | cases h
section
variable {G : Gd} {T : Tab} {N : List Str} {k : Nat} {O : Orc}
theorem visC_ok {sc : Scope} {x : Str} (h : visC sc x = true) : Vis sc x := by
  unfold visC at h
  split at h <;> first
    | exact .inl (by assumption)
    | exact .inr (.inl (by assumption))
    | exact .inr (.inr (by assumption))
    | cases h
theorem glC_ok {sc : Scope} {x : Str} (h : glC sc x = true) : sc.names.lookup x = some .globalImplicit ∧ (x == ("__debug__" : Str)) = false := by
  unfold glC at h
  rw [Bool.and_eq_true, Bool.not_eq_true'] at h
  refine ⟨?_, h.2⟩
  have := h.1
  split at this
  · assumption
  · cases this
theorem locC_ok {sc : Scope} {x : Str} (h : locC sc x = true) : sc.names.lookup x = some .local := by
  unfold locC at h
  split at h
  · assumption
  · cases h
theorem ixC_ok {i : Nat} {x : Str} (h : ixC N i x = true) : N[i]? = some x := of_decide_eq_true h
theorem isS_ok {o : Option Str} {x : Str} (h : isS o x = true) : o = some x := by
  unfold isS at h
  split at h
  · rw [of_decide_eq_true h]
  · cases h
theorem isBas_ok {o : Option (Str × Str)} {x m : Str} (h : isBas o x m = true) : o = some (x, m) := by
  unfold isBas at h
  split at h
  · rw [Bool.and_eq_true] at h
    rw [← of_decide_eq_true h.1, ← of_decide_eq_true h.2]
  · cases h
theorem okT_val {X : Cx} {W : WX} {a : IE} {e : Expr} (ha : PE X e (rdE G T O W a)) (h : tstOk e = true) : PT X e (rdT G T O W (.val a)) := by
  refine PT.of (pt_truth ha (tst_val h _)) fun σ H Q ⟨F, τ, S, ρ, P, E, a0, w, f, fx⟩ => ?_
  rw [wpT] at w
  refine rd1 a0 w fx fun x S2 ρ2 H2 u p a2 t r => ?_
  unfold truthW at p
  split at p
  · cases r; exact ⟨_, rfl, f _ _ _ _ p a2.sim t⟩
  · cases r; exact ⟨_, rfl, f _ _ _ _ p a2.sim t⟩
  · cases r; exact ⟨_, rfl, f _ _ _ _ p a2.sim t⟩
  · exact p.elim
theorem tgs_ok {X : Cx} {sc : Scope} (xo : XOk G N sc k X) : ∀ {is : List Nat} {es : List Expr}, tgsC N sc is es = true → PGs X es (rdGs G is)
  | [], [], _ => ok_tgsNil
  | [], _ :: _, h => by cases h
  | _ :: _, [], h => by cases h
  | i :: is, e :: es, h => by
    unfold tgsC at h
    rw [Bool.and_eq_true] at h
    obtain ⟨h1, h2⟩ := h
    split at h1
    · rw [Bool.and_eq_true] at h1
      have l := locC_ok h1.2
      rw [← xo.sc] at l
      exact ok_tgsCons xo.eqN xo.nd ⟨ixC_ok h1.1, .inl l, .inr l⟩ (tgs_ok xo h2)
    · cases h1
theorem tg_ok {X : Cx} {sc : Scope} (xo : XOk G N sc k X) {tg : Tg} {e : Expr} (h : tgC N sc tg e = true) : PG X e (rdG G tg) := by
  cases tg with
  | nm i =>
    simp only [tgC] at h
    split at h
    · rw [Bool.and_eq_true] at h
      have l := locC_ok h.2
      rw [← xo.sc] at l
      exact ok_tgN xo.eqN xo.nd ⟨ixC_ok h.1, .inl l, .inr l⟩
    · cases h
  | tp is =>
    simp only [tgC] at h
    split at h
    · rw [Bool.and_eq_true, Bool.and_eq_true] at h
      exact ok_tgT xo.K xo.calm h.1.2 (Nat.eq_of_beq_eq_true h.2) (tgs_ok xo h.1.1)
    · cases h
theorem cs_ok {X : Cx} {sc : Scope} (xo : XOk G N sc k X) (go : GOk G T) {c : Cs} {e : Expr} (h : csC T sc c e = true) : ∃ x p, e = .Name x p ∧ csN T c = some x ∧ sc.names.lookup x = some .globalImplicit ∧ (x == ("__debug__" : Str)) = false ∧ (csB c = true → T.fre x = true) := by
  unfold csC at h
  split at h
  · rw [Bool.and_eq_true, Bool.and_eq_true] at h
    obtain ⟨h1, h2⟩ := glC_ok h.1.2
    refine ⟨_, _, rfl, isS_ok h.1.1, h1, h2, fun hb => ?_⟩
    have := h.2
    rw [hb] at this
    simpa using this
  · cases h
theorem css_ok {X : Cx} {sc : Scope} (xo : XOk G N sc k X) (go : GOk G T) : ∀ {cs : List Cs} {es : List Expr}, cssC T sc cs es = true → PA X es (tCls G cs) ∧ ∀ d ∈ cs, ∀ i, d = .own i → (T.cl i).isSome = true
  | [], [], _ => ⟨okC_nil, fun _ h => by cases h⟩
  | [], _ :: _, h => by cases h
  | _ :: _, [], h => by cases h
  | c :: cs, e :: es, h => by
    unfold cssC at h
    rw [Bool.and_eq_true] at h
    obtain ⟨x, p, rfl, h1, h2, h3, h4⟩ := cs_ok xo go h.1
    obtain ⟨r1, r2⟩ := css_ok xo go h.2
    refine ⟨okC_cons (ok_cls xo go h1 h2 h3 h4) r1, fun d hd => ?_⟩
    rcases List.mem_cons.mp hd with rfl | hd
    · exact cls_some h1
    · exact r2 d hd
/-- what the check gives of an expression -/
def SndE (G : Gd) (T : Tab) (k : Nat) (X : Cx) (W : WX) (e : IE) (x : Expr) : Prop := PE X x (rdE G T (orc G T k) W e) ∧ (isCmpA x = true → PT X x (rdT G T (orc G T k) W (.val e)))
def SndT (G : Gd) (T : Tab) (k : Nat) (X : Cx) (W : WX) (c : IT) (x : Expr) : Prop := PT X x (rdT G T (orc G T k) W c) ∧ (isBoolA x = true → PW X x (rdT G T (orc G T k) W c))
theorem pw_and' {X : Cx} {W : WX} {a b : IT} {x y : Expr} {r : List Expr} {pos : Pos} (ha : PT X x (rdT G T O W a)) (hb : PW X (.BoolOp .And (y :: r) pos) (rdT G T O W b)) : PW X (.BoolOp .And (x :: y :: r) pos) (rdT G T O W (.and_ a b)) := by
  refine PW.of (pw_and ha hb) fun σ H Q ⟨F, τ, S, ρ, P, E, a0, w, f, fx⟩ => ?_
  rw [wpT] at w
  refine rdTe a0 w fx fun c S2 ρ2 H2 p a2 t => ?_
  rcases iteW_e p with ⟨e, p⟩ | ⟨e, p⟩
  · rw [e, if_pos rfl]
    exact ⟨F, _, _, _, _, _, a2, p, fun b S3 ρ3 H3 p3 s3 t3 => f b S3 ρ3 H3 p3 s3 (t.trans t3), fx.step t⟩
  · rw [e, if_neg Bool.false_ne_true]
    exact f _ _ _ _ p a2.sim t
theorem pw_or' {X : Cx} {W : WX} {a b : IT} {x y : Expr} {r : List Expr} {pos : Pos} (ha : PT X x (rdT G T O W a)) (hb : PW X (.BoolOp .Or (y :: r) pos) (rdT G T O W b)) : PW X (.BoolOp .Or (x :: y :: r) pos) (rdT G T O W (.or_ a b)) := by
  refine PW.of (pw_or ha hb) fun σ H Q ⟨F, τ, S, ρ, P, E, a0, w, f, fx⟩ => ?_
  rw [wpT] at w
  refine rdTe a0 w fx fun c S2 ρ2 H2 p a2 t => ?_
  rcases iteW_e p with ⟨e, p⟩ | ⟨e, p⟩
  · rw [e, if_pos rfl]
    exact f _ _ _ _ p a2.sim t
  · rw [e, if_neg Bool.false_ne_true]
    exact ⟨F, _, _, _, _, _, a2, p, fun b S3 ρ3 H3 p3 s3 t3 => f b S3 ρ3 H3 p3 s3 (t.trans t3), fx.step t⟩
theorem okT_not {X : Cx} {W : WX} {a : IT} {x : Expr} {pos : Pos} (ha : PT X x (rdT G T O W a)) : PT X (.UnaryOp .Not x pos) (rdT G T O W (.not a)) := by
  refine PT.of (pt_not ha) fun σ H Q ⟨F, τ, S, ρ, P, E, a0, w, f, fx⟩ => ?_
  rw [wpT] at w
  exact rdTe a0 w fx fun c S2 ρ2 H2 p a2 t => f _ _ _ _ p a2.sim t
theorem ok_biL {X : Cx} {W : WX} {sc : Scope} {b : Bi} {fz : Bool} {as : List IE} {es : List Expr} {p pos : Pos} (xo : XOk G N sc k X) (go : GOk G T) (hf : T.fre (biN b) = true) (hl : sc.names.lookup (biN b) = some .globalImplicit)
    (he : as.isEmpty = false) (hn : es.length = as.length) (ha : PA X es (rdL G T O W as)) (hp : es.all plainX = true) : PE X (.Call (.Name (biN b) p) es [] pos) (rdE G T O W (.bi b fz as)) := by
  cases as with
  | nil => cases he
  | cons a as =>
    cases es with
    | nil => cases hn
    | cons e es => exact ok_bi xo go hf hl ha hp
theorem noCmp {P : Prop} {x : Expr} (h : isCmpA x = false) : isCmpA x = true → P := fun q => by rw [h] at q; cases q
mutual
theorem sndE (go : GOk G T) : ∀ (e : IE) {sc : Scope} {X : Cx} {W : WX} (xo : XOk G N sc k X) (tk : Takes X W) (x : Expr), chkE T N sc e x = true → SndE G T k X W e x
  | .var i, sc, X, W, xo, tk, x, h => by
    unfold chkE at h
    split at h
    · unfold varC at h
      simp only [Bool.and_eq_true, decide_eq_true_eq, Bool.not_eq_true'] at h
      exact ⟨ok_var xo (ixC_ok h.1.1.1) (visC_ok h.1.1.2) h.1.2 h.2, noCmp rfl⟩
    · cases h
  | .con d, sc, X, W, xo, tk, x, h => by
    unfold chkE at h
    split at h
    · exact ⟨ok_con h, noCmp rfl⟩
    · cases h
  | .glo i, sc, X, W, xo, tk, x, h => by
    unfold chkE at h
    split at h
    · simp only [Bool.and_eq_true, decide_eq_true_eq, Bool.not_eq_true'] at h
      obtain ⟨h1, h2⟩ := glC_ok h.2
      exact ⟨ok_glo xo go (isS_ok h.1) h1 h2, noCmp rfl⟩
    · cases h
  | .bin op fz a b, sc, X, W, xo, tk, x, h => by
    unfold chkE at h
    split at h
    · simp only [Bool.and_eq_true, decide_eq_true_eq, Bool.not_eq_true'] at h
      obtain ⟨⟨rfl, h1⟩, h2⟩ := h
      exact ⟨ok_bin xo (sndE go a xo tk _ h1).1 (sndE go b xo tk _ h2).1, noCmp rfl⟩
    · cases h
  | .modp a b, sc, X, W, xo, tk, x, h => by
    unfold chkE at h
    split at h
    · simp only [Bool.and_eq_true, decide_eq_true_eq, Bool.not_eq_true'] at h
      obtain ⟨⟨rfl, h1⟩, h2⟩ := h
      exact ⟨ok_modp (sndE go a xo tk _ h1).1 (sndE go b xo tk _ h2).1, noCmp rfl⟩
    · cases h
  | .divp a b, sc, X, W, xo, tk, x, h => by
    unfold chkE at h
    split at h
    · simp only [Bool.and_eq_true, decide_eq_true_eq, Bool.not_eq_true'] at h
      obtain ⟨⟨rfl, h1⟩, h2⟩ := h
      exact ⟨ok_divp (sndE go a xo tk _ h1).1 (sndE go b xo tk _ h2).1, noCmp rfl⟩
    · cases h
  | .neg a, sc, X, W, xo, tk, x, h => by
    unfold chkE at h
    split at h
    · simp only [Bool.and_eq_true, decide_eq_true_eq, Bool.not_eq_true'] at h
      obtain ⟨rfl, h1⟩ := h
      exact ⟨ok_neg (sndE go a xo tk _ h1).1, noCmp rfl⟩
    · cases h
  | .not a, sc, X, W, xo, tk, x, h => by
    unfold chkE at h
    split at h
    · simp only [Bool.and_eq_true, decide_eq_true_eq, Bool.not_eq_true'] at h
      obtain ⟨rfl, h1⟩ := h
      exact ⟨ok_not (sndE go a xo tk _ h1).1, noCmp rfl⟩
    · cases h
  | .and_ a b, sc, X, W, xo, tk, x, h => by
    unfold chkE at h
    split at h
    · simp only [Bool.and_eq_true, decide_eq_true_eq, Bool.not_eq_true'] at h
      obtain ⟨⟨rfl, h1⟩, h2⟩ := h
      refine ⟨ok_and (sndE go a xo tk _ h1).1 ?_, noCmp rfl⟩
      have hb := (sndE go b xo tk _ h2).1
      split at hb
      · exact pe_one hb
      · exact hb
    · cases h
  | .or_ a b, sc, X, W, xo, tk, x, h => by
    unfold chkE at h
    split at h
    · simp only [Bool.and_eq_true, decide_eq_true_eq, Bool.not_eq_true'] at h
      obtain ⟨⟨rfl, h1⟩, h2⟩ := h
      refine ⟨ok_or (sndE go a xo tk _ h1).1 ?_, noCmp rfl⟩
      have hb := (sndE go b xo tk _ h2).1
      split at hb
      · exact pe_one hb
      · exact hb
    · cases h
  | .cmp op a b, sc, X, W, xo, tk, x, h => by
    unfold chkE at h
    split at h
    · simp only [Bool.and_eq_true, decide_eq_true_eq, Bool.not_eq_true'] at h
      obtain ⟨⟨⟨rfl, h0⟩, h1⟩, h2⟩ := h
      have ha := (sndE go a xo tk _ h1).1
      have hb := (sndE go b xo tk _ h2).1
      exact ⟨ok_cmp xo h0 ha hb, fun _ => okT_cmp xo h0 ha hb⟩
    · cases h
  | .chn op op' a b c, sc, X, W, xo, tk, x, h => by
    unfold chkE at h
    split at h
    · simp only [Bool.and_eq_true, decide_eq_true_eq, Bool.not_eq_true'] at h
      obtain ⟨⟨⟨⟨⟨rfl, rfl⟩, h0⟩, h1⟩, h2⟩, h3⟩ := h
      have ha := (sndE go a xo tk _ h1).1
      have hb := (sndE go b xo tk _ h2).1
      have hc := (sndE go c xo tk _ h3).1
      exact ⟨ok_chn xo h0 ha hb hc, noCmp rfl⟩
    · cases h
  | .ifx c a b, sc, X, W, xo, tk, x, h => by
    unfold chkE at h
    split at h
    · simp only [Bool.and_eq_true, decide_eq_true_eq, Bool.not_eq_true'] at h
      exact ⟨ok_ifx (sndT go c xo tk _ h.1.1).1 (sndE go a xo tk _ h.1.2).1 (sndE go b xo tk _ h.2).1, noCmp rfl⟩
    · cases h
  | .idx a b, sc, X, W, xo, tk, x, h => by
    unfold chkE at h
    split at h
    · simp only [Bool.and_eq_true, decide_eq_true_eq, Bool.not_eq_true'] at h
      exact ⟨ok_idx xo h.1.1 (sndE go a xo tk _ h.1.2).1 (sndE go b xo tk _ h.2).1, noCmp rfl⟩
    · cases h
  | .kget g a, sc, X, W, xo, tk, x, h => by
    unfold chkE at h
    split at h
    · simp only [Bool.and_eq_true, decide_eq_true_eq, Bool.not_eq_true'] at h
      obtain ⟨h1, h2⟩ := glC_ok h.1.2
      exact ⟨ok_kget xo go h.1.1.1 (isS_ok h.1.1.2) h1 h2 (sndE go a xo tk _ h.2).1, noCmp rfl⟩
    · cases h
  | .slc fz a lo hi, sc, X, W, xo, tk, x, h => by
    unfold chkE at h
    split at h
    · simp only [Bool.and_eq_true, decide_eq_true_eq, Bool.not_eq_true'] at h
      exact ⟨ok_slc xo (sndE go a xo tk _ h.1.1).1 (sndP go lo xo tk _ h.1.2) (sndP go hi xo tk _ h.2), noCmp rfl⟩
    · cases h
  | .rev fz a, sc, X, W, xo, tk, x, h => by
    unfold chkE at h
    split at h
    · exact ⟨ok_rev xo (sndE go a xo tk _ h).1, noCmp rfl⟩
    · cases h
  | .srt fz a, sc, X, W, xo, tk, x, h => by
    unfold chkE at h
    split at h
    · simp only [Bool.and_eq_true, decide_eq_true_eq] at h
      obtain ⟨⟨⟨⟨⟨rfl, rfl⟩, h1, h2⟩, h3, h4⟩, h5⟩, h6⟩ := h
      exact ⟨ok_srt xo go h1 h2 (glC_ok h3).1 (glC_ok h4).1 (sndE go a xo tk _ h6).1 h5, noCmp rfl⟩
    · cases h
  | .fld a f, sc, X, W, xo, tk, x, h => by
    unfold chkE at h
    split at h
    · simp only [Bool.and_eq_true, decide_eq_true_eq, Bool.not_eq_true'] at h
      exact ⟨ok_fld xo go h.1.2 h.1.1 (sndE go a xo tk _ h.2).1, noCmp rfl⟩
    · cases h
  | .call f es, sc, X, W, xo, tk, x, h => by
    unfold chkE at h
    split at h
    · simp only [Bool.and_eq_true, decide_eq_true_eq, Bool.not_eq_true'] at h
      obtain ⟨h1, h2⟩ := glC_ok h.1.1.2
      obtain ⟨q1, q2⟩ := sndL go es xo tk _ h.2 h.1.2
      exact ⟨ok_call xo go tk (isS_ok h.1.1.1) h1 h2 q1 h.1.2 q2, noCmp rfl⟩
    · simp only [Bool.and_eq_true] at h
      obtain ⟨⟨⟨⟨⟨⟨g1, g2⟩, g3⟩, g4⟩, g5⟩, g6⟩, g7⟩ := h
      obtain ⟨h1, h2⟩ := glC_ok g4
      obtain ⟨q1, q2⟩ := sndL go es xo tk _ g7 g5
      obtain ⟨C, c1, c2, c3⟩ := go.ba f _ _ (isBas_ok g1)
      exact ⟨ok_bcall xo go tk c1 c2 c3 h1 h2 g2 g3 q1 g5 q2 (Nat.le_of_ble_eq_true g6), noCmp rfl⟩
    · cases h
  | .new c es, sc, X, W, xo, tk, x, h => by
    unfold chkE at h
    split at h
    · simp only [Bool.and_eq_true, decide_eq_true_eq, Bool.not_eq_true'] at h
      obtain ⟨h1, h2⟩ := glC_ok h.1.1.2
      obtain ⟨q1, q2⟩ := sndL go es xo tk _ h.2 h.1.2
      exact ⟨ok_new xo go tk (isS_ok h.1.1.1) h1 h2 q1 h.1.2 q2, noCmp rfl⟩
    · cases h
  | .meth a m es, sc, X, W, xo, tk, x, h => by
    unfold chkE at h
    split at h
    · simp only [Bool.and_eq_true, decide_eq_true_eq, Bool.not_eq_true'] at h
      obtain ⟨⟨⟨⟨⟨⟨h1, h2⟩, h3⟩, h4⟩, h5⟩, h6⟩, h7⟩ := h
      obtain ⟨q1, q2⟩ := sndL go es xo tk _ h7 h4
      exact ⟨ok_meth xo go tk h2 h1 h3 (sndE go a xo tk _ h6).1 q1 h4 q2 (Nat.le_of_ble_eq_true h5), noCmp rfl⟩
    · cases h
  | .bi b fz es, sc, X, W, xo, tk, x, h => by
    unfold chkE at h
    split at h
    · simp only [Bool.and_eq_true, decide_eq_true_eq, Bool.not_eq_true'] at h
      obtain ⟨⟨⟨⟨⟨rfl, h1⟩, h2⟩, h3⟩, h4⟩, h5⟩ := h
      obtain ⟨g1, g2⟩ := glC_ok h2
      obtain ⟨q1, q2⟩ := sndL go es xo tk _ h5 h3
      exact ⟨ok_biL xo go h1 g1 h4 q2 q1 h3, noCmp rfl⟩
    · cases h
  | .bm m fz a es, sc, X, W, xo, tk, x, h => by
    unfold chkE at h
    split at h
    · simp only [Bool.and_eq_true, decide_eq_true_eq, Bool.not_eq_true'] at h
      obtain ⟨⟨⟨⟨⟨⟨⟨h1, rfl⟩, h2⟩, h3⟩, h4⟩, h5⟩, h6⟩, h7⟩ := h
      obtain ⟨q1, q2⟩ := sndL go es xo tk _ h7 h4
      exact ⟨ok_bm xo h1 h2 h3 (sndE go a xo tk _ h6).1 q1 h4 q2 (Nat.le_of_ble_eq_true h5), noCmp rfl⟩
    · cases h
  | .isi a one cs, sc, X, W, xo, tk, x, h => by
    unfold chkE at h
    split at h
    · simp only [Bool.and_eq_true, decide_eq_true_eq, Bool.not_eq_true'] at h
      obtain ⟨⟨⟨⟨⟨rfl, h1⟩, h2⟩, h3⟩, h4⟩, h5⟩ := h
      have ha := (sndE go a xo tk _ h4).1
      obtain ⟨g1, _⟩ := glC_ok h2
      split at h5
      · obtain ⟨y, p, rfl, q1, q2, q3, q4⟩ := cs_ok xo go h5
        exact ⟨ok_isi1 xo go h3 h1 g1 q1 q2 q3 q4 ha, noCmp rfl⟩
      · split at h5
        · rw [Bool.and_eq_true] at h5
          obtain ⟨q1, q2⟩ := css_ok xo go h5.1
          exact ⟨ok_isiT xo go h3 h1 g1 q2 (Nat.le_of_ble_eq_true h5.2) q1 ha, noCmp rfl⟩
        · cases h5
      · cases h5
    · cases h
  | .tup es, sc, X, W, xo, tk, x, h => by
    unfold chkE at h
    split at h
    · simp only [Bool.and_eq_true, decide_eq_true_eq, Bool.not_eq_true'] at h
      exact ⟨ok_tup (Nat.le_of_ble_eq_true h.1.1) (sndL go es xo tk _ h.2 h.1.2).1, noCmp rfl⟩
    · cases h
  | .lst fz es, sc, X, W, xo, tk, x, h => by
    unfold chkE at h
    split at h
    · simp only [Bool.and_eq_true, decide_eq_true_eq, Bool.not_eq_true'] at h
      exact ⟨ok_lst (Nat.le_of_ble_eq_true h.1.1) (sndL go es xo tk _ h.2 h.1.2).1, noCmp rfl⟩
    · cases h
  | .dct ks vs, sc, X, W, xo, tk, x, h => by
    unfold chkE at h
    split at h
    · rename_i keys values _
      rw [Bool.or_eq_true] at h
      rcases h with h | h
      · simp only [Bool.and_eq_true, List.isEmpty_iff] at h
        obtain ⟨⟨rfl, rfl⟩, rfl⟩ := h
        exact ⟨ok_dct, noCmp rfl⟩
      · simp only [Bool.and_eq_true, Bool.not_eq_true'] at h
        obtain ⟨⟨⟨⟨⟨⟨h1, h2⟩, h3⟩, h4⟩, h5⟩, h6⟩, h7⟩ := h
        cases ks with
        | nil => cases h1
        | cons k0 ks =>
          refine ⟨ok_dctN h2 (sndV go vs xo tk _ h7) (Nat.eq_of_beq_eq_true h5) ?_ (Nat.le_of_ble_eq_true h4) (Nat.eq_of_beq_eq_true h6) h3, noCmp rfl⟩
          rintro rfl
          cases h2
    · cases h
  | .lvals fz a, sc, X, W, xo, tk, x, h => by
    unfold chkE at h
    split at h
    · simp only [Bool.and_eq_true, decide_eq_true_eq] at h
      obtain ⟨⟨⟨⟨⟨⟨rfl, rfl⟩, g1⟩, g2⟩, g3⟩, g4⟩, g5⟩ := h
      exact ⟨ok_lvals xo go g1 (glC_ok g2).1 g3 g4 (sndE go a xo tk _ g5).1, noCmp rfl⟩
    · cases h
  | .lc fz own tg it src ifs elt, sc, X, W, xo, tk, x, h => by
    unfold chkE at h
    split at h
    · simp only [Bool.and_eq_true, decide_eq_true_eq, Bool.not_eq_true'] at h
      obtain ⟨⟨⟨⟨⟨⟨h1, h2⟩, h3⟩, h4⟩, h5⟩, h6⟩, h7⟩ := h
      refine ⟨ok_lc xo ?_ h1 (by simp [List.map_map, Function.comp_def]) (fun j hj => ?_) (fun X' xo' => tg_ok xo' h4) (fun X' xo' => sndI go ifs xo' no_takes _ h6) (fun X' xo' => (sndE go elt xo' no_takes _ h7).1) h3, noCmp rfl⟩
      · split at h5
        · split at h5
          · exact ok_srcE xo (sndE go _ xo tk _ h5).1
          · cases h5
        · split at h5
          · simp only [Bool.and_eq_true, decide_eq_true_eq] at h5
            obtain ⟨⟨⟨⟨rfl, g1⟩, g2⟩, g3⟩, g4⟩ := h5
            exact ok_srcR1 xo go g3 g1 (glC_ok g2).1 (sndL go src xo tk _ g4 (by simp [g3])).1
          · cases h5
        · split at h5
          · simp only [Bool.and_eq_true, decide_eq_true_eq] at h5
            obtain ⟨⟨⟨⟨⟨rfl, g1⟩, g2⟩, g3⟩, g5⟩, g4⟩ := h5
            exact ok_srcR2 xo go g3 g5 g1 (glC_ok g2).1 (sndL go src xo tk _ g4 (by simp [g3, g5])).1
          · cases h5
        · split at h5
          · simp only [Bool.and_eq_true, decide_eq_true_eq] at h5
            obtain ⟨⟨⟨⟨⟨rfl, g1⟩, g2⟩, g3⟩, g5⟩, g4⟩ := h5
            obtain ⟨el', kk, tp, rfl⟩ := tupX_ok g5
            exact ok_srcEn xo go g3 g1 (glC_ok g2).1 (sndL go src xo tk _ g4 (by simp [g3])).1
          · cases h5
        · split at h5
          · simp only [Bool.and_eq_true, decide_eq_true_eq] at h5
            obtain ⟨⟨⟨⟨⟨⟨rfl, g1⟩, g2⟩, g3⟩, g6⟩, g5⟩, g4⟩ := h5
            obtain ⟨el', kk, tp, rfl⟩ := tupX_ok g5
            exact ok_srcZp xo go g3 g6 g1 (glC_ok g2).1 (sndL go src xo tk _ g4 (by simp [g3, g6])).1
          · cases h5
        · split at h5
          · simp only [Bool.and_eq_true, decide_eq_true_eq] at h5
            obtain ⟨⟨⟨⟨rfl, g1⟩, g2⟩, g5⟩, g4⟩ := h5
            obtain ⟨el', kk, tp, rfl⟩ := tupX_ok g5
            split at g4
            · exact ok_srcIt g1 g2 (sndE go _ xo tk _ g4).1
            · cases g4
          · cases h5
        · split at h5
          · simp only [Bool.and_eq_true, decide_eq_true_eq] at h5
            obtain ⟨⟨⟨rfl, g1⟩, g2⟩, g4⟩ := h5
            split at g4
            · exact ok_srcVs g1 g2 (sndE go _ xo tk _ g4).1
            · cases g4
          · cases h5
        · cases h5
      · have := List.all_eq_true.mp h2 j hj
        simpa using this
    · cases h
theorem sndT (go : GOk G T) : ∀ (c : IT) {sc : Scope} {X : Cx} {W : WX} (xo : XOk G N sc k X) (tk : Takes X W) (x : Expr), chkT T N sc c x = true → SndT G T k X W c x
  | .val e, sc, X, W, xo, tk, x, h => by
    unfold chkT at h
    rw [Bool.and_eq_true, Bool.or_eq_true] at h
    obtain ⟨ha, hb⟩ := sndE go e xo tk x h.2
    rcases h.1 with h1 | h1
    · refine ⟨okT_val ha h1, fun q => ?_⟩
      cases x <;> first
        | exact absurd h1 Bool.false_ne_true
        | exact absurd q Bool.false_ne_true
    · refine ⟨hb h1, fun q => ?_⟩
      cases x <;> first
        | exact absurd h1 Bool.false_ne_true
        | exact absurd q Bool.false_ne_true
  | .not t, sc, X, W, xo, tk, x, h => by
    unfold chkT at h
    split at h
    · simp only [Bool.and_eq_true, decide_eq_true_eq, Bool.not_eq_true'] at h
      obtain ⟨rfl, h1⟩ := h
      exact ⟨okT_not (sndT go t xo tk _ h1).1, fun q => by cases q⟩
    · cases h
  | .and_ a b, sc, X, W, xo, tk, x, h => by
    unfold chkT at h
    split at h
    · simp only [Bool.and_eq_true, decide_eq_true_eq, Bool.not_eq_true'] at h
      obtain ⟨⟨rfl, h1⟩, h2⟩ := h
      have ha := (sndT go a xo tk _ h1).1
      have hb := sndT go b xo tk _ h2
      split at hb
      · exact ⟨(pw_and' ha (pw_and1 hb.1)).pt, fun _ => pw_and' ha (pw_and1 hb.1)⟩
      · exact ⟨(pw_and' ha (hb.2 rfl)).pt, fun _ => pw_and' ha (hb.2 rfl)⟩
    · cases h
  | .or_ a b, sc, X, W, xo, tk, x, h => by
    unfold chkT at h
    split at h
    · simp only [Bool.and_eq_true, decide_eq_true_eq, Bool.not_eq_true'] at h
      obtain ⟨⟨rfl, h1⟩, h2⟩ := h
      have ha := (sndT go a xo tk _ h1).1
      have hb := sndT go b xo tk _ h2
      split at hb
      · exact ⟨(pw_or' ha (pw_or1 hb.1)).pt, fun _ => pw_or' ha (pw_or1 hb.1)⟩
      · exact ⟨(pw_or' ha (hb.2 rfl)).pt, fun _ => pw_or' ha (hb.2 rfl)⟩
    · cases h
  | .chn op op' a b c, sc, X, W, xo, tk, x, h => by
    unfold chkT at h
    split at h
    · simp only [Bool.and_eq_true, decide_eq_true_eq, Bool.not_eq_true'] at h
      obtain ⟨⟨⟨⟨⟨rfl, rfl⟩, h0⟩, h1⟩, h2⟩, h3⟩ := h
      exact ⟨okT_chn xo h0 (sndE go a xo tk _ h1).1 (sndE go b xo tk _ h2).1 (sndE go c xo tk _ h3).1, fun q => by cases q⟩
    · cases h
theorem sndL (go : GOk G T) : ∀ (es : List IE) {sc : Scope} {X : Cx} {W : WX} (xo : XOk G N sc k X) (tk : Takes X W) (l : List Expr), chkL T N sc es l = true → l.all plainX = true → PA X l (rdL G T (orc G T k) W es) ∧ l.length = es.length
  | [], sc, X, W, xo, tk, l, h, hp => by
    unfold chkL at h
    cases l with
    | nil => exact ⟨okL_nil, rfl⟩
    | cons a r => cases h
  | a :: as, sc, X, W, xo, tk, l, h, hp => by
    unfold chkL at h
    cases l with
    | nil => cases h
    | cons e es =>
      rw [Bool.and_eq_true] at h
      rw [List.all_cons, Bool.and_eq_true] at hp
      obtain ⟨q1, q2⟩ := sndL go as xo tk es h.2 hp.2
      exact ⟨okL_cons hp.1 (sndE go a xo tk _ h.1).1 q1, by simp [q2]⟩
theorem sndV (go : GOk G T) : ∀ (es : List IE) {sc : Scope} {X : Cx} {W : WX} (xo : XOk G N sc k X) (tk : Takes X W) (l : List Expr), chkL T N sc es l = true → Pes X G T (orc G T k) W l es
  | [], sc, X, W, xo, tk, l, h => by
    unfold chkL at h
    cases l with
    | nil => exact .nil
    | cons a r => cases h
  | a :: as, sc, X, W, xo, tk, l, h => by
    unfold chkL at h
    cases l with
    | nil => cases h
    | cons e es =>
      rw [Bool.and_eq_true] at h
      exact .cons (sndE go a xo tk _ h.1).1 (sndV go as xo tk es h.2)
theorem sndP (go : GOk G T) : ∀ (es : List IE) {sc : Scope} {X : Cx} {W : WX} (xo : XOk G N sc k X) (tk : Takes X W) (o : Option Expr), chkP T N sc es o = true → PO X o (rdP G T (orc G T k) W es)
  | [], sc, X, W, xo, tk, o, h => by
    unfold chkP at h
    cases o with
    | none => exact okP_nil
    | some e => cases h
  | a :: r, sc, X, W, xo, tk, o, h => by
    unfold chkP at h
    cases o with
    | none => cases h
    | some e =>
      rw [Bool.and_eq_true] at h
      cases r with
      | nil => exact okP_one (sndE go a xo tk _ h.1).1
      | cons b r => cases h.2
theorem sndI (go : GOk G T) : ∀ (es : List IT) {sc : Scope} {X : Cx} {W : WX} (xo : XOk G N sc k X) (tk : Takes X W) (l : List Expr), chkI T N sc es l = true → PTs X l (rdI G T (orc G T k) W es)
  | [], sc, X, W, xo, tk, l, h => by
    unfold chkI at h
    cases l with
    | nil => exact okI_nil
    | cons a r => cases h
  | a :: r, sc, X, W, xo, tk, l, h => by
    unfold chkI at h
    split at h
    · rw [Bool.and_eq_true] at h
      cases r with
      | nil => exact okI_one (sndT go a xo tk _ h.1).1
      | cons b r => cases h.2
    · cases h
end
end
end DL

set_option maxHeartbeats 1000000
/-! DL 7i: a call at a part of the store -/
namespace DL
open PySem PySem.Spec PyProof.Rows L2
/-- the cells at these places -/
def pick (S : Store) : List Nat → Store
  | [] => []
  | i :: r => S.getD i .dead :: pick S r
/-- put back -/
def putB (S : Store) : List Nat → Store → Store
  | i :: r, c :: L => putB (S.set i c) r L
  | _, _ => S
mutual
/-- references by their places among these -/
def ren (is : List Nat) : D → D
  | .ref m => .ref (is.getD m 0)
  | .tup xs => .tup (rens is xs)
  | .lst xs => .lst (rens is xs)
  | .klst xs => .klst (rens is xs)
  | .dct ks vs => .dct ks (rens is vs)
  | .ins c ns fs => .ins c ns (rens is fs)
  | .exc c ns fs => .exc c ns (rens is fs)
  | .pin m d => .pin (is.getD m 0) (ren is d)
  | .non => .non
  | .bl b => .bl b
  | .int i => .int i
  | .str s => .str s
def rens (is : List Nat) : List D → List D
  | [] => []
  | d :: r => ren is d :: rens is r
end
theorem pick_len (S : Store) : ∀ is : List Nat, (pick S is).length = is.length
  | [] => rfl
  | _ :: r => by simp [pick, pick_len S r]
theorem pick_get (S : Store) : ∀ (is : List Nat) (j : Nat), (pick S is)[j]? = (is[j]?).map fun i => S.getD i .dead
  | [], j => by simp [pick]
  | i :: r, 0 => by simp [pick]
  | i :: r, j + 1 => by simpa [pick] using pick_get S r j
theorem putB_len (S : Store) : ∀ (is : List Nat) (L : Store), (putB S is L).length = S.length
  | [], _ => by simp [putB]
  | _ :: _, [] => by simp [putB]
  | i :: r, c :: L => by rw [putB, putB_len, List.length_set]
theorem putB_out {n : Nat} : ∀ {is : List Nat} {L S : Store}, n ∉ is → (putB S is L)[n]? = S[n]?
  | [], _, _, _ => by simp [putB]
  | _ :: _, [], _, _ => by simp [putB]
  | i :: r, c :: L, S, h => by
    rw [putB, putB_out fun q => h (List.mem_cons_of_mem _ q), List.getElem?_set_ne fun e => h (by rw [e]; exact List.mem_cons_self)]
theorem putB_in : ∀ {is : List Nat} {L S : Store} {j n : Nat}, is.Nodup → L.length = is.length → is[j]? = some n → n < S.length → (putB S is L)[n]? = L[j]?
  | [], _, _, j, _, _, _, h, _ => by simp at h
  | i :: r, [], _, _, _, _, hl, _, _ => by simp at hl
  | i :: r, c :: L, S, 0, n, nd, hl, h, hn => by
    simp at h
    subst h
    rw [putB, putB_out (List.nodup_cons.mp nd).1, List.getElem?_set_self hn]
    rfl
  | i :: r, c :: L, S, j + 1, n, nd, hl, h, hn => by
    rw [putB, putB_in (List.nodup_cons.mp nd).2 (by simpa using hl) (by simpa using h) (by rw [List.length_set]; exact hn)]
    simp
section
variable {G : Gd} {k f : Nat} {S : Store} {Q E : QD} {args : List D} {is : List Nat}
mutual
theorem RV.ren {Lv Lv' : Addr → Prop} {ρ ρ' : List Addr} {H : Hp} (hl : ∀ a, Lv' a → Lv a) (hp : ∀ (j : Nat) a, j < is.length → ρ[is.getD j 0]? = some a → ρ'[j]? = some a) : ∀ {d : D} {u : V}, bel is.length d = true → RV G Lv ρ H (ren is d) u → RV G Lv' ρ' H d u
  | .non, _, _, h => by cases h; exact .non
  | .bl _, _, _, h => by cases h; exact .bl _
  | .int _, _, _, h => by cases h; exact .int _
  | .str _, _, _, h => by cases h; exact .str _
  | .tup xs, _, b, h => by
    cases h with
    | tup h r => exact .tup (h.imp (fun z => ⟨fun q => z.1 (hl _ q), z.2⟩) id) (RVs.ren hl hp b r)
  | .lst xs, _, b, h => by
    cases h with
    | lst h r => exact .lst ⟨fun q => h.1 (hl _ q), h.2⟩ (RVs.ren hl hp b r)
  | .klst xs, _, b, h => by
    cases h with
    | klst h r => exact .klst (h.imp (fun z => ⟨fun q => z.1 (hl _ q), z.2⟩) id) (RVs.ren hl hp b r)
  | .dct ks vs, _, b, h => by
    cases h with
    | dct h r => exact .dct ⟨fun q => h.1 (hl _ q), h.2⟩ (RKs.ren hl hp b r)
  | .ins c ns fs, _, b, h => by
    cases h with
    | ins h c r => exact .ins ⟨fun q => h.1 (hl _ q), h.2⟩ c (RFs.ren hl hp b r)
  | .exc _ _ _, _, _, h => by cases h
  | .ref m, _, b, h => by
    cases h with
    | ref h => exact .ref (hp _ _ (Nat.le_of_ble_eq_true b) h)
  | .pin m d, _, b, h => by
    cases h with
    | pin h r => exact .pin (hp _ _ (Nat.le_of_ble_eq_true (Bool.and_eq_true_iff.mp b).1) h) (RV.ren hl hp (Bool.and_eq_true_iff.mp b).2 r)
theorem RVs.ren {Lv Lv' : Addr → Prop} {ρ ρ' : List Addr} {H : Hp} (hl : ∀ a, Lv' a → Lv a) (hp : ∀ (j : Nat) a, j < is.length → ρ[is.getD j 0]? = some a → ρ'[j]? = some a) : ∀ {d : List D} {u : List V}, bels is.length d = true → RVs G Lv ρ H (rens is d) u → RVs G Lv' ρ' H d u
  | [], _, _, h => by cases h; exact .nil
  | _ :: _, _, b, h => by
    cases h with
    | cons h t => exact .cons (RV.ren hl hp (Bool.and_eq_true_iff.mp b).1 h) (RVs.ren hl hp (Bool.and_eq_true_iff.mp b).2 t)
theorem RKs.ren {Lv Lv' : Addr → Prop} {ρ ρ' : List Addr} {H : Hp} (hl : ∀ a, Lv' a → Lv a) (hp : ∀ (j : Nat) a, j < is.length → ρ[is.getD j 0]? = some a → ρ'[j]? = some a) : ∀ {ks vs : List D} {u : List (Key × V)}, bels is.length vs = true → RKs G Lv ρ H ks (rens is vs) u → RKs G Lv' ρ' H ks vs u
  | _, [], _, _, h => by cases h; exact .nil
  | _, _ :: _, _, b, h => by
    cases h with
    | cons hk h t => exact .cons hk (RV.ren hl hp (Bool.and_eq_true_iff.mp b).1 h) (RKs.ren hl hp (Bool.and_eq_true_iff.mp b).2 t)
theorem RFs.ren {Lv Lv' : Addr → Prop} {ρ ρ' : List Addr} {H : Hp} (hl : ∀ a, Lv' a → Lv a) (hp : ∀ (j : Nat) a, j < is.length → ρ[is.getD j 0]? = some a → ρ'[j]? = some a) : ∀ {fl : List (Str × V)} {ns : List Nat} {d : List D}, bels is.length d = true → RFs G Lv ρ H fl ns (rens is d) → RFs G Lv' ρ' H fl ns d
  | _, _, [], _, h => by cases h; exact .nil
  | _, _, _ :: _, b, h => by
    cases h with
    | cons hn h t => exact .cons hn (RV.ren hl hp (Bool.and_eq_true_iff.mp b).1 h) (RFs.ren hl hp (Bool.and_eq_true_iff.mp b).2 t)
end
mutual
/-- back: local references are the caller's -/
theorem RV.back {Lv Lv' : Addr → Prop} {ρ ρ' : List Addr} {H : Hp} (hl : ∀ a, Lv a → Lv' a) (hp : ∀ (j : Nat) a, ρ'[j]? = some a → ρ[is.getD j 0]? = some a) : ∀ {d : D} {u : V}, RV G Lv' ρ' H d u → RV G Lv ρ H (DL.ren is d) u
  | _, _, .non => .non
  | _, _, .bl b => .bl b
  | _, _, .int i => .int i
  | _, _, .str s => .str s
  | _, _, .tup h r => .tup (h.imp (fun z => ⟨fun q => z.1 (hl _ q), z.2⟩) id) (RVs.back hl hp r)
  | _, _, .lst h r => .lst ⟨fun q => h.1 (hl _ q), h.2⟩ (RVs.back hl hp r)
  | _, _, .klst h r => .klst (h.imp (fun z => ⟨fun q => z.1 (hl _ q), z.2⟩) id) (RVs.back hl hp r)
  | _, _, .dct h r => .dct ⟨fun q => h.1 (hl _ q), h.2⟩ (RKs.back hl hp r)
  | _, _, .ins h c r => .ins ⟨fun q => h.1 (hl _ q), h.2⟩ c (RFs.back hl hp r)
  | _, _, .ref h => .ref (hp _ _ h)
  | _, _, .pin h r => .pin (hp _ _ h) (RV.back hl hp r)
theorem RVs.back {Lv Lv' : Addr → Prop} {ρ ρ' : List Addr} {H : Hp} (hl : ∀ a, Lv a → Lv' a) (hp : ∀ (j : Nat) a, ρ'[j]? = some a → ρ[is.getD j 0]? = some a) : ∀ {d : List D} {u : List V}, RVs G Lv' ρ' H d u → RVs G Lv ρ H (DL.rens is d) u
  | _, _, .nil => .nil
  | _, _, .cons h t => .cons (RV.back hl hp h) (RVs.back hl hp t)
theorem RKs.back {Lv Lv' : Addr → Prop} {ρ ρ' : List Addr} {H : Hp} (hl : ∀ a, Lv a → Lv' a) (hp : ∀ (j : Nat) a, ρ'[j]? = some a → ρ[is.getD j 0]? = some a) : ∀ {ks vs : List D} {u : List (Key × V)}, RKs G Lv' ρ' H ks vs u → RKs G Lv ρ H ks (DL.rens is vs) u
  | _, _, _, .nil => .nil
  | _, _, _, .cons hk h t => .cons hk (RV.back hl hp h) (RKs.back hl hp t)
theorem RFs.back {Lv Lv' : Addr → Prop} {ρ ρ' : List Addr} {H : Hp} (hl : ∀ a, Lv a → Lv' a) (hp : ∀ (j : Nat) a, ρ'[j]? = some a → ρ[is.getD j 0]? = some a) : ∀ {fl : List (Str × V)} {ns : List Nat} {d : List D}, RFs G Lv' ρ' H fl ns d → RFs G Lv ρ H fl ns (DL.rens is d)
  | _, _, _, .nil => .nil
  | _, _, _, .cons hn h t => .cons hn (RV.back hl hp h) (RFs.back hl hp t)
end
/-- a call at a part of the store: the rest stays -/
theorem callP_frm (nd : is.Nodup) (hi : ∀ i ∈ is, i < S.length) (hc : belS 0 (pick S is) = true) (ha : bels is.length args = true)
    (h : CallP G k f args (pick S is) (fun d L' => L'.length = is.length ∧ belS 0 L' = true ∧ Q (ren is d) (putB S is L')) (fun d L' => L'.length = is.length ∧ belS 0 L' = true ∧ E (ren is d) (putB S is L'))) : CallP G k f (rens is args) S Q E := by
  obtain ⟨ps, FO, B⟩ := callP_e h
  refine callP_i ⟨ps, FO.imp (fun vs H Qv Ev ⟨F, ρ, sim, rv, fin, fx⟩ => ?_), B⟩
  have hρ : ∀ (j : Nat) a, (is.map fun i => ρ.getD i 0)[j]? = some a → ∃ i, is[j]? = some i ∧ ρ[i]? = some a ∧ i < S.length := fun j a e => by
    rw [List.getElem?_map] at e
    obtain ⟨i, e1, e2⟩ := Option.map_eq_some_iff.mp e
    have hl := hi i (List.mem_of_getElem? e1)
    refine ⟨i, e1, ?_, hl⟩
    rw [List.getD_eq_getElem?_getD] at e2
    rw [List.getElem?_eq_getElem (by rw [sim.len]; exact hl)] at e2 ⊢
    simpa using e2
  have hρ2 : ∀ (j i : Nat) a, is[j]? = some i → ρ[i]? = some a → (is.map fun i => ρ.getD i 0)[j]? = some a := fun j i a e1 e2 => by
    rw [List.getElem?_map, e1]
    simp [List.getD_eq_getElem?_getD, e2]
  have hL : ∀ (j : Nat) c, (pick S is)[j]? = some c → ∃ i, is[j]? = some i ∧ S[i]? = some c := fun j c e => by
    rw [pick_get] at e
    obtain ⟨i, e1, e2⟩ := Option.map_eq_some_iff.mp e
    have hl := hi i (List.mem_of_getElem? e1)
    refine ⟨i, e1, ?_⟩
    rw [List.getD_eq_getElem?_getD] at e2
    rw [List.getElem?_eq_getElem hl] at e2 ⊢
    simpa using e2
  have hL2 : ∀ (j i : Nat) c, is[j]? = some i → S[i]? = some c → (pick S is)[j]? = some c := fun j i c e1 e2 => by
    rw [pick_get, e1]
    simp [List.getD_eq_getElem?_getD, e2]
  generalize hρe : (is.map fun i => ρ.getD i 0) = ρ' at hρ hρ2
  generalize hLe : pick S is = L at hc hL hL2
  have hρl : ρ'.length = is.length := by rw [← hρe, List.length_map]
  have hLl : L.length = is.length := by rw [← hLe, pick_len]
  let F' : Addr → Prop := fun a => Live (G.frm F) S ρ a ∧ ∀ (j : Nat) (c : Cell), ρ'[j]? = some a → L[j]? = some c → c = .dead
  have lv1 : ∀ a, Live (G.frm F') L ρ' a → Live (G.frm F) S ρ a := fun a l => by
    rcases l with l | ⟨j, c, h1, h2, h3⟩
    · exact l.1
    · obtain ⟨i, e1, e2, _⟩ := hρ j a h1
      obtain ⟨i', e3, e4⟩ := hL j c h2
      rw [e1] at e3; cases e3
      exact .inr ⟨i, c, e2, e4, h3⟩
  have lv2 : ∀ a, Live (G.frm F) S ρ a → Live (G.frm F') L ρ' a := fun a l => by
    by_cases q : ∃ (j : Nat) (c : Cell), ρ'[j]? = some a ∧ L[j]? = some c ∧ c ≠ .dead
    · obtain ⟨j, c, h1, h2, h3⟩ := q
      exact .inr ⟨j, c, h1, h2, h3⟩
    · exact .inl ⟨l, fun j c h1 h2 => Classical.byContradiction fun h3 => q ⟨j, c, h1, h2, h3⟩⟩
  have fF : ∀ a, F a → F' a := fun a h => ⟨.inl h, fun j c h1 h2 => Classical.byContradiction fun h3 => by
    obtain ⟨i, e1, e2, _⟩ := hρ j a h1
    obtain ⟨i', e3, e4⟩ := hL j c h2
    rw [e1] at e3; cases e3
    exact sim.nfr i a c e2 e4 h3 h⟩
  have s1 : Sim (G.frm F') L ρ' H := by
    refine ⟨by rw [hρl, hLl], fun n a c h1 h2 => ?_, fun n m a c c' h1 h2 h3 h4 h5 h6 => ?_, fun n a c h1 h2 h3 h4 => h3 (h4.2 n c h1 h2), fun a h => sim.live_there h.1⟩
    · obtain ⟨i, e1, e2, _⟩ := hρ n a h1
      obtain ⟨i', e3, e4⟩ := hL n c h2
      rw [e1] at e3; cases e3
      exact ((sim.ok i a c e2 e4).trim (n := 0) lv1 (fun m a hm => absurd hm (Nat.not_lt_zero _)) (belS_get hc h2)).frm
    · obtain ⟨i, e1, e2, _⟩ := hρ n a h1
      obtain ⟨i', e3, e4⟩ := hL n c h3
      obtain ⟨j, g1, g2, _⟩ := hρ m a h2
      obtain ⟨j', g3, g4⟩ := hL m c' h5
      rw [e1] at e3; cases e3
      rw [g1] at g3; cases g3
      have := sim.inj i j a c c' e2 g2 e4 h4 g4 h6
      subst this
      exact (List.getElem?_inj (List.getElem?_eq_some_iff.mp e1).1 nd).mp (e1.trans g1.symm)
  have hp1 : ∀ (j : Nat) a, j < is.length → ρ[is.getD j 0]? = some a → ρ'[j]? = some a := fun j a hj e => by
    have e1 : is[j]? = some (is.getD j 0) := by rw [List.getD_eq_getElem?_getD, List.getElem?_eq_getElem hj]; rfl
    exact hρ2 j _ a e1 e
  have back : ∀ L' ρ'' H', L'.length = is.length → belS 0 L' = true → Sim (G.frm F') L' ρ'' H' → Stp (G.frm F') L L' ρ' ρ'' H H' →
      ρ'' = ρ' ∧ Sim (G.frm F) (putB S is L') ρ H' ∧ Stp (G.frm F) S (putB S is L') ρ ρ H H' ∧ ∀ a, Live (G.frm F) (putB S is L') ρ a → Live (G.frm F') L' ρ' a := fun L' ρ'' H' hl hb s t => by
    have e : ρ'' = ρ' := by
      apply List.ext_getElem?
      intro n
      by_cases hn : n < ρ'.length
      · rw [List.getElem?_eq_getElem hn]
        exact t.pre n _ (List.getElem?_eq_getElem hn)
      · rw [List.getElem?_eq_none (by rw [s.len, hl, ← hρl]; omega), List.getElem?_eq_none (by omega)]
    subst e
    have pin : ∀ (n : Nat), n ∈ is → ∃ j : Nat, is[j]? = some n ∧ (putB S is L')[n]? = L'[j]? := fun n hn => by
      obtain ⟨j, e1⟩ := List.mem_iff_getElem?.mp hn
      exact ⟨j, e1, putB_in nd hl e1 (hi n hn)⟩
    -- a live cell outside stays out of reach
    have out : ∀ (n : Nat) a c, n ∉ is → ρ[n]? = some a → S[n]? = some c → c ≠ .dead → F' a := fun n a c hn h1 h2 h3 => ⟨.inr ⟨n, c, h1, h2, h3⟩, fun j c' g1 g2 => Classical.byContradiction fun g3 => by
      obtain ⟨i, e1, e2, _⟩ := hρ j a g1
      obtain ⟨i', e3, e4⟩ := hL j c' g2
      rw [e1] at e3; cases e3
      have := sim.inj n i a c c' h1 e2 h2 h3 e4 g3
      subst this
      exact hn (List.mem_of_getElem? e1)⟩
    have lv3 : ∀ a, Live (G.frm F) (putB S is L') ρ a → Live (G.frm F') L' ρ'' a := fun a l => by
      rcases l with l | ⟨n, c, h1, h2, h3⟩
      · exact .inl (fF a l)
      · by_cases hn : n ∈ is
        · obtain ⟨j, e1, e2⟩ := pin n hn
          exact .inr ⟨j, c, hρ2 j n a e1 h1, e2 ▸ h2, h3⟩
        · rw [putB_out hn] at h2
          exact .inl (out n a c hn h1 h2 h3)
    have kp : Keep (Live (G.frm F) S ρ) (Live (G.frm F) (putB S is L') ρ) H H' := ⟨fun a o h n => let ⟨h1, n1⟩ := t.keep.keep a o h (fun q => n (lv1 a q)); ⟨h1, fun q => n1 (lv3 a q)⟩⟩
    refine ⟨rfl, ⟨by rw [putB_len]; exact sim.len, fun n a c h1 h2 => ?_, fun n m a c c' h1 h2 h3 h4 h5 h6 => ?_, fun n a c h1 h2 h3 h4 => ?_, fun a h => ?_⟩, ⟨fun _ _ h => h, kp, fun a h => t.fr a (fF a h)⟩, lv3⟩
    · by_cases hn : n ∈ is
      · obtain ⟨j, e1, e2⟩ := pin n hn
        rw [e2] at h2
        exact ((s.ok j a c (hρ2 j n a e1 h1) h2).trim (n := 0) lv3 (fun m a hm => absurd hm (Nat.not_lt_zero _)) (belS_get hb h2)).frm
      · rw [putB_out hn] at h2
        exact (sim.ok n a c h1 h2).keep kp (fun _ _ h => h) fun nd' o h => by rw [t.fr a (out n a c hn h1 h2 nd')]; exact h
    · by_cases hn : n ∈ is
      · obtain ⟨j, e1, e2⟩ := pin n hn
        rw [e2] at h3
        by_cases hm : m ∈ is
        · obtain ⟨j', g1, g2⟩ := pin m hm
          rw [g2] at h5
          have := s.inj j j' a c c' (hρ2 j n a e1 h1) (hρ2 j' m a g1 h2) h3 h4 h5 h6
          subst this
          rw [e1] at g1
          exact Option.some.inj g1
        · rw [putB_out hm] at h5
          exact absurd (out m a c' hm h2 h5 h6) (s.nfr j a c (hρ2 j n a e1 h1) h3 h4)
      · rw [putB_out hn] at h3
        by_cases hm : m ∈ is
        · obtain ⟨j', g1, g2⟩ := pin m hm
          rw [g2] at h5
          exact absurd (out n a c hn h1 h3 h4) (s.nfr j' a c' (hρ2 j' m a g1 h2) h5 h6)
        · rw [putB_out hm] at h5
          exact sim.inj n m a c c' h1 h2 h3 h4 h5 h6
    · by_cases hn : n ∈ is
      · obtain ⟨j, e1, e2⟩ := pin n hn
        rw [e2] at h2
        exact s.nfr j a c (hρ2 j n a e1 h1) h2 h3 (fF a h4)
      · rw [putB_out hn] at h2
        exact sim.nfr n a c h1 h2 h3 h4
    · obtain ⟨o, q1, q2⟩ := sim.frt a h
      exact ⟨o, (t.fr a (fF a h)).trans q1, q2⟩
  have hp2 : ∀ (j : Nat) a, ρ'[j]? = some a → ρ[is.getD j 0]? = some a := fun j a e => by
    obtain ⟨i, e1, e2, _⟩ := hρ j a e
    rw [List.getD_eq_getElem?_getD, e1]
    exact e2
  refine ⟨F', ρ', s1, (RVs.ren lv1 hp1 ha rv).frm, ?_, ?_⟩
  · rintro d L' ρ'' H' r ⟨hl, hb, q⟩ s t v
    obtain ⟨rfl, s2, t2, lv3⟩ := back L' ρ'' H' hl hb s t
    exact fin _ _ ρ H' r q s2 t2 (RV.back lv3 hp2 v).frm
  · rintro d L' ρ'' H' cls dx ⟨hl, hb, q⟩ s t v
    obtain ⟨rfl, s2, t2, lv3⟩ := back L' ρ'' H' hl hb s t
    cases d with
    | exc c ns fs =>
      cases ns with
      | nil => exact fx _ _ ρ H' cls dx q s2 t2 v
      | cons n ns =>
      cases fs with
      | nil =>
        obtain ⟨e1, a, fl, e2, n1, h1, h2⟩ := v
        cases h2
      | cons f fs =>
      obtain ⟨e1, a, fl, e2, n1, h1, h2⟩ := v
      exact fx _ _ ρ H' cls dx q s2 t2 ⟨e1, a, fl, e2, fun q => n1 (lv3 a q), h1, (RFs.back lv3 hp2 h2).frm⟩
    | _ => exact v.elim
end
end DL

set_option maxHeartbeats 1000000
/-! DL 6jn: a call at a part of the store that makes new cells -/
namespace DL
open PySem PySem.Spec PyProof.Rows L2
section
variable {G : Gd} {k f : Nat} {S : Store} {Q E : QD} {args : List D} {is : List Nat}
/-- the places of the local cells among the caller's -/
abbrev isN (is : List Nat) (m n : Nat) : List Nat := is ++ List.range' m n
theorem callP_frmN (nd : is.Nodup) (hi : ∀ i ∈ is, i < S.length) (hc : belS 0 (pick S is) = true) (ha : bels is.length args = true)
    (h : CallP G k f args (pick S is) (fun d L' => ∃ L1 N, L' = L1 ++ N ∧ L1.length = is.length ∧ belS 0 L' = true ∧ Q (ren (isN is S.length N.length) d) (putB S is L1 ++ N)) (fun d L' => ∃ L1 N, L' = L1 ++ N ∧ L1.length = is.length ∧ belS 0 L' = true ∧ E (ren (isN is S.length N.length) d) (putB S is L1 ++ N))) : CallP G k f (rens is args) S Q E := by
  obtain ⟨ps, FO, B⟩ := callP_e h
  refine callP_i ⟨ps, FO.imp (fun vs H Qv Ev ⟨F, ρ, sim, rv, fin, fx⟩ => ?_), B⟩
  have hρ : ∀ (j : Nat) a, (is.map fun i => ρ.getD i 0)[j]? = some a → ∃ i, is[j]? = some i ∧ ρ[i]? = some a ∧ i < S.length := fun j a e => by
    rw [List.getElem?_map] at e
    obtain ⟨i, e1, e2⟩ := Option.map_eq_some_iff.mp e
    have hl := hi i (List.mem_of_getElem? e1)
    refine ⟨i, e1, ?_, hl⟩
    rw [List.getD_eq_getElem?_getD] at e2
    rw [List.getElem?_eq_getElem (by rw [sim.len]; exact hl)] at e2 ⊢
    simpa using e2
  have hρ2 : ∀ (j i : Nat) a, is[j]? = some i → ρ[i]? = some a → (is.map fun i => ρ.getD i 0)[j]? = some a := fun j i a e1 e2 => by
    rw [List.getElem?_map, e1]
    simp [List.getD_eq_getElem?_getD, e2]
  have hL : ∀ (j : Nat) c, (pick S is)[j]? = some c → ∃ i, is[j]? = some i ∧ S[i]? = some c := fun j c e => by
    rw [pick_get] at e
    obtain ⟨i, e1, e2⟩ := Option.map_eq_some_iff.mp e
    have hl := hi i (List.mem_of_getElem? e1)
    refine ⟨i, e1, ?_⟩
    rw [List.getD_eq_getElem?_getD] at e2
    rw [List.getElem?_eq_getElem hl] at e2 ⊢
    simpa using e2
  generalize hρe : (is.map fun i => ρ.getD i 0) = ρ' at hρ hρ2
  generalize hLe : pick S is = L at hc hL
  have hρl : ρ'.length = is.length := by rw [← hρe, List.length_map]
  have hLl : L.length = is.length := by rw [← hLe, pick_len]
  let F' : Addr → Prop := fun a => Live (G.frm F) S ρ a ∧ ∀ (j : Nat) (c : Cell), ρ'[j]? = some a → L[j]? = some c → c = .dead
  have lv1 : ∀ a, Live (G.frm F') L ρ' a → Live (G.frm F) S ρ a := fun a l => by
    rcases l with l | ⟨j, c, h1, h2, h3⟩
    · exact l.1
    · obtain ⟨i, e1, e2, _⟩ := hρ j a h1
      obtain ⟨i', e3, e4⟩ := hL j c h2
      rw [e1] at e3; cases e3
      exact .inr ⟨i, c, e2, e4, h3⟩
  have fF : ∀ a, F a → F' a := fun a h => ⟨.inl h, fun j c h1 h2 => Classical.byContradiction fun h3 => by
    obtain ⟨i, e1, e2, _⟩ := hρ j a h1
    obtain ⟨i', e3, e4⟩ := hL j c h2
    rw [e1] at e3; cases e3
    exact sim.nfr i a c e2 e4 h3 h⟩
  have s1 : Sim (G.frm F') L ρ' H := by
    refine ⟨by rw [hρl, hLl], fun n a c h1 h2 => ?_, fun n m a c c' h1 h2 h3 h4 h5 h6 => ?_, fun n a c h1 h2 h3 h4 => h3 (h4.2 n c h1 h2), fun a h => sim.live_there h.1⟩
    · obtain ⟨i, e1, e2, _⟩ := hρ n a h1
      obtain ⟨i', e3, e4⟩ := hL n c h2
      rw [e1] at e3; cases e3
      exact ((sim.ok i a c e2 e4).trim (n := 0) lv1 (fun m a hm => absurd hm (Nat.not_lt_zero _)) (belS_get hc h2)).frm
    · obtain ⟨i, e1, e2, _⟩ := hρ n a h1
      obtain ⟨i', e3, e4⟩ := hL n c h3
      obtain ⟨j, g1, g2, _⟩ := hρ m a h2
      obtain ⟨j', g3, g4⟩ := hL m c' h5
      rw [e1] at e3; cases e3
      rw [g1] at g3; cases g3
      have := sim.inj i j a c c' e2 g2 e4 h4 g4 h6
      subst this
      exact (List.getElem?_inj (List.getElem?_eq_some_iff.mp e1).1 nd).mp (e1.trans g1.symm)
  have hp1 : ∀ (j : Nat) a, j < is.length → ρ[is.getD j 0]? = some a → ρ'[j]? = some a := fun j a hj e => by
    have e1 : is[j]? = some (is.getD j 0) := by rw [List.getD_eq_getElem?_getD, List.getElem?_eq_getElem hj]; rfl
    exact hρ2 j _ a e1 e
  have back : ∀ L' L1 N ρ'' H', L' = L1 ++ N → L1.length = is.length → belS 0 L' = true → Sim (G.frm F') L' ρ'' H' → Stp (G.frm F') L L' ρ' ρ'' H H' →
      ∃ ν : List Addr, Sim (G.frm F) (putB S is L1 ++ N) (ρ ++ ν) H' ∧ Stp (G.frm F) S (putB S is L1 ++ N) ρ (ρ ++ ν) H H' ∧ (∀ a, Live (G.frm F) (putB S is L1 ++ N) (ρ ++ ν) a → Live (G.frm F') L' ρ'' a) ∧
        ∀ (j : Nat) a, ρ''[j]? = some a → (ρ ++ ν)[(isN is S.length N.length).getD j 0]? = some a := fun L' L1 N ρ'' H' eL hl hb s t => by
    subst eL
    have sl := s.len
    rw [List.length_append, hl] at sl
    have el := sim.len
    refine ⟨ρ''.drop is.length, ?_⟩
    have eρ : ∀ n, n < is.length → ρ''[n]? = ρ'[n]? := fun n hn => by
      rw [List.getElem?_eq_getElem (l := ρ') (by omega)]
      exact t.pre n _ (List.getElem?_eq_getElem (by omega))
    have nl : (ρ''.drop is.length).length = N.length := by rw [List.length_drop, sl]; omega
    have nu : ∀ i, (ρ ++ ρ''.drop is.length)[S.length + i]? = ρ''[is.length + i]? := fun i => by
      rw [List.getElem?_append_right (by omega), List.getElem?_drop]
      congr 1
      omega
    have nn : ∀ i, (putB S is L1 ++ N)[S.length + i]? = (L1 ++ N)[is.length + i]? := fun i => by
      rw [List.getElem?_append_right (by rw [putB_len]; omega), putB_len, List.getElem?_append_right (by omega), hl]
      congr 1
      omega
    have lo : ∀ n, n < S.length → (ρ ++ ρ''.drop is.length)[n]? = ρ[n]? ∧ (putB S is L1 ++ N)[n]? = (putB S is L1)[n]? := fun n hn => ⟨List.getElem?_append_left (by omega), List.getElem?_append_left (by rw [putB_len]; exact hn)⟩
    -- inside: a cell of the callee's
    have pin : ∀ n a c, (n ∈ is ∨ S.length ≤ n) → (ρ ++ ρ''.drop is.length)[n]? = some a → (putB S is L1 ++ N)[n]? = some c → ∃ j : Nat, (isN is S.length N.length)[j]? = some n ∧ ρ''[j]? = some a ∧ (L1 ++ N)[j]? = some c := fun n a c hn h1 h2 => by
      rcases hn with hn | hn
      · have hlt := hi n hn
        obtain ⟨j, e1⟩ := List.mem_iff_getElem?.mp hn
        have hj := (List.getElem?_eq_some_iff.mp e1).1
        rw [(lo n hlt).1] at h1
        rw [(lo n hlt).2, putB_in nd hl e1 hlt] at h2
        exact ⟨j, by rw [List.getElem?_append_left hj]; exact e1, by rw [eρ j hj]; exact hρ2 j n a e1 h1, by rw [List.getElem?_append_left (by omega)]; exact h2⟩
      · obtain ⟨i, rfl⟩ : ∃ i, n = S.length + i := ⟨n - S.length, by omega⟩
        rw [nu i] at h1
        rw [nn i] at h2
        have hlt := (List.getElem?_eq_some_iff.mp h2).1
        rw [List.length_append, hl] at hlt
        refine ⟨is.length + i, ?_, h1, h2⟩
        rw [List.getElem?_append_right (by omega), Nat.add_sub_cancel_left, List.getElem?_range' (by omega)]
        simp
    have outN : ∀ n, ¬ (n ∈ is ∨ S.length ≤ n) → n < S.length ∧ n ∉ is ∧ (ρ ++ ρ''.drop is.length)[n]? = ρ[n]? ∧ (putB S is L1 ++ N)[n]? = S[n]? := fun n hn => by
      have h1 : n < S.length := Nat.lt_of_not_le fun q => hn (.inr q)
      have h2 : n ∉ is := fun q => hn (.inl q)
      exact ⟨h1, h2, (lo n h1).1, by rw [(lo n h1).2, putB_out h2]⟩
    have ndN : (isN is S.length N.length).Nodup := List.nodup_append.mpr ⟨nd, List.nodup_range', fun x hx y hy e => by
      have := hi x hx
      have := List.mem_range'_1.mp hy
      omega⟩
    have inj2 : ∀ {j j' n m : Nat}, (isN is S.length N.length)[j]? = some n → (isN is S.length N.length)[j']? = some m → j = j' → n = m := fun {j j' n m} h1 h2 e => by
      subst e
      rw [h1] at h2
      exact Option.some.inj h2
    have out : ∀ (n : Nat) a c, ¬ (n ∈ is ∨ S.length ≤ n) → ρ[n]? = some a → S[n]? = some c → c ≠ .dead → F' a := fun n a c hn h1 h2 h3 => ⟨.inr ⟨n, c, h1, h2, h3⟩, fun j c' g1 g2 => Classical.byContradiction fun g3 => by
      obtain ⟨i, e1, e2, _⟩ := hρ j a g1
      obtain ⟨i', e3, e4⟩ := hL j c' g2
      rw [e1] at e3; cases e3
      have := sim.inj n i a c c' h1 e2 h2 h3 e4 g3
      subst this
      exact hn (.inl (List.mem_of_getElem? e1))⟩
    have lv3 : ∀ a, Live (G.frm F) (putB S is L1 ++ N) (ρ ++ ρ''.drop is.length) a → Live (G.frm F') (L1 ++ N) ρ'' a := fun a l => by
      rcases l with l | ⟨n, c, h1, h2, h3⟩
      · exact .inl (fF a l)
      · by_cases hn : n ∈ is ∨ S.length ≤ n
        · obtain ⟨j, _, e1, e2⟩ := pin n a c hn h1 h2
          exact .inr ⟨j, c, e1, e2, h3⟩
        · obtain ⟨_, _, e1, e2⟩ := outN n hn
          rw [e1] at h1
          rw [e2] at h2
          exact .inl (out n a c hn h1 h2 h3)
    have pre : ∀ (n : Nat) a, ρ[n]? = some a → (ρ ++ ρ''.drop is.length)[n]? = some a := fun _ _ h => get_pre h
    have kp : Keep (Live (G.frm F) S ρ) (Live (G.frm F) (putB S is L1 ++ N) (ρ ++ ρ''.drop is.length)) H H' := ⟨fun a o h n => let ⟨h1, n1⟩ := t.keep.keep a o h (fun q => n (lv1 a q)); ⟨h1, fun q => n1 (lv3 a q)⟩⟩
    refine ⟨⟨by rw [List.length_append, List.length_append, putB_len, el, nl], fun n a c h1 h2 => ?_, fun n m a c c' h1 h2 h3 h4 h5 h6 => ?_, fun n a c h1 h2 h3 h4 => ?_, fun a h => ?_⟩, ⟨pre, kp, fun a h => t.fr a (fF a h)⟩, lv3, fun j a hj => ?_⟩
    · by_cases hn : n ∈ is ∨ S.length ≤ n
      · obtain ⟨j, _, e1, e2⟩ := pin n a c hn h1 h2
        exact ((s.ok j a c e1 e2).trim (n := 0) lv3 (fun m a hm => absurd hm (Nat.not_lt_zero _)) (belS_get hb e2)).frm
      · obtain ⟨_, _, e1, e2⟩ := outN n hn
        rw [e1] at h1
        rw [e2] at h2
        exact (sim.ok n a c h1 h2).keep kp pre fun nd' o h => by rw [t.fr a (out n a c hn h1 h2 nd')]; exact h
    · by_cases hn : n ∈ is ∨ S.length ≤ n
      · obtain ⟨j, k1, e1, e2⟩ := pin n a c hn h1 h3
        by_cases hm : m ∈ is ∨ S.length ≤ m
        · obtain ⟨j', k2, g1, g2⟩ := pin m a c' hm h2 h5
          exact inj2 k1 k2 (s.inj j j' a c c' e1 g1 e2 h4 g2 h6)
        · obtain ⟨_, _, g1, g2⟩ := outN m hm
          rw [g1] at h2
          rw [g2] at h5
          exact absurd (out m a c' hm h2 h5 h6) (s.nfr j a c e1 e2 h4)
      · obtain ⟨_, _, e1, e2⟩ := outN n hn
        rw [e1] at h1
        rw [e2] at h3
        by_cases hm : m ∈ is ∨ S.length ≤ m
        · obtain ⟨j', _, g1, g2⟩ := pin m a c' hm h2 h5
          exact absurd (out n a c hn h1 h3 h4) (s.nfr j' a c' g1 g2 h6)
        · obtain ⟨_, _, g1, g2⟩ := outN m hm
          rw [g1] at h2
          rw [g2] at h5
          exact sim.inj n m a c c' h1 h2 h3 h4 h5 h6
    · by_cases hn : n ∈ is ∨ S.length ≤ n
      · obtain ⟨j, _, e1, e2⟩ := pin n a c hn h1 h2
        exact s.nfr j a c e1 e2 h3 (fF a h4)
      · obtain ⟨_, _, e1, e2⟩ := outN n hn
        rw [e1] at h1
        rw [e2] at h2
        exact sim.nfr n a c h1 h2 h3 h4
    · obtain ⟨o, q1, q2⟩ := sim.frt a h
      exact ⟨o, (t.fr a (fF a h)).trans q1, q2⟩
    · by_cases hlt : j < is.length
      · rw [eρ j hlt] at hj
        obtain ⟨i, e1, e2, hli⟩ := hρ j a hj
        rw [List.getD_eq_getElem?_getD, List.getElem?_append_left hlt, e1]
        show (ρ ++ _)[i]? = _
        rw [(lo i hli).1]
        exact e2
      · obtain ⟨i, rfl⟩ : ∃ i, j = is.length + i := ⟨j - is.length, by omega⟩
        have := (List.getElem?_eq_some_iff.mp hj).1
        have e1 : (isN is S.length N.length).getD (is.length + i) 0 = S.length + i := by
          rw [List.getD_eq_getElem?_getD, List.getElem?_append_right (by omega), Nat.add_sub_cancel_left, List.getElem?_range' (by omega)]
          simp
        rw [e1, nu i]
        exact hj
  refine ⟨F', ρ', s1, (RVs.ren lv1 hp1 ha rv).frm, ?_, ?_⟩
  · rintro d L' ρ'' H' r ⟨L1, N, eL, hl, hb, q⟩ s t v
    obtain ⟨ν, s2, t2, lv3, hp2⟩ := back L' L1 N ρ'' H' eL hl hb s t
    exact fin _ _ _ H' r q s2 t2 (RV.back lv3 hp2 v).frm
  · rintro d L' ρ'' H' cls dx ⟨L1, N, eL, hl, hb, q⟩ s t v
    obtain ⟨ν, s2, t2, lv3, hp2⟩ := back L' L1 N ρ'' H' eL hl hb s t
    cases d with
    | exc c ns fs =>
      cases ns with
      | nil => exact fx _ _ _ H' cls dx q s2 t2 v
      | cons n ns =>
      cases fs with
      | nil =>
        obtain ⟨e1, a, fl, e2, n1, h1, h2⟩ := v
        cases h2
      | cons f fs =>
      obtain ⟨e1, a, fl, e2, n1, h1, h2⟩ := v
      exact fx _ _ _ H' cls dx q s2 t2 ⟨e1, a, fl, e2, fun q => n1 (lv3 a q), h1, (RFs.back lv3 hp2 h2).frm⟩
    | _ => exact v.elim
theorem callP_imp {Q' E' : QD} (hq : ∀ d S, Q d S → Q' d S) (he : ∀ d S, E d S → E' d S) (h : CallP G k f args S Q E) : CallP G k f args S Q' E' := by
  obtain ⟨ps, FO, B⟩ := callP_e h
  exact callP_i ⟨ps, FO.imp (fun vs H Qv Ev ⟨F, ρ, sim, rv, fin, fx⟩ => ⟨F, ρ, sim, rv, fun d L' ρ' H' r p => fin d L' ρ' H' r (hq _ _ p), fun d L' ρ' H' cl dx p => fx d L' ρ' H' cl dx (he _ _ p)⟩), B⟩
/-- a call of data that makes one new cell, and gives it -/
theorem call_new1 (ha : bels 0 args = true) (he : rens [] args = args)
    (h : CallP G k f args [] (fun d L' => ∃ c, d = .ref 0 ∧ L' = [c] ∧ belC 0 c = true ∧ Q (.ref S.length) (S ++ [c])) (fun d L' => L' = [] ∧ E (ren [] d) S)) : CallP G k f args S Q E := by
  have := callP_frmN (S := S) (is := []) (Q := Q) (E := E) (args := args) (f := f) (k := k) (G := G) List.nodup_nil (fun _ h => (List.not_mem_nil h).elim) rfl ha (callP_imp (fun d L' ⟨c, e1, e2, e3, q⟩ => ⟨[], [c], e2, rfl, by rw [e2]; show (belC 0 c && true) = true; rw [e3]; rfl, by rw [e1]; exact q⟩) (fun d L' ⟨e1, q⟩ => ⟨[], [], e1, rfl, by rw [e1]; rfl, by show E _ (putB S [] [] ++ []); rw [List.append_nil]; exact q⟩) h)
  rw [he] at this
  exact this
/-- a call that is handed one cell, and makes one new cell, and gives it -/
theorem call_at1N {j : Nat} {c0 : Cell} {args' : List D} (hj : S[j]? = some c0) (hc : belC 0 c0 = true) (ha : bels 1 args = true) (he : rens [j] args = args')
    (h : CallP G k f args [c0] (fun d L' => ∃ c1 c, d = .ref 1 ∧ L' = [c1, c] ∧ belC 0 c1 = true ∧ belC 0 c = true ∧ Q (.ref S.length) (S.set j c1 ++ [c])) (fun d L' => ∃ c1, L' = [c1] ∧ belC 0 c1 = true ∧ E (ren [j] d) (S.set j c1))) : CallP G k f args' S Q E := by
  rw [← he]
  have hp : pick S [j] = [c0] := by
    unfold pick pick
    rw [List.getD_eq_getElem?_getD, hj]
    rfl
  refine callP_frmN (is := [j]) (by simp) (by intro i hi; simp at hi; subst hi; exact (List.getElem?_eq_some_iff.mp hj).1) (by rw [hp]; show (belC 0 c0 && true) = true; rw [hc]; rfl) ha ?_
  rw [hp]
  refine callP_imp (fun d L' ⟨c1, c, e1, e2, e3, e4, q⟩ => ⟨[c1], [c], e2, rfl, ?_, ?_⟩) (fun d L' ⟨c1, e2, e3, q⟩ => ⟨[c1], [], e2, rfl, ?_, ?_⟩) h
  · rw [e2]; show (belC 0 c1 && (belC 0 c && true)) = true; rw [e3, e4]; rfl
  · rw [e1]; exact q
  · rw [e2]; show (belC 0 c1 && true) = true; rw [e3]; rfl
  · show E _ (putB S [j] [c1] ++ [])
    rw [List.append_nil]
    exact q
end
end DL

set_option maxHeartbeats 1000000
/-! DL 8: statements -/
namespace DL
open PySem PySem.Spec PyProof.Rows L2
/-- a def's context -/
structure FOk (G : Gd) (N : List Str) (sc : Scope) (k : Nat) (X : Cx) : Prop extends XOk G N sc k X where
  fnx : ∀ x, X.fn x = true
  kind : X.env.scope.kind = .function
  own : PassesOwn (model X.prog X.w) X.A X.env X.xe
  hs : X.stack = X.env :: X.outer
  hf : X.env.frame = some X.env.locals
/-- from the data's ends to the values' -/
structure EndOk (G : Gd) (W : WX) (P : Post) (D : Ends) (S : Store) (ρ : List Addr) (H : Hp) : Prop where
  nx : ∀ τ' S' σ' ρ' H', P.nx τ' S' → At G τ' S' ρ' σ' H' → Stp G S S' ρ ρ' H H' → D.nx σ' H'
  rt : Fin G S ρ H P.rt D.rt
  bk : ∀ τ' S' σ' ρ' H', P.bk τ' S' → At G τ' S' ρ' σ' H' → Stp G S S' ρ ρ' H H' → D.bk σ' H'
  ct : ∀ τ' S' σ' ρ' H', P.ct τ' S' → At G τ' S' ρ' σ' H' → Stp G S S' ρ ρ' H H' → D.ct σ' H'
  ex : ∀ τ' S' σ' ρ' H', At G τ' S' ρ' σ' H' → Stp G S S' ρ ρ' H H' → FinX G S' ρ' H' (P.ex τ') (WE W σ')
theorem EndOk.step {G : Gd} {W : WX} {P : Post} {D : Ends} {S S1 : Store} {ρ ρ1 : List Addr} {H H1 : Hp} (e : EndOk G W P D S ρ H) (t : Stp G S S1 ρ ρ1 H H1) : EndOk G W P D S1 ρ1 H1 :=
  ⟨fun τ' S' σ' ρ' H' p a t2 => e.nx τ' S' σ' ρ' H' p a (t.trans t2), e.rt.step t, fun τ' S' σ' ρ' H' p a t2 => e.bk τ' S' σ' ρ' H' p a (t.trans t2), fun τ' S' σ' ρ' H' p a t2 => e.ct τ' S' σ' ρ' H' p a (t.trans t2),
    fun τ' S' σ' ρ' H' a t2 => e.ex τ' S' σ' ρ' H' a (t.trans t2)⟩
def rdB1 (G : Gd) (T : Tab) (O : Orc) (W : WX) (s : IS) : TS := fun D σ H => ∃ F τ S ρ P, At (G.frm F) τ S ρ σ H ∧ wpS T O s P τ S ∧ EndOk (G.frm F) W P D S ρ H
def rdBs (G : Gd) (T : Tab) (O : Orc) (W : WX) (ss : List IS) : TS := fun D σ H => ∃ F τ S ρ P, At (G.frm F) τ S ρ σ H ∧ wpSs T O ss P τ S ∧ EndOk (G.frm F) W P D S ρ H
theorem PS.of {X : Cx} {s : Stmt} {t t' : TS} (h : PS X s t) (m : ∀ D σ H, t' D σ H → t D σ H) : PS X s t' := ⟨fun pins s σ H D I q => h.run pins s σ H D I (m D σ H q)⟩
theorem PSs.of {X : Cx} {s : List Stmt} {t t' : TS} (h : PSs X s t) (m : ∀ D σ H, t' D σ H → t D σ H) : PSs X s t' := ⟨fun pins s σ H D I q => h.run pins s σ H D I (m D σ H q)⟩
theorem setS_length : ∀ (τ : Sl) (i : Nat) (d : D), (setS τ i d).length = τ.length
  | [], _, _ => rfl
  | _ :: _, 0, _ => rfl
  | _ :: r, i + 1, d => by show (setS r i d).length + 1 = _; rw [setS_length r i d]; rfl
theorem getS_setS_same : ∀ {τ : Sl} {i : Nat} {d d1 : D}, getS τ i = some d → getS (setS τ i d1) i = some d1
  | [], _, _, _, h => by simp [getS] at h
  | _ :: _, 0, _, _, _ => rfl
  | _ :: r, i + 1, d, d1, h => getS_setS_same (τ := r) (i := i) (d := d) h
theorem getS_setS_ne : ∀ {τ : Sl} {i j : Nat} {d1 : D}, j ≠ i → getS (setS τ i d1) j = getS τ j
  | [], _, _, _, _ => rfl
  | _ :: _, 0, 0, _, h => absurd rfl h
  | _ :: _, 0, _ + 1, _, _ => rfl
  | _ :: _, _ + 1, 0, _, _ => rfl
  | _ :: r, i + 1, j + 1, d1, h => getS_setS_ne (τ := r) fun e => h (by rw [e])
theorem fg_ok {G : Gd} {n0 : Nat} {S0 : Store} {ρ0 : List Addr} {H0 : Hp} {τ τ2 : Sl} {S S2 : Store} {σ : L2.St} {H : Hp} (g : Fg n0 τ S τ2 S2) : ∀ {ρ : List Addr}, n0 = S0.length → ρ0.length = S0.length → At G τ S ρ σ H → Stp G S0 S ρ0 ρ H0 H →
    ∃ ρ2, At G τ2 S2 ρ2 σ H ∧ Stp G S0 S2 ρ0 ρ2 H0 H := by
  have sbl : ∀ (n : Nat) (x : D) (τ : Sl) (i : Nat) (d : D), getS (sbSl n x τ) i = some d → ∃ d0, getS τ i = some d0 ∧ d = sbD n x d0 := by
    intro n x τ
    induction τ with
    | nil => intro i d h; simp [sbSl, getS] at h
    | cons a r ih =>
      intro i d h
      cases a with
      | none =>
        cases i with
        | zero => simp [sbSl, getS] at h
        | succ i => exact ih i d (by simpa [sbSl, getS] using h)
      | some a =>
        cases i with
        | zero => simp only [sbSl, getS, Option.some.injEq] at h; exact ⟨a, rfl, h.symm⟩
        | succ i => exact ih i d (by simpa [sbSl, getS] using h)
  have sbl_len : ∀ (n : Nat) (x : D) (τ : Sl), (sbSl n x τ).length = τ.length := by
    intro n x τ
    induction τ with
    | nil => rfl
    | cons a r ih => cases a <;> simp [sbSl, ih]
  have bell : ∀ (n : Nat) (τ : Sl) (i : Nat) (d : D), belSl n τ = true → getS τ i = some d → bel n d = true := by
    intro n τ
    induction τ with
    | nil => intro i d _ h; simp [getS] at h
    | cons a r ih =>
      intro i d b h
      cases a with
      | none =>
        cases i with
        | zero => simp [getS] at h
        | succ i => exact ih i d b h
      | some a =>
        simp only [belSl, Bool.and_eq_true] at b
        cases i with
        | zero => simp only [getS, Option.some.injEq] at h; subst h; exact b.1
        | succ i => exact ih i d b.2 h
  induction g with
  | refl => exact fun _ _ a t => ⟨_, a, t⟩
  | frz n c x h e t ih =>
    intro ρ e0 l0 a st
    have hx : ∀ b, ρ[n]? = some b → RVl G _ ρ H x (.ref b) := fun b hb => a.sim.frzX h e hb
    have s2 := (a.sim.kill n).sb hx
    refine ih e0 l0 ⟨s2, by rw [sbl_len]; exact a.len, fun i d hd => ?_⟩ ((st.trans Stp.kill).trans Stp.sb)
    obtain ⟨d0, g1, rfl⟩ := sbl _ _ _ _ _ hd
    obtain ⟨u, h1, h2⟩ := a.sl i d0 g1
    exact ⟨u, h1, (RV.sb hx (Stp.kill.rv h2)).live fun a => sb_live.mp⟩
  | trim A T e l b c t ih =>
    intro ρ e0 l0 a st
    subst e
    refine ih e0 l0 ⟨a.sim.trim b, a.len, fun i d hd => ?_⟩ ⟨fun n x h => ?_, ⟨fun x o h l => ?_⟩, st.fr⟩
    · obtain ⟨u, h1, h2⟩ := a.sl i d hd
      exact ⟨u, h1, a.sim.trimV (bell _ _ _ _ c hd) h2⟩
    · have := (List.getElem?_eq_some_iff.mp h).1
      rw [List.getElem?_take_of_lt (by omega)]
      exact st.pre n x h
    · obtain ⟨h1, h2⟩ := st.keep.keep x o h l
      exact ⟨h1, fun q => h2 (live_trim q)⟩
  | pin i d d1 m h p t ih =>
    intro ρ e0 l0 a st
    obtain ⟨u, hu, hr⟩ := a.sl i d h
    obtain ⟨as, e, q⟩ := a.sim.pinD p hr
    rw [← e] at ih
    have st2 : Stp G _ _ ρ (ρ ++ as) H H := Stp.deads (G := G) (as := as) a.sim.len
    refine ih e0 l0 ⟨a.sim.deads as, by rw [setS_length]; exact a.len, fun j x hj => ?_⟩ (st.trans st2)
    by_cases ej : j = i
    · subst ej
      have hlt := getS_setS_same (d1 := d1) h
      rw [hlt] at hj
      cases hj
      exact ⟨u, hu, q⟩
    · rw [getS_setS_ne ej] at hj
      obtain ⟨v, h1, h2⟩ := a.sl j x hj
      exact ⟨v, h1, st2.rv h2⟩
  | wipe is t ih => exact fun e0 l0 a st => ih e0 l0 (a.forget is) st
section
variable {G : Gd} {T : Tab} {N : List Str} {sc : Scope} {k : Nat} {X : Cx} {W : WX} {O : Orc} {F : Addr → Prop} {τ : Sl} {S : Store} {ρ : List Addr} {σ : L2.St} {H : Hp}
/-! ### sequences -/
theorem okB_nil : PSs X [] (rdBs G T O W []) := PSs.of pss_nil fun D σ H ⟨F, τ, S, ρ, P, a, w, e⟩ => by
  rw [wpSs] at w
  exact e.nx _ _ _ _ _ w a Stp.refl
theorem okB_cons {s : IS} {ss : List IS} {st : Stmt} {sts : List Stmt} (h1 : PS X st (rdB1 G T O W s)) (h2 : PSs X sts (rdBs G T O W ss)) : PSs X (st :: sts) (rdBs G T O W (s :: ss)) :=
  PSs.of (pss_cons h1 h2) fun D σ H ⟨F, τ, S, ρ, P, a, w, e⟩ => by
    rw [wpSs] at w
    exact ⟨F, τ, S, ρ, _, a, w, fun τ' S' σ' ρ' H' p a' t => ⟨F, τ', S', ρ', P, a', p, e.step t⟩, e.rt, e.bk, e.ct, e.ex⟩
/-- a ghost step between statements -/
theorem okB_gh {ss : List IS} {sts : List Stmt} (h : PSs X sts (rdBs G T O W ss)) : PSs X sts (rdBs G T O W (.gh :: ss)) :=
  PSs.of h fun D σ H ⟨F, τ, S, ρ, P, a, w, e⟩ => by
    rw [wpSs, wpS] at w
    obtain ⟨τ2, S2, g, w⟩ := w
    obtain ⟨ρ2, a2, t2⟩ := fg_ok g rfl a.sim.len a Stp.refl
    exact ⟨F, τ2, S2, ρ2, P, a2, w, e.step t2⟩
/-! ### simple statements -/
theorem okB_pass {pos : Pos} : PS X (.Pass pos) (rdB1 G T O W .pass) := PS.of ps_pass fun D σ H ⟨F, τ, S, ρ, P, a, w, e⟩ => by
  rw [wpS] at w; exact e.nx _ _ _ _ _ w a Stp.refl
theorem okB_brk {pos : Pos} : PS X (.Break pos) (rdB1 G T O W .brk) := PS.of ps_break fun D σ H ⟨F, τ, S, ρ, P, a, w, e⟩ => by
  rw [wpS] at w; exact e.bk _ _ _ _ _ w a Stp.refl
theorem okB_cont {pos : Pos} : PS X (.Continue pos) (rdB1 G T O W .cont) := PS.of ps_continue fun D σ H ⟨F, τ, S, ρ, P, a, w, e⟩ => by
  rw [wpS] at w; exact e.ct _ _ _ _ _ w a Stp.refl
theorem okB_retN {pos : Pos} : PS X (.Return none pos) (rdB1 G T O W .retN) := PS.of ps_retN fun D σ H ⟨F, τ, S, ρ, P, a, w, e⟩ => by
  rw [wpS] at w; exact e.rt.here a.sim w .non
theorem okB_ret {a : IE} {x : Expr} {pos : Pos} (ha : PE X x (rdE G T O W a)) : PS X (.Return (some x) pos) (rdB1 G T O W (.ret a)) := PS.of (ps_ret ha) fun D σ H ⟨F, τ, S, ρ, P, a, w, e⟩ => by
  rw [wpS] at w; exact ⟨F, τ, S, ρ, _, _, a, w, e.rt, e.ex _ _ _ _ _ a Stp.refl⟩
def noLc : Expr → Bool
  | .ListComp .. => false
  | .SetComp .. => false
  | .DictComp .. => false
  | _ => true
theorem noLc_sw {e : Expr} (h : noLc e = true) (t : Option Expr) (l : Nat) (env : Env) : swapsWith e t l env = pure false := by
  cases e <;> first
    | exact absurd h Bool.false_ne_true
    | rfl
theorem okB_ex {a : IE} {x : Expr} {pos : Pos} (hs : noLc x = true) (ha : PE X x (rdE G T O W a)) : PS X (.Expr x pos) (rdB1 G T O W (.ex a)) := PS.of (ps_expr ha (noLc_sw hs _ _ _)) fun D σ H ⟨F, τ, S, ρ, P, a, w, e⟩ => by
  rw [wpS] at w
  exact rd1 a w (e.ex _ _ _ _ _ a Stp.refl) fun x S2 ρ2 H2 u p a2 t r => e.nx _ _ _ _ _ p a2 t
theorem okB_ite {c : IT} {x y : List IS} {t : Expr} {l r : List Stmt} {pos : Pos} (hc : PT X t (rdT G T O W c)) (h1 : PSs X l (rdBs G T O W x)) (h2 : PSs X r (rdBs G T O W y)) : PS X (.If t l r pos) (rdB1 G T O W (.ite c x y)) :=
  PS.of (ps_if hc h1 h2) fun D σ H ⟨F, τ, S, ρ, P, a, w, e⟩ => by
    rw [wpS] at w
    refine rdTe a w (e.ex _ _ _ _ _ a Stp.refl) fun b S2 ρ2 H2 p a2 t => ?_
    rcases iteW_e p with ⟨eb, p⟩ | ⟨eb, p⟩
    · rw [eb, if_pos rfl]; exact ⟨F, _, _, _, _, a2, p, e.step t⟩
    · rw [eb, if_neg Bool.false_ne_true]; exact ⟨F, _, _, _, _, a2, p, e.step t⟩
/-- the slot is known, and the def's own -/
structure SlOk (N : List Str) (sc : Scope) (i : Nat) (x : Str) : Prop where
  ix : N[i]? = some x
  lc : Loc sc x
theorem SlOk.loc (fo : FOk G N sc k X) {i : Nat} {x : Str} (h : SlOk N sc i x) : Loc X.env.scope x := by rw [fo.sc]; exact h.lc
theorem okB_set {i : Nat} {a : IE} {x : Str} {v : Expr} {p pos : Pos} (fo : FOk G N sc k X) (h : SlOk N sc i x) (hs : swapsWith v (some (.Name x p)) pos.line X.env = pure false) (ha : PE X v (rdE G T O W a)) : PS X (.Assign [.Name x p] v pos) (rdB1 G T O W (.set i a)) := by
  refine PS.of (ps_set (i := i) (by rw [fo.eqN]; exact fo.nd) (by rw [fo.eqN]; exact h.ix) (h.loc fo) ha hs (.inl (fo.fnx x))) fun D σ H ⟨F, τ, S, ρ, P, a, w, e⟩ => ?_
  rw [wpS] at w
  exact rd1 a w (e.ex _ _ _ _ _ a Stp.refl) fun d S2 ρ2 H2 u p a2 t r => e.nx _ _ _ _ _ p (a2.set r) t
/-! ### in place -/
theorem augAdd_ok : PIp X .Add (rd2 G augAddW) := by
  intro pins s σ H x y v u Q I rx ry h
  obtain ⟨S, ρ, dx, dy, P, sim, r1, r2, w, fin⟩ := h
  unfold augAddW at w
  split at w
  · cases r1
    cases r2
    exact ip_add pins s σ H _ _ v u Q I rx ry ⟨_, _, rfl, rfl, fin.here sim w (.int _)⟩
  · cases r1
    cases r2
    refine in_addS pins s σ H _ _ v u Q I rx ry ⟨_, _, rfl, rfl, by rw [tx_length, tx_length, line]; exact w.1, ?_⟩
    rw [tx_append]
    exact fin.here sim w.2 (.str _)
  · split at w
    · rename_i e1 e2
      obtain ⟨a, us, rfl, h1, h2, ha⟩ := sim.lst_at e1 r1
      obtain ⟨b, zs, rfl, g1, g2⟩ := lstOf_at sim e2 r2
      exact iop_ext pins s σ H _ _ v u Q I rx ry ⟨a, b, us, zs, rfl, rfl, h1, g1, by rw [← h2.length, ← g2.length, line]; exact w.1, fin.put sim e1 ha (h2.append g2) (.ref ha) w.2⟩
    · exact w.elim
  · exact w.elim
theorem aug_ok (op : Operator) : PIp X op (rd2 G (augW op)) := by
  cases op with
  | Add => exact augAdd_ok
  | Sub =>
    intro pins s σ H x y v u Q I rx ry h
    obtain ⟨S, ρ, dx, dy, P, sim, r1, r2, w, fin⟩ := h
    simp only [augW, subW] at w
    split at w
    · cases r1
      cases r2
      exact ip_sub pins s σ H _ _ v u Q I rx ry ⟨_, _, rfl, rfl, fin.here sim w (.int _)⟩
    · exact w.elim
  | _ =>
    intro pins s σ H x y v u Q I rx ry h
    obtain ⟨_, _, _, _, _, _, _, _, w, _⟩ := h
    exact w.elim
theorem okB_aug {i : Nat} {a : IE} {x : Str} {v : Expr} {op : Operator} {p pos : Pos} (fo : FOk G N sc k X) (h : SlOk N sc i x) (ha : PE X v (rdE G T O W a)) : PS X (.AugAssign (.Name x p) op v pos) (rdB1 G T O W (.aug i op a)) := by
  have ho : PIp X op (fun u v H Q => ∃ F, rd2 (G.frm F) (augW op) u v H Q) := fun pins s σ H x y v u Q I rx ry ⟨F, q⟩ => aug_ok (G := G.frm F) op pins s σ H x y v u Q I rx ry q
  refine PS.of (ps_aug (i := i) (by rw [fo.eqN]; exact fo.nd) (by rw [fo.eqN]; exact h.ix) (h.loc fo) ha ho (.inl (fo.fnx x))) fun D σ H ⟨F, τ, S, ρ, P, a, w, e⟩ => ?_
  rw [wpS] at w
  split at w
  · rename_i d ed
    obtain ⟨u, h1, h2⟩ := a.sl i d ed
    refine ⟨u, h1, rd1 a w (e.ex _ _ _ _ _ a Stp.refl) fun y S2 ρ2 H2 v p a2 t r => ⟨F, S2, ρ2, d, y, _, a2.sim, t.rv h2, r, p, fun z S3 ρ3 H3 w3 p3 s3 t3 r3 => e.nx _ _ _ _ _ p3 ((a2.step s3 t3).set r3) (t.trans t3)⟩⟩
  · exact w.elim
/-! ### loops -/
theorem okB_for {tg : Tg} {it : ItK} {src : List IE} {b : List IS} {tg' iter' : Expr} {b' : List Stmt} {pos : Pos} (fo : FOk G N sc k X) (hi : PI X tg' iter' (rdS G T O W it src)) (hg : PG X tg' (rdG G tg)) (hs : noSet iter' = true) (hb : PSs X b' (rdBs G T O W b)) :
    PS X (.For tg' iter' b' [] pos) (rdB1 G T O W (.for_ tg it src b)) := by
  refine PS.of (ps_for fo.own fo.calm hi hg hb (noSet_iter hs _)) fun D σ H ⟨F, τ, S, ρ, P, a0, w, e⟩ => ?_
  rw [wpS] at w
  refine ⟨F, τ, S, ρ, _, _, a0, w, e.ex _ _ _ _ _ a0 Stp.refl, fun items st S1 ρ1 H1 J p a1 t so => ?_⟩
  unfold forW at p
  refine ⟨fun i m σ2 H2 => ∃ τ2 S2 ρ2, i + m = items.length ∧ At (G.frm F) τ2 S2 ρ2 σ2 H2 ∧ Stp (G.frm F) S1 S2 ρ1 ρ2 H1 H2 ∧ forW0 S1.length (bindTg tg) (fun P' τ1 S2 => wpSs T O b P' τ1 S2) st P (items.drop i) τ2 S2,
    ⟨items.length, τ, S1, ρ1, by omega, a1, Stp.refl, p⟩, fun i m σ2 H2 ⟨τ2, S2, ρ2, him, a2, t2, w⟩ => ?_⟩
  have lat : Lat (G.frm F) (Live (G.frm F) S1 ρ1) ρ1 H1 S2 ρ2 H2 := ⟨a2.sim, t2.keep, t2.pre⟩
  cases hx : items[i]? with
  | none =>
    have hi := List.getElem?_eq_none_iff.mp hx
    rw [List.drop_eq_nil_of_le hi] at w
    exact .inl ⟨so.stop _ _ _ _ i lat w.1 hi, e.nx _ _ _ _ _ w.2 a2 (t.trans t2)⟩
  | some d =>
    obtain ⟨hi, hd2⟩ := List.getElem?_eq_some_iff.mp hx
    rw [List.drop_eq_getElem_cons hi, hd2] at w
    obtain ⟨w1, w2⟩ := w
    refine .inr ⟨so.go _ _ _ _ i lat w1 hi, fun σ' H' => ∃ m', m' < m ∧ _, fun _ _ h => h, fun x H' y => ?_⟩
    obtain ⟨s3, t3, rx⟩ := so.yld _ _ _ _ i x H' d lat w1 y hx
    have a3 := a2.step s3 t3
    refine ⟨F, τ2, S2, ρ2, d, _, a3, rx, w2, fun τ1 σ1 p1 a4 hw => ⟨F, τ1, S2, ρ2, _, a4, p1, ?_⟩⟩
    have e2 := (e.step t).step (t2.trans t3)
    have turn : ∀ τ' S' σ' ρ' H'', (∃ τ3 S3, Fg S1.length τ' S' τ3 S3 ∧ forW0 S1.length (bindTg tg) (fun P' τ1 S2 => wpSs T O b P' τ1 S2) st P (items.drop (i + 1)) τ3 S3) → At (G.frm F) τ' S' ρ' σ' H'' → Stp (G.frm F) S2 S' ρ2 ρ' H' H'' →
        ∃ m', m' < m ∧ ∃ τ2 S2 ρ2, (i + 1) + m' = items.length ∧ At (G.frm F) τ2 S2 ρ2 σ' H'' ∧ Stp (G.frm F) S1 S2 ρ1 ρ2 H1 H'' ∧ forW0 S1.length (bindTg tg) (fun P' τ1 S2 => wpSs T O b P' τ1 S2) st P (items.drop (i + 1)) τ2 S2 :=
      fun τ' S' σ' ρ' H'' ⟨τ3, S3, g, w3⟩ a5 t5 => by
        obtain ⟨ρ3, a6, t6⟩ := fg_ok g rfl a1.sim.len a5 ((t2.trans t3).trans t5)
        exact ⟨m - 1, by omega, τ3, S3, ρ3, by omega, a6, t6, w3⟩
    exact ⟨turn, e2.rt, fun τ' S' σ' ρ' H'' p a t => e2.nx τ' S' σ' ρ' H'' p a t, turn, e2.ex⟩
theorem okB_whl {c : IT} {b : List IS} {t : Expr} {b' : List Stmt} {pos : Pos} (fo : FOk G N sc k X) (hc : PT X t (rdT G T O W c)) (hb : PSs X b' (rdBs G T O W b)) : PS X (.While t b' [] pos) (rdB1 G T O W (.whl c b)) := by
  refine PS.of (ps_while fo.own hc hb) fun D σ H ⟨F, τ, S, ρ, P, a0, w, e⟩ => ?_
  rw [wpS] at w
  unfold whlW at w
  obtain ⟨Inv, ⟨m0, h0⟩, hI⟩ := w
  refine ⟨fun m σ2 H2 => ∃ τ2 S2 ρ2, At (G.frm F) τ2 S2 ρ2 σ2 H2 ∧ Stp (G.frm F) S S2 ρ ρ2 H H2 ∧ Inv m τ2 S2, ⟨m0, τ, S, ρ, a0, Stp.refl, h0⟩, fun m σ2 H2 ⟨τ2, S2, ρ2, a2, t2, hm⟩ => ?_⟩
  refine rdTe a2 (hI m τ2 S2 hm) (e.ex _ _ _ _ _ a2 t2) fun b S3 ρ3 H3 p a3 t3 => ?_
  rcases iteW_e p with ⟨eb, p⟩ | ⟨eb, p⟩
  · rw [eb, if_pos rfl]
    refine ⟨fun σ' H' => ∃ m', m' < m ∧ _, fun _ _ h => h, F, τ2, S3, ρ3, _, a3, p, ?_⟩
    have e2 := e.step (t2.trans t3)
    have turn : ∀ τ' S' σ' ρ' H'', (∃ τ3 S3 m', Fg S.length τ' S' τ3 S3 ∧ m' < m ∧ Inv m' τ3 S3) → At (G.frm F) τ' S' ρ' σ' H'' → Stp (G.frm F) S3 S' ρ3 ρ' H3 H'' → ∃ m', m' < m ∧ ∃ τ2 S2 ρ2, At (G.frm F) τ2 S2 ρ2 σ' H'' ∧ Stp (G.frm F) S S2 ρ ρ2 H H'' ∧ Inv m' τ2 S2 :=
      fun τ' S' σ' ρ' H'' ⟨τ3, S4, m', g, hm', w3⟩ a5 t5 => by
        obtain ⟨ρ4, a6, t6⟩ := fg_ok g rfl a0.sim.len a5 ((t2.trans t3).trans t5)
        exact ⟨m', hm', τ3, S4, ρ4, a6, t6, w3⟩
    exact ⟨turn, e2.rt, fun τ' S' σ' ρ' H'' p a t => e2.nx τ' S' σ' ρ' H'' p a t, turn, e2.ex⟩
  · rw [eb, if_neg Bool.false_ne_true]
    exact e.nx _ _ _ _ _ p a3 (t2.trans t3)
/-! ### a comprehension set -/
def swC (sc scope : Scope) (x : Str) (a b : Nat) : Bool := locC sc x && (a == b) && !(scope.names.any fun q => q.1 == x && (q.2 == .local || q.2 == .cell))
theorem blockFn (fo : FOk G N sc k X) : X.env.blockKind = .function := by unfold Env.blockKind; rw [fo.kind]; rfl
theorem sw_val (fo : FOk G N sc k X) {el : Expr} {gs : List Comprehension} {scope : Scope} {p q : Pos} {x : Str} {l : Nat} : swapsWith (.ListComp el gs scope p) (some (.Name x q)) l X.env = pure (swC sc scope x q.line p.line) := by
  have e : swapsWith (.ListComp el gs scope p) (some (.Name x q)) l X.env = pure (X.env.blockKind == .function && X.env.kindOf x == some .local && q.line == p.line && !(scope.names.any fun q => q.1 == x && (q.2 == .local || q.2 == .cell))) := rfl
  have e2 : (X.env.kindOf x == some .local) = locC sc x := by
    unfold Env.kindOf locC
    rw [fo.sc]
    split
    · rename_i h; rw [h]; rfl
    · rename_i h
      cases q : sc.names.lookup x with
      | none => rfl
      | some z => cases z <;> first
        | rfl
        | exact absurd q h
  rw [e, blockFn fo, e2]
  rfl
theorem okB_setLc {tg : Tg} {it : ItK} {src : List IE} {ifs : List IT} {elt : IE} {own : List Nat} {ownp : List (Str × Nat)} {fz : Bool} {elt' tg' iter' : Expr} {ifs' : List Expr} {scope : Scope} {pos p spos : Pos} {i : Nat} {x : Str}
    (fo : FOk G N sc k X) (h : SlOk N sc i x) (hsw : swC sc scope x p.line pos.line = true) (hi : PI X tg' iter' (rdS G T O W it src)) (hb : blkC N sc scope ownp = true) (hown : ownp.map (·.2) = own) (htg : ∀ j ∈ tgIs tg, j ∈ own)
    (hg : ∀ X', XOk G N (relS scope sc) k X' → PG X' tg' (rdG G tg)) (ht : ∀ X', XOk G N (relS scope sc) k X' → PTs X' ifs' (rdI G T O Wno ifs)) (he : ∀ X', XOk G N (relS scope sc) k X' → PE X' elt' (rdE G T O Wno elt)) (hs : noSet iter' = true) :
    PS X (.Assign [.Name x p] (.ListComp elt' [⟨tg', iter', ifs', 0⟩] scope pos) spos) (rdB1 G T O W (.set i (.lc fz own tg it src ifs elt))) := by
  have xo := fo.toXOk
  have ok : BlkOk X.N X.env.scope scope ownp := by rw [xo.eqN, xo.sc]; exact blkOk_by hb
  have hl : X.env.scope.names.lookup x = some .local := by
    rw [xo.sc]
    unfold swC at hsw
    simp only [Bool.and_eq_true] at hsw
    exact locC_ok hsw.1.1
  refine PS.of (ps_setLc (i := i) xo.calm (by rw [xo.eqN]; exact xo.nd) (by rw [xo.eqN]; exact h.ix) hl (by rw [sw_val fo, hsw]) hi ok (fun s H C cl fp => hg _ (blk_ok xo s H scope C cl fp)) (fun s H C cl fp => ht _ (blk_ok xo s H scope C cl fp)) (fun s H C cl fp => he _ (blk_ok xo s H scope C cl fp)) (noSet_iter hs _)) fun D σ H ⟨F, τ, S, ρ, P, a, w, e⟩ => ?_
  rw [wpS] at w
  rw [hown]
  exact lc_read htg _ (rd1 a w (e.ex _ _ _ _ _ a Stp.refl) fun d S2 ρ2 H2 u p a2 t r => e.nx _ _ _ _ _ p (a2.set r) t)
/-! ### fields set -/
theorem putFn_mem : ∀ {ns : List Nat} {f n : Nat}, n ∈ putFn ns f ↔ n ∈ ns ∨ n = f
  | [], f, n => by simp [putFn]
  | m :: r, f, n => by
    unfold putFn
    split
    · rename_i e
      have := Nat.eq_of_beq_eq_true e
      subst this
      simp
      exact fun e => .inl e
    · have := putFn_mem (ns := r) (f := f) (n := n)
      simp only [List.mem_cons, this]
      constructor
      · rintro (h | h | h)
        · exact .inl (.inl h)
        · exact .inl (.inr h)
        · exact .inr h
      · rintro ((h | h) | h)
        · exact .inl h
        · exact .inr (.inl h)
        · exact .inr (.inr h)
theorem RFs.other {G : Gd} {Lv : Addr → Prop} {x : Str} {u : V} {fl : List (Str × V)} : ∀ {ns : List Nat} {fs : List D}, (∀ n ∈ ns, G.nm n ≠ x) → RFs G Lv ρ H fl ns fs → RFs G Lv ρ H (putF x u fl) ns fs
  | [], _, _, .nil => .nil
  | _ :: _, _, hn, .cons h1 h2 t => .cons (by rw [lookup_putF, if_neg (hn _ List.mem_cons_self)]; exact h1) h2 (RFs.other (fun n h => hn n (List.mem_cons_of_mem _ h)) t)
theorem RFs.put {G : Gd} {Lv : Addr → Prop} {f : Nat} {d : D} {u : V} (hd : RV G Lv ρ H d u) {fl : List (Str × V)} (hn : ∀ n, G.nm n = G.nm f → n = f) : ∀ {ns : List Nat} {fs : List D}, ns.Nodup → RFs G Lv ρ H fl ns fs → RFs G Lv ρ H (putF (G.nm f) u fl) (putFn ns f) (putFd ns fs f d)
  | [], _, _, .nil => .cons (by rw [lookup_putF, if_pos rfl]) hd .nil
  | n :: ns, _, nd, .cons h1 h2 t => by
    obtain ⟨nd1, nd2⟩ := List.nodup_cons.mp nd
    unfold putFn putFd
    cases e : Nat.beq n f with
    | true =>
      have := Nat.eq_of_beq_eq_true e
      subst this
      exact .cons (by rw [lookup_putF, if_pos rfl]) hd (RFs.other (fun m hm q => nd1 (by rw [← hn m q]; exact hm)) t)
    | false =>
      have ne : n ≠ f := fun q => by rw [q, Nat.beq_refl] at e; cases e
      exact .cons (by rw [lookup_putF, if_neg fun q => ne (hn n q)]; exact h1) h2 (RFs.put hd hn nd2 t)
theorem putFn_nd : ∀ {ns : List Nat} {f : Nat}, ns.Nodup → (putFn ns f).Nodup
  | [], f, _ => by simp [putFn]
  | n :: r, f, h => by
    obtain ⟨h1, h2⟩ := List.nodup_cons.mp h
    unfold putFn
    cases e : Nat.beq n f with
    | true => exact h
    | false =>
      refine List.nodup_cons.mpr ⟨fun q => ?_, putFn_nd h2⟩
      rcases putFn_mem.mp q with q | q
      · exact h1 q
      · rw [q, Nat.beq_refl] at e; cases e
theorem putFn_len : ∀ {ns : List Nat} {f : Nat}, (f ∈ ns → (putFn ns f).length = ns.length) ∧ (f ∉ ns → (putFn ns f).length = ns.length + 1)
  | [], f => ⟨fun h => absurd h List.not_mem_nil, fun _ => rfl⟩
  | n :: r, f => by
    obtain ⟨a, b⟩ := putFn_len (ns := r) (f := f)
    unfold putFn
    cases e : Nat.beq n f with
    | true =>
      have := Nat.eq_of_beq_eq_true e
      subst this
      exact ⟨fun _ => rfl, fun h => absurd List.mem_cons_self h⟩
    | false =>
      have ne : f ≠ n := fun q => by rw [q, Nat.beq_refl] at e; cases e
      refine ⟨fun h => ?_, fun h => ?_⟩
      · rcases List.mem_cons.mp h with h | h
        · exact absurd h ne
        · simp [a h]
      · simp [b fun q => h (List.mem_cons_of_mem _ q)]
theorem putF_has {x : Str} {v : V} : ∀ {fl : List (Str × V)} {u : V}, fl.lookup x = some u → (putF x v fl).length = fl.length
  | [], _, h => by cases h
  | (g, w) :: r, u, h => by
    unfold putF
    by_cases e : g = x
    · rw [if_pos e]; rfl
    · rw [if_neg e]
      have : r.lookup x = some u := by
        rw [List.lookup_cons] at h
        have q : (x == g) = false := by simpa using Ne.symm e
        rw [q] at h; exact h
      simp [putF_has this]
theorem RFs.has {G : Gd} {Lv : Addr → Prop} {fl : List (Str × V)} : ∀ {ns : List Nat} {fs : List D} {f : Nat}, RFs G Lv ρ H fl ns fs → f ∈ ns → ∃ u, fl.lookup (G.nm f) = some u
  | [], _, _, .nil, h => by cases h
  | _ :: _, _, _, .cons h1 h2 t, h => by
    rcases List.mem_cons.mp h with rfl | h
    · exact ⟨_, h1⟩
    · exact RFs.has t h
theorem Closed.put {G : Gd} {Lv : Addr → Prop} {c f : Nat} {ns : List Nat} {fs : List D} {fl : List (Str × V)} {u : V} (k : Closed G c ns fl) (r : RFs G Lv ρ H fl ns fs) (hn : NoAttr G.K (G.ca c) (G.nm f)) : Closed G c (putFn ns f) (putF (G.nm f) u fl) := by
  refine ⟨fun x hx => ?_, ?_, fun n h => ?_, k.cls, putFn_nd k.nd, k.eqo⟩
  · rw [lookup_putF, if_neg (hx f (putFn_mem.mpr (.inr rfl)))]
    exact k.none x fun n h => hx n (putFn_mem.mpr (.inl h))
  · obtain ⟨a, b⟩ := putFn_len (ns := ns) (f := f)
    by_cases h : f ∈ ns
    · obtain ⟨z, hz⟩ := r.has h
      rw [a h, putF_has hz]
      exact k.len
    · rw [b h]
      exact Nat.le_trans (length_putF _ _ _) (Nat.succ_le_succ k.len)
  · rcases putFn_mem.mp h with h | h
    · exact k.noat n h
    · subst h; exact hn
theorem okB_setF {a v : IE} {f : Nat} {o value : Expr} {x : Str} {p pos : Pos} (xo : XOk G N sc k X) (go : GOk G T) (hx : T.nm f = x) (hs : noLc value = true) (ha : PE X o (rdE G T O W a)) (hv : PE X value (rdE G T O W v)) :
    PS X (.Assign [.Attribute o x p] value pos) (rdB1 G T O W (.setF a f v)) := by
  refine PS.of (ps_fld ha hv (noLc_sw hs _ _ _)) fun D σ H ⟨F, τ, S, ρ, P, a0, w, e⟩ => ?_
  rw [wpS] at w
  have fx := e.ex _ _ _ _ _ a0 Stp.refl
  refine rd1 a0 w fx fun d S1 ρ1 H1 u p1 a1 t1 r1 => rd1 a1 p1 (fx.step t1) fun y S2 ρ2 H2 z p2 a2 t2 r2 => ?_
  unfold setFW at p2
  split at p2
  · split at p2
    · rename_i n _ c ns fs e0
      obtain ⟨⟨hl, hf⟩, p3⟩ := p2
      obtain ⟨b, dx, fl, rfl, h1, h2, h3, h4⟩ := a2.sim.obj_at e0 r2
      have en : ∀ i, (G.frm F).nm i = T.nm i := go.nm
      have hn : NoAttr (G.frm F).K ((G.frm F).ca c) ((G.frm F).nm f) := by rw [en]; exact go.fld c f hf
      subst hx
      have st : Stp (G.frm F) S2 (S2.set n (.obj c (putFn ns f) (putFd ns fs f d))) ρ2 ρ2 H2 (upd H2 b (.ins ((G.frm F).ca c) dx (putF (T.nm f) u fl))) := Stp.write a2.sim h4 e0 (by simp)
      refine ⟨b, _, dx, fl, rfl, h1, by rw [xo.K]; exact h2.cls, by rw [xo.K]; exact go.fld c f hf, Nat.lt_of_le_of_lt h2.len (by omega), e.nx _ _ _ ρ2 _ p3 (a2.step ?_ st) ((t1.trans t2).trans st)⟩
      refine a2.sim.write h4 e0 (by simp) ⟨dx, _, upd_same, ?_, ?_⟩
      · have := h2.put (u := u) h3 hn
        rw [en] at this
        exact this
      · have q := RFs.put (G := G.frm F) (f := f) (st.rv (t2.rv r1)) (fun n h => by rw [en, en] at h; exact go.fldn c f n hf h) h2.nd (h3.keep st.keep st.pre)
        rw [en] at q
        exact q
    · exact p2.elim
  · exact p2.elim
end
end DL

set_option maxHeartbeats 1000000
/-! DL 8a: items set -/
namespace DL
open PySem PySem.Spec PyProof.Rows L2
section
variable {G : Gd} {T : Tab} {N : List Str} {sc : Scope} {k : Nat} {X : Cx} {W : WX} {O : Orc} {F : Addr → Prop} {τ : Sl} {S : Store} {ρ : List Addr} {σ : L2.St} {H : Hp}
/-- o[i] = v, a list's cell's or a dict's -/
def rdSet (G : Gd) : TSet := fun o i v H Q => ∃ F S ρ x kd d, ∃ R : Store → Prop, Sim (G.frm F) S ρ H ∧ RVl (G.frm F) S ρ H x o ∧ RVl (G.frm F) S ρ H kd i ∧ RVl (G.frm F) S ρ H d v ∧ setIW x kd d S R ∧
  ∀ S' ρ' H', R S' → Sim (G.frm F) S' ρ' H' → Stp (G.frm F) S S' ρ ρ' H H' → Q H'
theorem set_okI (xo : XOk G N sc k X) : PSet X (rdSet G) := by
  intro pins s σ H o i v ov iv u Q I ro ri rv h
  obtain ⟨F, S, ρ, x, kd, d, R, sim, r1, r2, r3, w, fin⟩ := h
  have hu : X.A.units + 1 < cLine := by have := un160 xo.room; omega
  unfold setIW at w
  split at w <;> try exact w.elim
  split at w
  · rename_i xs e0
    split at w <;> try exact w.elim
    obtain ⟨j, ej, w⟩ := w
    obtain ⟨a, us, rfl, h1, h2, h3⟩ := sim.lst_at e0 r1
    cases r2
    have st : Stp (G.frm F) S (S.set _ (.lst (xs.set j d))) ρ ρ H (upd H a (.lst (us.set j v))) := Stp.write sim h3 e0 (by simp)
    refine set_list pins s σ H _ _ v ov iv u Q I ro ri rv ⟨a, us, _, j, rfl, rfl, h1, by rw [← ixOf_eq, ← h2.length]; exact ej, fin _ ρ _ w ?_ st⟩
    exact sim.write h3 e0 (by simp) ⟨_, upd_same, (h2.keep st.keep st.pre).set (st.rv r3) j⟩
  · rename_i ks vs e0
    obtain ⟨⟨hk, hl⟩, w⟩ := w
    obtain ⟨a, kus, rfl, h1, h2, h3⟩ := sim.dct_at e0 r1
    obtain ⟨key, ek⟩ := keyOf_keyD hk
    have ei := RV.key ek r2
    subst ei
    have st : Stp (G.frm F) S (S.set _ (.dct (dputK ks kd) (dputV ks vs kd d))) ρ ρ H (upd H a (.dK (putK kus key v))) := Stp.write sim h3 e0 (by simp)
    refine set_dict hu pins s σ H _ _ v ov iv u Q I ro ri rv ⟨a, _, rfl, DPut.k h1 (by rw [line, ← h2.lens.1]; exact hl), fin _ ρ _ w ?_ st⟩
    exact sim.write h3 e0 (by simp) ⟨_, upd_same, RKs.put ek (st.rv r3) (h2.keep st.keep st.pre)⟩
  · exact w.elim
theorem subAssign {o i : Expr} {pos : Pos} (hs : noSlice i = true) (env : Env) : ∀ v, assign (.Subscript o i pos) env v = (do
      let ov ← holding [v] (eval o env)
      let iv ← holding [v, ov] (eval i env)
      standAt pos
      holding [v, ov, iv] (setItem ov iv v)
      release [v, ov, iv] []) := by
  intro v
  cases i <;> first
    | exact absurd hs Bool.false_ne_true
    | rfl
theorem swSub {v o i : Expr} {p : Pos} {l : Nat} {env : Env} : swapsWithSole [.Subscript o i p] v l env = pure false := by
  cases v <;> rfl
theorem okB_setI {a i v : IE} {o ix value : Expr} {p pos : Pos} (xo : XOk G N sc k X) (hs : noSlice ix = true) (ha : PE X o (rdE G T O W a)) (hi : PE X ix (rdE G T O W i)) (hv : PE X value (rdE G T O W v)) :
    PS X (.Assign [.Subscript o ix p] value pos) (rdB1 G T O W (.setI a i v)) := by
  refine PS.of (ps_asg hv (pg_sub ha hi (set_okI xo) (subAssign hs _)) swSub) fun D σ H ⟨F, τ, S, ρ, P, a0, w, e⟩ => ?_
  rw [wpS] at w
  have fx := e.ex _ _ _ _ _ a0 Stp.refl
  refine rd1 a0 w fx fun d S1 ρ1 H1 u p1 a1 t1 r1 => rd1 a1 p1 (fx.step t1) fun x S2 ρ2 H2 z p2 a2 t2 r2 => rd1 a2 p2 ((fx.step t1).step t2) fun kd S3 ρ3 H3 z3 p3 a3 t3 r3 => ?_
  exact ⟨F, S3, ρ3, x, kd, d, _, a3.sim, t3.rv r2, r3, t3.rv (t2.rv r1), p3, fun S' ρ' H' q s' t' => e.nx _ _ _ _ _ q (a3.step s' t') (((t1.trans t2).trans t3).trans t')⟩
/-- o[i], by values -/
theorem get_ok (xo : XOk G N sc k X) : PGet X (fun o i H Q => ∃ F, rd2 (G.frm F) idxR o i H Q) := by
  intro pins s σ H o i ov iv Q I ro ri ⟨F, S, ρ, dx, dy, P, sim, r1, r2, w, fin⟩
  have hu : X.A.units + 1 < cLine := by have := un160 xo.room; omega
  unfold idxR at w
  split at w <;> try exact w.elim
  split at w
  · rename_i xs e0
    split at w <;> try exact w.elim
    rename_i i0
    obtain ⟨d, e, p⟩ := w
    obtain ⟨a, us, rfl, h1, h2, h3⟩ := sim.lst_at e0 r1
    cases r2
    obtain ⟨z, g1, g2⟩ := at_rel h2 e
    cases (show ov = Value.ref a from ro)
    obtain ⟨t, rfl⟩ := ri
    obtain ⟨its, r, pl, hz⟩ := I.list (SqL.of h1)
    obtain ⟨j, q1, q2, q3, q4, q5⟩ := atI_get g1
    obtain ⟨w', ew, rw'⟩ := r.get q2
    have hl := r.length
    have hn := line63
    have fin' : EP X pins σ Q w' s := ⟨z, H, I, rw', fin.here sim p g2⟩
    by_cases h0 : 0 ≤ i0
    · have hj : i0.toNat = j := by
        rw [seqIndex_of h0 q5] at q1
        exact Option.some.inj q1
      exact wpAny_getItem_list pl.isList h0 (by omega) (by rw [hj]; simpa using ew) fin'
    · have hj : (i0 + (its.toArray.size : Int)).toNat = j := by
        rw [seqIndex_neg (by omega) q4] at q1
        rw [List.size_toArray, ← hl]
        exact Option.some.inj q1
      exact wpAny_getItem_list_neg pl.isList (by omega) (by rw [List.size_toArray]; omega) (by omega) (by rw [hj]; simpa using ew) fin'
  · rename_i ks vs e0
    obtain ⟨f1, d, f2, f3⟩ := w
    obtain ⟨a, kus, rfl, h1, h2, h3⟩ := sim.dct_at e0 r1
    obtain ⟨kk, ek⟩ := keyOf_keyD f1
    have ex := r2.key ek
    subst ex
    rcases RKs.val ek h2 with ⟨d', z, g3, g4, g5⟩ | ⟨g3, g4⟩
    · rw [f2] at g3
      cases g3
      have g : DGet H a (kV kk) (some z) := by rw [← g4]; exact DGet.k h1
      cases (show ov = Value.ref a from ro)
      exact d_getItem hu I g ri fun w' s' I' rw' => ⟨z, H, I', rw', fin.here sim f3 g5⟩
    · rw [f2] at g3
      cases g3
  · exact w.elim
theorem augSt (i : Expr) (hs : noSlice i = true) : ∀ ov iv new, augStore i ov iv new = (do holding [new, ov, iv] (setItem ov iv new); release [new, ov, iv] []; pure .next) := by
  intro ov iv new
  cases i <;> first
    | exact absurd hs Bool.false_ne_true
    | rfl
theorem okB_augI {a i v : IE} {o ix value : Expr} {op : Operator} {p pos : Pos} (xo : XOk G N sc k X) (hs : noSlice ix = true) (ha : PE X o (rdE G T O W a)) (hi : PE X ix (rdE G T O W i)) (hv : PE X value (rdE G T O W v)) :
    PS X (.AugAssign (.Subscript o ix p) op value pos) (rdB1 G T O W (.augI a i op v)) := by
  have ho : PIp X op (fun u v H Q => ∃ F, rd2 (G.frm F) (augW op) u v H Q) := fun pins s σ H x y v u Q I rx ry ⟨F, q⟩ => aug_ok (G := G.frm F) op pins s σ H x y v u Q I rx ry q
  refine PS.of (ps_augS ha hi (get_ok xo) hv ho (set_okI xo) (augSt ix hs)) fun D σ H ⟨F, τ, S, ρ, P, a0, w, e⟩ => ?_
  rw [wpS] at w
  have fx := e.ex _ _ _ _ _ a0 Stp.refl
  refine rd1 a0 w fx fun x S1 ρ1 H1 u p1 a1 t1 r1 => rd1 a1 p1 (fx.step t1) fun kd S2 ρ2 H2 z p2 a2 t2 r2 => ?_
  refine ⟨F, S2, ρ2, x, kd, _, a2.sim, t2.rv r1, r2, p2, fun old S3 ρ3 H3 z3 p3 s3 t3 r3 => ?_⟩
  have a3 := a2.step s3 t3
  refine rd1 a3 p3 (((fx.step t1).step t2).step t3) fun y S4 ρ4 H4 z4 p4 a4 t4 r4 => ?_
  refine ⟨F, S4, ρ4, old, y, _, a4.sim, t4.rv r3, r4, p4, fun nw S5 ρ5 H5 z5 p5 s5 t5 r5 => ?_⟩
  have t25 := (t3.trans t4).trans t5
  exact ⟨F, S5, ρ5, x, kd, nw, _, s5, t25.rv (t2.rv r1), t25.rv r2, r5, p5, fun S' ρ' H' q s' t' => e.nx _ _ _ _ _ q (a2.step s' (t25.trans t')) ((t1.trans t2).trans (t25.trans t'))⟩
/-! ### a tuple taken apart -/
def noTup : Expr → Bool
  | .Tuple .. => false
  | _ => true
theorem swTup {v : Expr} {es : List Expr} {j : Nat} {p : Pos} {l : Nat} {env : Env} : swapsWithSole [.Tuple es j p] v l env = pure false := by
  cases v <;> rfl
theorem stTup {v : Expr} {es : List Expr} {j : Nat} {p : Pos} {env : Env} (h : noTup v = true) : swappedStores [.Tuple es j p] v env = pure none := by
  cases v <;> first
    | exact absurd h Bool.false_ne_true
    | rfl
theorem okB_setT {is : List Nat} {v : IE} {es : List Expr} {j : Nat} {value : Expr} {p pos : Pos} (hn : noTup value = true) (hg : PG X (.Tuple es j p) (rdG G (.tp is))) (hv : PE X value (rdE G T O W v)) :
    PS X (.Assign [.Tuple es j p] value pos) (rdB1 G T O W (.setT is v)) := by
  refine PS.of (ps_asg hv hg swTup (stTup hn)) fun D σ H ⟨F, τ, S, ρ, P, a0, w, e⟩ => ?_
  rw [wpS] at w
  exact rd1 a0 w (e.ex _ _ _ _ _ a0 Stp.refl) fun d S1 ρ1 H1 u p1 a1 t1 r1 => ⟨F, τ, S1, ρ1, d, _, a1, r1, p1, fun τ' σ' q a' _ => e.nx _ _ _ _ _ q a' t1⟩
end
end DL

set_option maxHeartbeats 1000000
/-! DL 8p: raise, try -/
namespace DL
open PySem PySem.Spec PyProof.Rows L2
/-! ### checks -/
def clC (T : Tab) (sc : Scope) (c : Nat) (x : Str) : Bool := isS (T.cl c) x && T.xc c && glC sc x
def nC (N : List Str) (sc : Scope) (i : Nat) (n : Str) : Bool := ixC N i n && locC sc n && visC sc n && !(n == ("__debug__" : Str)) && !(n == ("__classdict__" : Str))
section
variable (T : Tab) (N : List Str) (sc : Scope)
mutual
/-- what a clause may tell -/
def hotC : IE → Expr → Bool
  | .con d, x => match x with
    | .Constant c _ _ => conC d c
    | _ => false
  | .var i, x => match x with
    | .Name y _ => varC N sc i y
    | _ => false
  | .tup es, x => match x with
    | .Tuple l _ _ => Nat.blt es.length 1000 && l.all plainX && hotL es l
    | _ => false
  | _, _ => false
def hotL : List IE → List Expr → Bool
  | [], l => l.isEmpty
  | e :: es, l => match l with
    | x :: xs => hotC e x && hotL es xs
    | [] => false
end
def hsC : HS → Stmt → Bool
  | .ret e, s => match s with
    | .Return (some v) _ => hotC N sc e v
    | _ => false
  | .cont, s => match s with
    | .Continue _ => true
    | _ => false
  | .pass, s => match s with
    | .Pass _ => true
    | _ => false
def hdsC : List (Nat × HS) → List ExceptHandler → Bool
  | [], l => l.isEmpty
  | (c, s) :: r, l => match l with
    | .ExceptHandler (some (.Name x _)) none [st] _ :: q => clC T sc c x && hsC N sc s st && hdsC r q
    | _ => false
def xcsC : List (Option Nat) → List Expr → Bool
  | [], l => l.isEmpty
  | none :: r, l => match l with
    | .Name x _ :: q => decide (x = "ValueError") && T.fre "ValueError" && glC sc "ValueError" && xcsC r q
    | _ => false
  | some c :: r, l => match l with
    | .Name x _ :: q => isS (T.cl c) x && glC sc x && xcsC r q
    | _ => false
def isEx (i : Nat) : Expr → Bool
  | .Name n _ => varC N sc i n
  | _ => false
/-- what is asked of the caught one -/
def xeC (i : Nat) : XE → Expr → Bool
  | .isi one cs, x => match x with
    | .Call (.Name f _) [e, t] [] _ => decide (f = "isinstance") && T.fre "isinstance" && glC sc "isinstance" && isEx N sc i e && (match one with
      | true => (match cs with
        | [c] => xcsC T sc [c] [t]
        | _ => false)
      | false => (match t with
        | .Tuple l _ _ => Nat.blt cs.length 100 && xcsC T sc cs l
        | _ => false))
    | _ => false
  | .and_ a b, x => match x with
    | .BoolOp o (y :: z :: r) p => decide (o = .And) && xeC i a y && xeC i b (match r with
      | [] => z
      | _ => .BoolOp .And (z :: r) p)
    | _ => false
  | .or_ a b, x => match x with
    | .BoolOp o (y :: z :: r) p => decide (o = .Or) && xeC i a y && xeC i b (match r with
      | [] => z
      | _ => .BoolOp .Or (z :: r) p)
    | _ => false
  | .not a, x => match x with
    | .UnaryOp o y _ => decide (o = .Not) && xeC i a y
    | _ => false
def xsC (i : Nat) : List XS → List Stmt → Bool
  | [], l => l.isEmpty
  | .ifr t e :: r, l => match l with
    | .If x [.Return (some v) _] [] _ :: q => xeC T N sc i t x && hotC N sc e v && xsC i r q
    | _ => false
  | .ret t :: r, l => match l with
    | .Return (some x) _ :: q => xeC T N sc i t x && r.isEmpty && q.isEmpty
    | _ => false
end
section
variable {G : Gd} {T : Tab} {N : List Str} {sc : Scope} {k : Nat} {X : Cx} {W : WX} {O : Orc}
theorem clC_ok {c : Nat} {x : Str} (h : clC T sc c x = true) : T.cl c = some x ∧ T.xc c = true ∧ sc.names.lookup x = some .globalImplicit ∧ (x == ("__debug__" : Str)) = false := by
  unfold clC at h
  simp only [Bool.and_eq_true] at h
  exact ⟨isS_ok h.1.1, h.1.2, (glC_ok h.2).1, (glC_ok h.2).2⟩
/-! ### raise -/
theorem okB_raise {c : Nat} {x m : Str} {j : Nat} {p p2 p3 pos : Pos} (go : GOk G T) (fo : FOk G N sc k X) (tk : Takes X W) (h : clC T sc c x = true) :
    PS X (.Raise (some (.Call (.Name x p) [.Constant (.str m) j p2] [] p3)) none pos) (rdB1 G T O W (.raise c [])) := by
  obtain ⟨h1, h2, h3, h4⟩ := clC_ok h
  have xc := go.xc c x h1 h2
  obtain ⟨g1, g2⟩ := go.cl c x h1
  refine PS.of (ps_raise fo.calm tk (pmk_own PySem.F.excBase_ValueError (by rw [fo.K]; exact xc.q) (by rw [fo.mg]; exact g1) (by rw [fo.K]; exact g2) (raises_own (by rw [fo.K]; exact xc.r1) (by rw [fo.K]; exact xc.r2)) (xgl fo.toXOk h3) h4)) fun D σ H ⟨F, τ, S, ρ, P, a, w, e⟩ => ?_
  rw [wpS] at w
  exact e.ex _ _ _ _ _ a Stp.refl _ _ _ _ _ _ w a.sim Stp.refl ⟨rfl, rfl⟩
/-! ### what a clause tells -/
theorem hotLl : ∀ {es : List IE} {l : List Expr}, hotL N sc es l = true → l.length = es.length
  | [], l, h => by
    unfold hotL at h
    cases l with
    | nil => rfl
    | cons a r => cases h
  | e :: es, l, h => by
    unfold hotL at h
    split at h
    · rw [Bool.and_eq_true] at h
      simp [hotLl h.2]
    · cases h
/-- a context that reads the same names -/
structure NOk (N : List Str) (sc : Scope) (X : Cx) : Prop where
  eqN : X.N = N
  sc : X.env.scope = sc
mutual
theorem hot_ok (no : NOk N sc X) : ∀ (e : IE) (x : Expr), hotC N sc e x = true → PE X x (rdE G T O W e)
  | .con d, x, h => by
    unfold hotC at h
    split at h
    · exact ok_con h
    · cases h
  | .var i, x, h => by
    unfold hotC at h
    split at h
    · unfold varC at h
      simp only [Bool.and_eq_true, Bool.not_eq_true'] at h
      refine PE.of (pe_var (i := i) (by rw [no.eqN]; exact ixC_ok h.1.1.1) (by rw [no.sc]; exact visC_ok h.1.1.2) h.1.2 h.2) fun σ H Q ⟨F, τ, S, ρ, P, E, a, w, f, fx⟩ => ?_
      rw [wpE] at w
      split at w
      · rename_i d e
        obtain ⟨u, h1, h2⟩ := a.sl i d e
        exact ⟨u, h1, f.here a.sim w h2⟩
      · exact w.elim
    · cases h
  | .tup es, x, h => by
    unfold hotC at h
    split at h
    · simp only [Bool.and_eq_true] at h
      exact ok_tup (Nat.le_of_ble_eq_true h.1.1) (hotL_ok no es _ h.2 h.1.2)
    · cases h
  | .glo .., _, h => by unfold hotC at h; cases h
  | .bin .., _, h => by unfold hotC at h; cases h
  | .modp .., _, h => by unfold hotC at h; cases h
  | .divp .., _, h => by unfold hotC at h; cases h
  | .neg .., _, h => by unfold hotC at h; cases h
  | .not .., _, h => by unfold hotC at h; cases h
  | .and_ .., _, h => by unfold hotC at h; cases h
  | .or_ .., _, h => by unfold hotC at h; cases h
  | .cmp .., _, h => by unfold hotC at h; cases h
  | .chn .., _, h => by unfold hotC at h; cases h
  | .ifx .., _, h => by unfold hotC at h; cases h
  | .idx .., _, h => by unfold hotC at h; cases h
  | .kget .., _, h => by unfold hotC at h; cases h
  | .slc .., _, h => by unfold hotC at h; cases h
  | .rev .., _, h => by unfold hotC at h; cases h
  | .srt .., _, h => by unfold hotC at h; cases h
  | .fld .., _, h => by unfold hotC at h; cases h
  | .call .., _, h => by unfold hotC at h; cases h
  | .new .., _, h => by unfold hotC at h; cases h
  | .meth .., _, h => by unfold hotC at h; cases h
  | .bi .., _, h => by unfold hotC at h; cases h
  | .bm .., _, h => by unfold hotC at h; cases h
  | .isi .., _, h => by unfold hotC at h; cases h
  | .lst .., _, h => by unfold hotC at h; cases h
  | .dct .., _, h => by unfold hotC at h; cases h
  | .lvals .., _, h => by unfold hotC at h; cases h
  | .lc .., _, h => by unfold hotC at h; cases h
theorem hotL_ok (no : NOk N sc X) : ∀ (es : List IE) (l : List Expr), hotL N sc es l = true → l.all plainX = true → PA X l (rdL G T O W es)
  | [], l, h, _ => by
    unfold hotL at h
    cases l with
    | nil => exact okL_nil
    | cons a r => cases h
  | e :: es, l, h, hp => by
    unfold hotL at h
    split at h
    · rw [Bool.and_eq_true] at h
      rw [List.all_cons, Bool.and_eq_true] at hp
      exact okL_cons hp.1 (hot_ok no e _ h.1) (hotL_ok no es _ h.2 hp.2)
    · cases h
end
/-! ### try, clauses without a name -/
abbrev noX (P : Post) : Post := { P with ex := fun _ _ _ => False }
theorem EndOk.noX {P : Post} {D : Ends} {S : Store} {ρ : List Addr} {H : Hp} {W' : WX} (e : EndOk G W P D S ρ H) : EndOk G W' (DL.noX P) D S ρ H :=
  ⟨e.nx, e.rt, e.bk, e.ct, fun _ _ _ _ _ _ _ => FinX.no⟩
def rdHs (G : Gd) (T : Tab) (O : Orc) (s : HS) : TS := fun D σ H => ∃ F τ S ρ P, At (G.frm F) τ S ρ σ H ∧ hsW T O s P τ S ∧ EndOk (G.frm F) Wno P D S ρ H
theorem hs_ok (no : NOk N sc X) : ∀ (s : HS) (st : Stmt), hsC N sc s st = true → PSs X [st] (rdHs G T O s)
  | .ret e, st, h => by
    simp only [hsC] at h
    split at h
    · exact PSs.of (pss_cons (ps_ret (hot_ok (G := G) (T := T) (O := O) (W := Wno) no e _ h)) pss_nil) fun D σ H ⟨F, τ, S, ρ, P, a, w, e⟩ => ⟨F, τ, S, ρ, _, _, a, w, e.rt, FinX.no⟩
    · cases h
  | .cont, st, h => by
    simp only [hsC] at h
    split at h
    · exact PSs.of (pss_cons ps_continue pss_nil) fun D σ H ⟨F, τ, S, ρ, P, a, w, e⟩ => e.ct _ _ _ _ _ w a Stp.refl
    · cases h
  | .pass, st, h => by
    simp only [hsC] at h
    split at h
    · exact PSs.of (pss_cons ps_pass pss_nil) fun D σ H ⟨F, τ, S, ρ, P, a, w, e⟩ => e.nx _ _ _ _ _ w a Stp.refl
    · cases h
def tsL (G : Gd) (T : Tab) (O : Orc) (hs : List (Nat × HS)) : List (Value × (Addr → Value → Option Addr → TS)) := hs.map fun p => (.ref (G.ca p.1), fun _ _ _ => rdHs G T O p.2)
theorem names_ok (go : GOk G T) (fo : FOk G N sc k X) {c : Nat} {x : Str} (h : clC T sc c x = true) : Names X x (.ref (G.ca c)) := by
  obtain ⟨h1, h2, h3, h4⟩ := clC_ok h
  exact ⟨xgl fo.toXOk h3, h4, .inl (by rw [fo.mg]; exact (go.cl c x h1).1)⟩
theorem hds_ok (go : GOk G T) (fo : FOk G N sc k X) : ∀ (hs : List (Nat × HS)) (l : List ExceptHandler), hdsC T N sc hs l = true → HdsOk X l (tsL G T O hs)
  | [], l, h => by
    unfold hdsC at h
    cases l with
    | nil => exact .nil
    | cons a r => cases h
  | (c, s) :: r, l, h => by
    unfold hdsC at h
    split at h
    · simp only [Bool.and_eq_true] at h
      exact .cons (names_ok go fo h.1.1) (fun a oe cls d pn _ _ => hs_ok (X := X.suite a ((a, oe) :: pn)) ⟨fo.eqN, fo.sc⟩ s _ h.1.2) (hds_ok go fo r _ h.2)
    · cases h
theorem hdsCx : ∀ {hs : List (Nat × HS)} {l : List ExceptHandler}, hdsC T N sc hs l = true → ∀ p ∈ hs, T.xc p.1 = true
  | [], l, h, p, hp => absurd hp List.not_mem_nil
  | (c, s) :: r, l, h, p, hp => by
    unfold hdsC at h
    split at h
    · simp only [Bool.and_eq_true] at h
      rcases List.mem_cons.mp hp with rfl | hp
      · exact (clC_ok h.1.1).2.1
      · exact hdsCx h.2 p hp
    · cases h
theorem wMany_ok (go : GOk G T) (hK : X.K = G.K) {F : Addr → Prop} {P : Post} {DD : Ends} {S0 : Store} {ρ0 : List Addr} {H0 : Hp} (e : EndOk (G.frm F) W P DD S0 ρ0 H0) {τ : Sl} {σ : L2.St} : ∀ (hs : List (Nat × HS)) {d : D} {S : Store} {ρ : List Addr} {H : Hp} {cls : Value} {dx : Option Addr}, (∀ p ∈ hs, T.xc p.1 = true) →
    hndW T O hs P τ d S → At (G.frm F) τ S ρ σ H → Stp (G.frm F) S0 S ρ0 ρ H0 H → ExR (G.frm F) S ρ H d cls dx → wMany X.K W DD (tsL G T O hs) cls dx σ H
  | [], d, S, ρ, H, cls, dx, _, w, a, t, x => by
    unfold hndW at w
    exact e.ex τ S σ ρ H a t _ _ _ _ _ _ w a.sim Stp.refl x
  | (c', s) :: r, d, S, ρ, H, cls, dx, hx, w, a, t, x => by
    unfold hndW at w
    cases d with
    | exc c ns fs =>
      obtain ⟨w1, w⟩ := w
      have ec : cls = .ref (G.ca c) := by
        cases ns with
        | nil => exact x.1
        | cons n ns => exact x.1
      refine ⟨T.sub c c', by rw [hK, ec]; exact go.exm c c' w1 (hx _ List.mem_cons_self), fun hb q _ => ?_, fun hb => ?_⟩
      · rw [hb] at w
        exact ⟨F, τ, S, ρ, noX P, a, by cases s <;> exact w, e.noX.step t⟩
      · rw [hb] at w
        exact wMany_ok go hK e r (fun p hp => hx p (List.mem_cons_of_mem _ hp)) w a t x
    | _ => exact w.elim
theorem okB_try {b : List IS} {hs : List (Nat × HS)} {l : List Stmt} {h₀ : ExceptHandler} {hr : List ExceptHandler} {pos : Pos} (go : GOk G T) (fo : FOk G N sc k X) (tk : Takes X W)
    (hb : ∀ (W' : WX) (pn : List (Addr × Obj)) (xe : Value → Shared → Prop), Takes (X.tr pn xe) W' → PassesOwn (model X.prog X.w) X.A X.env xe → PSs (X.tr pn xe) l (rdBs G T O W' b))
    (hh : hdsC T N sc hs (h₀ :: hr) = true) : PS X (.Try l (h₀ :: hr) [] [] pos) (rdB1 G T O W (.try_ b hs)) := by
  refine PS.of (ps_try_many fo.hs fo.hf tk hb (hds_ok (O := O) go fo hs _ hh)) fun D σ H ⟨F, τ, S, ρ, P, a, w, e⟩ => ?_
  rw [wpS] at w
  refine ⟨F, τ, S, ρ, _, a, w, e.nx, e.rt, e.bk, e.ct, fun τ' S' σ' ρ' H' a' t d S2 ρ2 H2 cls dx p s t2 x => ?_⟩
  exact wMany_ok go fo.K e hs (hdsCx hh) p (a'.step s t2) (t.trans t2) x
/-! ### what is asked of a caught exception -/
section
variable {a : Addr} {oe : Obj} {cls : Value} {d : Option Addr} {pn : List (Addr × Obj)} {i : Nat}
theorem call_isX1 (hz : Zc cls d oe) (hf : ∃ vs, oe.data = .fields vs) : CallR (X.suite a ((a, oe) :: pn)) (.builtin "isinstance") (fun xs H Q => ∃ C : Addr, cls = .ref C ∧ d = none ∧ ExcC X.K C ∧ ∃ (c : V) (cv : Value) (b : Bool), xs = [.ref a, c] ∧ ClsV c cv ∧ PySem.W.kitOne X.K (.ref C) cv = some b ∧ Q (.bl b) H) := by
  intro pins s σ H xs us Q I r h
  obtain ⟨C, rfl, rfl, ec, c, cv, b, rfl, k, e, q⟩ := h
  exact call_isE ec hz hf pins s σ H _ us Q I r ⟨c, cv, b, rfl, fun u ru => k.eq ru, e, q⟩
theorem call_isXT (hz : Zc cls d oe) (hf : ∃ vs, oe.data = .fields vs) : CallR (X.suite a ((a, oe) :: pn)) (.builtin "isinstance") (fun xs H Q => ∃ C : Addr, cls = .ref C ∧ d = none ∧ ExcC X.K C ∧ ∃ (tp : Addr) (cs : List V) (us : List Value) (b : Bool), xs = [.ref a, .ref tp] ∧ H tp = some (.tup cs) ∧ Paired ClsV cs us ∧ PySem.W.kitAny X.K (.ref C) us = some b ∧ Q (.bl b) H) := by
  intro pins s σ H xs us Q I r h
  obtain ⟨D, rfl, rfl, C, tp, cs, ws, b, rfl, hT, k, e, q⟩ := h
  obtain ⟨u1, u2, rfl, r1, r2⟩ := vals2 r
  cases (show u2 = Value.ref tp from r2)
  cases (show u1 = Value.ref a from r1)
  obtain ⟨hget, _⟩ := I.pin (a, oe) (List.mem_append.mpr (.inl List.mem_cons_self))
  obtain ⟨vs, hv⟩ := hf
  have J : PySem.W.InstAt s.heap a oe D none := by
    obtain ⟨oc, od, oda, osl⟩ := oe
    obtain ⟨h1, h2⟩ := hz
    dsimp only at h1 h2 hv
    subst h1 h2 hv
    exact ⟨hget, rfl, rfl, trivial⟩
  obtain ⟨_, its, rv, o, h1, h2, n, h3⟩ := (show ObjOk X.prog X.w H s.heap tp (.tup cs) from I.hok tp _ hT)
  have e3 := ClsV.all k rv
  subst e3
  obtain ⟨oc, od, dt, sl⟩ := o
  simp only at h2 h3
  subst h2 h3
  exact PySem.W.kia_tup (PySem.W.handS_kitx_exc C.hg C.hk C.hs C.hd C.ha C.hn C.ht C.hm) I.kIn J h1 e (fun z => nomatch z) fun tk => ⟨.bl b, H, I.kept (t' := tk) fun _ _ z => z, rfl, q⟩
/-- a class that is asked for, as values -/
def xcV (G : Gd) : Option Nat → V
  | some c => .ref (G.ca c)
  | none => .ty "ValueError"
def xcU (G : Gd) : Option Nat → Value
  | some c => .ref (G.ca c)
  | none => .type "ValueError"
theorem xcClsV (G : Gd) (c : Option Nat) : ClsV (xcV G c) (xcU G c) := by cases c <;> first | exact .own _ | exact .ty _
theorem xcPair (G : Gd) : ∀ cs : List (Option Nat), Paired ClsV (cs.map (xcV G)) (cs.map (xcU G))
  | [] => .nil
  | c :: r => .cons (xcClsV G c) (xcPair G r)
theorem xAny_at (go : GOk G T) {c : Nat} (hc : T.xc c = true) : ∀ (cs : List (Option Nat)), (∀ d ∈ cs, ∀ j, d = some j → (T.cl j).isSome = true) → PySem.W.kitAny G.K (.ref (G.ca c)) (cs.map (xcU G)) = some (xAny T c cs)
  | [], _ => rfl
  | d :: r, h => by
    have ih := xAny_at go hc r fun x hx => h x (List.mem_cons_of_mem _ hx)
    obtain ⟨x, hx⟩ := Option.isSome_iff_exists.mp (go.xcl c hc)
    show (match PySem.W.kitOne G.K (.ref (G.ca c)) (xcU G d) with | some true => some true | some false => PySem.W.kitAny G.K (.ref (G.ca c)) (r.map (xcU G)) | none => none) = _
    cases d with
    | none =>
      rw [show xcU G none = .type "ValueError" from rfl, (go.xc c x hx hc).ve]
      rfl
    | some j =>
      obtain ⟨y, hy⟩ := Option.isSome_iff_exists.mp (h _ List.mem_cons_self j rfl)
      rw [show xcU G (some j) = .ref (G.ca j) from rfl, go.iso c j x y hx hy]
      unfold xAny
      cases T.sub c j with
      | true => rfl
      | false => exact ih
theorem bootVE : bootBuiltins "ValueError" = some (.type "ValueError") := by decide +kernel
theorem xcls_ok (go : GOk G T) (fo : FOk G N sc k X) : ∀ (cs : List (Option Nat)) (l : List Expr), xcsC T sc cs l = true → (∀ pn', PA (X.suite a pn') l (fun σ H Q => Q (cs.map (xcV G)) H)) ∧ (∀ d ∈ cs, ∀ j, d = some j → (T.cl j).isSome = true) ∧ l.all plainX = true
  | [], l, h => by
    unfold xcsC at h
    cases l with
    | nil => exact ⟨fun _ => pa_nil, fun d hd => absurd hd List.not_mem_nil, rfl⟩
    | cons a r => cases h
  | none :: r, l, h => by
    unfold xcsC at h
    split at h
    · simp only [Bool.and_eq_true, decide_eq_true_eq] at h
      obtain ⟨⟨⟨rfl, h1⟩, h2⟩, h3⟩ := h
      obtain ⟨i1, i2, i3⟩ := xcls_ok go fo r _ h3
      refine ⟨fun pn' => PA.of (pa_cons (pe_bltn (X := X.suite a pn') (v := .ty "ValueError") (xgl fo.toXOk (glC_ok h2).1) (hasNo fo.toXOk go h1) bootVE rfl (by decide +kernel) (by decide +kernel)) (i1 pn')) fun σ H Q q => q, fun d hd j e => ?_, by rw [List.all_cons, i3]; rfl⟩
      rcases List.mem_cons.mp hd with rfl | hd
      · cases e
      · exact i2 d hd j e
    · cases h
  | some c :: r, l, h => by
    unfold xcsC at h
    split at h
    · simp only [Bool.and_eq_true] at h
      obtain ⟨⟨h1, h2⟩, h3⟩ := h
      have q1 := isS_ok h1
      obtain ⟨q3, q4⟩ := glC_ok h2
      obtain ⟨i1, i2, i3⟩ := xcls_ok go fo r _ h3
      refine ⟨fun pn' => PA.of (pa_cons (pe_glob (X := X.suite a pn') (v := .ref (G.ca c)) (xgl fo.toXOk q3) (show X.mg _ = _ by rw [fo.mg]; exact (go.cl c _ q1).1) rfl q4) (i1 pn')) fun σ H Q q => q, fun d hd j e => ?_, by rw [List.all_cons, i3]; rfl⟩
      rcases List.mem_cons.mp hd with rfl | hd
      · cases e; rw [q1]; rfl
      · exact i2 d hd j e
    · cases h
/-- the caught one is in its slot; its class -/
def rdX (G : Gd) (T : Tab) (i : Nat) (a : Addr) (cls : Value) (d : Option Addr) (t : XE) : TE := fun σ H Q => σ[i]? = some (some (.ref a)) ∧ d = none ∧ ∃ c, cls = .ref (G.ca c) ∧ T.xc c = true ∧ ∃ F S ρ, Sim (G.frm F) S ρ H ∧
  ∀ ρ' H', Sim (G.frm F) S ρ' H' → Stp (G.frm F) S S ρ ρ' H H' → Q (.bl (evX T c t)) H'
def rdXT (G : Gd) (T : Tab) (i : Nat) (a : Addr) (cls : Value) (d : Option Addr) (t : XE) : TT := fun σ H Q => σ[i]? = some (some (.ref a)) ∧ d = none ∧ ∃ c, cls = .ref (G.ca c) ∧ T.xc c = true ∧ ∃ F S ρ, Sim (G.frm F) S ρ H ∧
  ∀ ρ' H', Sim (G.frm F) S ρ' H' → Stp (G.frm F) S S ρ ρ' H H' → Q (evX T c t) H'
theorem isEx_ok (fo : FOk G N sc k X) {e : Expr} (h : isEx N sc i e = true) : PE (X.suite a pn) e (tVar i) ∧ plainX e = true := by
  unfold isEx at h
  split at h
  · unfold varC at h
    simp only [Bool.and_eq_true, Bool.not_eq_true'] at h
    exact ⟨pe_var (X := X.suite a pn) (i := i) (show X.N[i]? = _ by rw [fo.eqN]; exact ixC_ok h.1.1.1) (show Vis X.env.scope _ by rw [fo.sc]; exact visC_ok h.1.1.2) h.1.2 h.2, rfl⟩
  · cases h
theorem xe_ok (go : GOk G T) (fo : FOk G N sc k X) (hz : Zc cls d oe) (hf : ∃ vs, oe.data = .fields vs) : ∀ (t : XE) (x : Expr), xeC T N sc i t x = true → PE (X.suite a ((a, oe) :: pn)) x (rdX G T i a cls d t) ∧ PT (X.suite a ((a, oe) :: pn)) x (rdXT G T i a cls d t) ∧ (isBoolA x = true → PW (X.suite a ((a, oe) :: pn)) x (rdXT G T i a cls d t))
  | .isi one cs, x, h => by
    unfold xeC at h
    split at h
    · rename_i f fp e t p
      simp only [Bool.and_eq_true, decide_eq_true_eq] at h
      obtain ⟨⟨⟨⟨rfl, h1⟩, h2⟩, h3⟩, h4⟩ := h
      obtain ⟨he, hp⟩ := isEx_ok (a := a) (pn := (a, oe) :: pn) fo h3
      have main : PE (X.suite a ((a, oe) :: pn)) (.Call (.Name "isinstance" fp) [e, t] [] p) (rdX G T i a cls d (.isi one cs)) := by
        cases one with
        | true =>
          simp only at h4
          split at h4
          · rename_i c
            obtain ⟨i1, i2, i3⟩ := xcls_ok (a := a) go fo _ _ h4
            refine PE.of (pe_callB (X := X.suite a ((a, oe) :: pn)) (call_isX1 hz hf) (xgl fo.toXOk (glC_ok h2).1) (hasNo fo.toXOk go h1) bootIs (pa_cons he (i1 _) (star_eq hp _ _)) (by decide +kernel) (by decide +kernel) (star_eq hp _ _) (by
              have := (star_all p X.env (es := [t]) i3).1
              exact this)) fun σ H Q ⟨hs, hd, c0, ec, xc, F, S, ρ, sim, q⟩ => ?_
            obtain ⟨y, hy⟩ := Option.isSome_iff_exists.mp (go.xcl c0 xc)
            have k1 := xAny_at go xc [c] i2
            refine ⟨_, hs, G.ca c0, ec, hd, by rw [fo.K]; exact (go.xc c0 y hy xc).e, xcV G c, xcU G c, _, rfl, xcClsV G c, ?_, q ρ H sim Stp.refl⟩
            have k2 : (match PySem.W.kitOne G.K (.ref (G.ca c0)) (xcU G c) with | some true => some true | some false => some false | none => none) = some (xAny T c0 [c]) := k1
            show PySem.W.kitOne X.K (.ref (G.ca c0)) (xcU G c) = some (xAny T c0 [c])
            rw [fo.K, ← k2]
            cases PySem.W.kitOne G.K (.ref (G.ca c0)) (xcU G c) with
            | none => rfl
            | some b => cases b <;> rfl
          · cases h4
        | false =>
          simp only at h4
          split at h4
          · rename_i l kk tp
            rw [Bool.and_eq_true] at h4
            obtain ⟨i1, i2, i3⟩ := xcls_ok (a := a) go fo _ _ h4.2
            refine PE.of (pe_callB (X := X.suite a ((a, oe) :: pn)) (call_isXT hz hf) (xgl fo.toXOk (glC_ok h2).1) (hasNo fo.toXOk go h1) bootIs (pa_cons he (pa_cons (pe_tup (i1 _)) pa_nil) (star_eq hp _ _)) (by decide +kernel) (by decide +kernel) (star_eq hp _ _) rfl) fun σ H Q ⟨hs, hd, c0, ec, xc, F, S, ρ, sim, q⟩ => ?_
            obtain ⟨y, hy⟩ := Option.isSome_iff_exists.mp (go.xcl c0 xc)
            have hl : cs.length < 100 := Nat.le_of_ble_eq_true h4.1
            refine ⟨_, hs, by rw [line, List.length_map]; omega, fun tp htp => ?_⟩
            have st := Stp.laid (o := .tup (cs.map (xcV G))) sim htp
            have s3 := sim.laid (o := .tup (cs.map (xcV G))) htp
            exact ⟨G.ca c0, ec, hd, by rw [fo.K]; exact (go.xc c0 y hy xc).e, tp, _, _, _, rfl, upd_same, xcPair G cs, by rw [fo.K]; exact xAny_at go xc cs i2, q _ _ s3 st⟩
          · cases h4
      refine ⟨main, PT.of (pt_truth main (tst_val rfl _)) fun σ H Q ⟨hs, hd, c0, ec, xc, F, S, ρ, sim, q⟩ => ⟨hs, hd, c0, ec, xc, F, S, ρ, sim, fun ρ' H' s t => ⟨_, rfl, q ρ' H' s t⟩⟩, fun z => nomatch z⟩
    · cases h
  | .and_ u v, x, h => by
    unfold xeC at h
    split at h
    · rename_i o y z r p
      simp only [Bool.and_eq_true, decide_eq_true_eq] at h
      obtain ⟨⟨rfl, h1⟩, h2⟩ := h
      obtain ⟨e1, t1, _⟩ := xe_ok go fo hz hf u _ h1
      obtain ⟨e2, t2, w2⟩ := xe_ok go fo hz hf v _ h2
      have pe2 : PE (X.suite a ((a, oe) :: pn)) (.BoolOp .And (z :: r) p) (rdX G T i a cls d v) := by
        cases r with
        | nil => exact PE.of (pe_one e2) fun _ _ _ q => q
        | cons _ _ => exact e2
      have pw2 : PW (X.suite a ((a, oe) :: pn)) (.BoolOp .And (z :: r) p) (rdXT G T i a cls d v) := by
        cases r with
        | nil => exact pw_and1 t2
        | cons _ _ => exact w2 rfl
      have pw : PW (X.suite a ((a, oe) :: pn)) (.BoolOp .And (y :: z :: r) p) (rdXT G T i a cls d (.and_ u v)) := PW.of (pw_and t1 pw2) fun σ H Q ⟨hs, hd, c0, ec, xc, F, S, ρ, sim, q⟩ => ⟨hs, hd, c0, ec, xc, F, S, ρ, sim, fun ρ' H' s t => by
        cases hu : evX T c0 u with
        | true =>
          rw [if_pos rfl]
          refine ⟨hs, hd, c0, ec, xc, F, S, ρ', s, fun ρ2 H2 s2 t2 => ?_⟩
          have := q ρ2 H2 s2 (t.trans t2)
          unfold evX at this
          rw [hu] at this
          exact this
        | false =>
          rw [if_neg Bool.false_ne_true]
          have := q ρ' H' s t
          unfold evX at this
          rw [hu] at this
          exact this⟩
      refine ⟨PE.of (pe_and e1 pe2) fun σ H Q ⟨hs, hd, c0, ec, xc, F, S, ρ, sim, q⟩ => ⟨hs, hd, c0, ec, xc, F, S, ρ, sim, fun ρ' H' s t => ⟨_, rfl, ?_⟩⟩, pw.pt, fun _ => pw⟩
      cases hu : evX T c0 u with
      | true =>
        rw [if_pos rfl]
        refine ⟨hs, hd, c0, ec, xc, F, S, ρ', s, fun ρ2 H2 s2 t2 => ?_⟩
        have := q ρ2 H2 s2 (t.trans t2)
        unfold evX at this
        rw [hu] at this
        exact this
      | false =>
        rw [if_neg Bool.false_ne_true]
        have := q ρ' H' s t
        unfold evX at this
        rw [hu] at this
        exact this
    · cases h
  | .or_ u v, x, h => by
    unfold xeC at h
    split at h
    · rename_i o y z r p
      simp only [Bool.and_eq_true, decide_eq_true_eq] at h
      obtain ⟨⟨rfl, h1⟩, h2⟩ := h
      obtain ⟨e1, t1, _⟩ := xe_ok go fo hz hf u _ h1
      obtain ⟨e2, t2, w2⟩ := xe_ok go fo hz hf v _ h2
      have pe2 : PE (X.suite a ((a, oe) :: pn)) (.BoolOp .Or (z :: r) p) (rdX G T i a cls d v) := by
        cases r with
        | nil => exact PE.of (pe_one e2) fun _ _ _ q => q
        | cons _ _ => exact e2
      have pw2 : PW (X.suite a ((a, oe) :: pn)) (.BoolOp .Or (z :: r) p) (rdXT G T i a cls d v) := by
        cases r with
        | nil => exact pw_or1 t2
        | cons _ _ => exact w2 rfl
      have pw : PW (X.suite a ((a, oe) :: pn)) (.BoolOp .Or (y :: z :: r) p) (rdXT G T i a cls d (.or_ u v)) := PW.of (pw_or t1 pw2) fun σ H Q ⟨hs, hd, c0, ec, xc, F, S, ρ, sim, q⟩ => ⟨hs, hd, c0, ec, xc, F, S, ρ, sim, fun ρ' H' s t => by
        cases hu : evX T c0 u with
        | true =>
          rw [if_pos rfl]
          have := q ρ' H' s t
          unfold evX at this
          rw [hu] at this
          exact this
        | false =>
          rw [if_neg Bool.false_ne_true]
          refine ⟨hs, hd, c0, ec, xc, F, S, ρ', s, fun ρ2 H2 s2 t2 => ?_⟩
          have := q ρ2 H2 s2 (t.trans t2)
          unfold evX at this
          rw [hu] at this
          exact this⟩
      refine ⟨PE.of (pe_or e1 pe2) fun σ H Q ⟨hs, hd, c0, ec, xc, F, S, ρ, sim, q⟩ => ⟨hs, hd, c0, ec, xc, F, S, ρ, sim, fun ρ' H' s t => ⟨_, rfl, ?_⟩⟩, pw.pt, fun _ => pw⟩
      cases hu : evX T c0 u with
      | true =>
        rw [if_pos rfl]
        have := q ρ' H' s t
        unfold evX at this
        rw [hu] at this
        exact this
      | false =>
        rw [if_neg Bool.false_ne_true]
        refine ⟨hs, hd, c0, ec, xc, F, S, ρ', s, fun ρ2 H2 s2 t2 => ?_⟩
        have := q ρ2 H2 s2 (t.trans t2)
        unfold evX at this
        rw [hu] at this
        exact this
    · cases h
  | .not u, x, h => by
    unfold xeC at h
    split at h
    · simp only [Bool.and_eq_true, decide_eq_true_eq] at h
      obtain ⟨rfl, h1⟩ := h
      obtain ⟨e1, t1, _⟩ := xe_ok go fo hz hf u _ h1
      exact ⟨PE.of (pe_not e1) fun σ H Q ⟨hs, hd, c0, ec, xc, F, S, ρ, sim, q⟩ => ⟨hs, hd, c0, ec, xc, F, S, ρ, sim, fun ρ' H' s t => ⟨_, rfl, q ρ' H' s t⟩⟩,
        PT.of (pt_not t1) fun σ H Q ⟨hs, hd, c0, ec, xc, F, S, ρ, sim, q⟩ => ⟨hs, hd, c0, ec, xc, F, S, ρ, sim, fun ρ' H' s t => q ρ' H' s t⟩, fun z => nomatch z⟩
    · cases h
/-- a clause's statements, with the exception -/
def rdXs (G : Gd) (T : Tab) (O : Orc) (i : Nat) (a : Addr) (cls : Value) (d : Option Addr) (ss : List XS) : TS := fun D σ H => σ[i]? = some (some (.ref a)) ∧ d = none ∧ ∃ c, cls = .ref (G.ca c) ∧ T.xc c = true ∧ ∃ F τ S ρ P, At (G.frm F) τ S ρ σ H ∧ xsW T O c ss P τ S ∧ EndOk (G.frm F) Wno P D S ρ H
theorem xs_ok (go : GOk G T) (fo : FOk G N sc k X) (hz : Zc cls d oe) (hf : ∃ vs, oe.data = .fields vs) : ∀ (ss : List XS) (l : List Stmt), xsC T N sc i ss l = true → PSs (X.suite a ((a, oe) :: pn)) l (rdXs G T O i a cls d ss)
  | [], l, h => by
    unfold xsC at h
    cases l with
    | nil => exact PSs.of pss_nil fun D σ H ⟨_, _, c, _, _, F, τ, S, ρ, P, at_, w, e⟩ => e.nx _ _ _ _ _ w at_ Stp.refl
    | cons _ _ => cases h
  | .ret t :: r, l, h => by
    unfold xsC at h
    split at h
    · rename_i x p q
      simp only [Bool.and_eq_true] at h
      obtain ⟨⟨h1, h2⟩, h3⟩ := h
      cases q with
      | cons _ _ => cases h3
      | nil =>
        exact PSs.of (pss_cons (ps_ret (xe_ok go fo hz hf t _ h1).1) pss_nil) fun D σ H ⟨hs, hd, c, ec, xc, F, τ, S, ρ, P, at_, w, e⟩ => ⟨hs, hd, c, ec, xc, F, S, ρ, at_.sim, fun ρ' H' s t2 => e.rt _ _ _ _ _ w s t2 (.bl _)⟩
    · cases h
  | .ifr t ex :: r, l, h => by
    unfold xsC at h
    split at h
    · rename_i x v p p2 q
      simp only [Bool.and_eq_true] at h
      obtain ⟨⟨h1, h2⟩, h3⟩ := h
      refine PSs.of (pss_cons (ps_if (xe_ok go fo hz hf t _ h1).2.1 (pss_cons (ps_ret (hot_ok (X := X.suite a ((a, oe) :: pn)) (G := G) (T := T) (O := O) (W := Wno) ⟨fo.eqN, fo.sc⟩ ex _ h2)) pss_nil) pss_nil) (xs_ok go fo hz hf r _ h3)) fun D σ H ⟨hs, hd, c, ec, xc, F, τ, S, ρ, P, at_, w, e⟩ => ⟨hs, hd, c, ec, xc, F, S, ρ, at_.sim, fun ρ' H' s t2 => ?_⟩
      unfold xsW at w
      cases ht : evX T c t with
      | true =>
        rw [ht] at w
        rw [if_pos rfl]
        exact ⟨F, τ, S, ρ', _, _, at_.step s t2, w, e.rt.step t2, FinX.no⟩
      | false =>
        rw [ht] at w
        rw [if_neg Bool.false_ne_true]
        exact ⟨hs, hd, c, ec, xc, F, τ, S, ρ', P, at_.step s t2, w, e.step t2⟩
    · cases h
theorem at_put {F : Addr → Prop} {τ : Sl} {S : Store} {ρ : List Addr} {σ : L2.St} {H : Hp} {v : Option V} (h : At (G.frm F) τ S ρ σ H) : At (G.frm F) (τ.set i none) S ρ (σ.set i v) H := by
  refine ⟨h.sim, by simp [h.len], fun j d hd => ?_⟩
  by_cases e : i = j
  · subst e
    have hd' := ((getS_iff _ _ _).mp hd : (τ.set i none)[i]? = some (some d))
    rw [List.getElem?_set] at hd'
    split at hd'
    · split at hd' <;> cases hd'
    · rename_i z; exact absurd rfl z
  · have hd' := ((getS_iff _ _ _).mp hd : (τ.set i none)[j]? = some (some d))
    rw [List.getElem?_set_ne e] at hd'
    obtain ⟨u, h1, h2⟩ := h.sl j d ((getS_iff _ _ _).mpr hd')
    exact ⟨u, by rw [List.getElem?_set_ne e]; exact h1, h2⟩
end
theorem okB_tryA {b : List IS} {c i : Nat} {ss : List XS} {l su : List Stmt} {b₀ : Stmt} {x n : Str} {np pos pos' : Pos} (go : GOk G T) (fo : FOk G N sc k X) (tk : Takes X W)
    (hb : ∀ (W' : WX) (pn : List (Addr × Obj)) (xe : Value → Shared → Prop), Takes (X.tr pn xe) W' → PassesOwn (model X.prog X.w) X.A X.env xe → PSs (X.tr pn xe) l (rdBs G T O W' b))
    (hc : clC T sc c x = true) (hn : nC N sc i n = true) (hh : xsC T N sc i ss (b₀ :: su) = true) : PS X (.Try l [.ExceptHandler (some (.Name x np)) (some n) (b₀ :: su) pos'] [] [] pos) (rdB1 G T O W (.tryA b c i ss)) := by
  unfold nC at hn
  simp only [Bool.and_eq_true, Bool.not_eq_true'] at hn
  have hi : N[i]? = some n := ixC_ok hn.1.1.1.1
  have hloc : X.env.kindOf n = some .local := by
    show X.env.scope.names.lookup n = _
    rw [fo.sc]
    have := hn.1.1.1.2
    unfold locC at this
    split at this
    · assumption
    · cases this
  refine PS.of (ps_try_as (i := i) fo.hs fo.hf (by rw [fo.eqN]; exact fo.nd) (by rw [fo.eqN]; exact hi) hloc (names_ok go fo hc) tk hb (fun a oe cls d pn hz hf => xs_ok (O := O) go fo hz hf ss _ hh)) fun D σ H ⟨F, τ, S, ρ, P, a, w, e⟩ => ?_
  rw [wpS] at w
  refine ⟨F, τ, S, ρ, _, a, w, e.nx, e.rt, e.bk, e.ct, fun τ' S' σ' ρ' H' a' t d S2 ρ2 H2 cls dx p s t2 x => ?_⟩
  have a2 := a'.step s t2
  unfold handA at p
  cases d with
  | exc c0 ns fs =>
    obtain ⟨p1, p⟩ := p
    have ec : cls = .ref (G.ca c0) := by
      cases ns with
      | nil => exact x.1
      | cons n ns => exact x.1
    refine ⟨T.sub c0 c, by rw [fo.K, ec]; exact go.exm c0 c p1 (clC_ok hc).2.1, fun hbb q hq => ?_, fun hbb => ?_⟩
    · rw [hbb] at p
      obtain ⟨⟨rfl, hlt⟩, p⟩ := p
      have hlt : i < σ'.length := by rw [← a2.len]; exact Nat.le_of_ble_eq_true hlt
      refine ⟨List.getElem?_set_self hlt, x.2, c0, ec, p1, F, _, S2, ρ2, _, at_put a2, p, ?_⟩
      exact ⟨fun τ3 S3 σ3 ρ3 H3 p3 a3 t3 => e.nx _ _ _ _ _ p3 (at_put a3) ((t.trans t2).trans t3), e.rt.step (t.trans t2), fun τ3 S3 σ3 ρ3 H3 p3 a3 t3 => e.bk _ _ _ _ _ p3 (at_put a3) ((t.trans t2).trans t3), fun τ3 S3 σ3 ρ3 H3 p3 a3 t3 => e.ct _ _ _ _ _ p3 (at_put a3) ((t.trans t2).trans t3), fun _ _ _ _ _ _ _ => FinX.no⟩
    · rw [hbb] at p
      exact e.ex τ' S2 σ' ρ2 H2 a2 (t.trans t2) _ _ _ _ _ _ p a2.sim Stp.refl x
  | _ => exact p.elim
end
end DL

set_option maxHeartbeats 1000000
/-! DL 8b: bodies: the check, and what it gives; defs -/
namespace DL
open PySem PySem.Spec PyProof.Rows L2
def slC (N : List Str) (sc : Scope) (i : Nat) (x : Str) : Bool := ixC N i x && (match sc.names.lookup x with
  | some .local => true
  | some .cell => true
  | _ => false)
theorem slC_ok {N : List Str} {sc : Scope} {i : Nat} {x : Str} (h : slC N sc i x = true) : SlOk N sc i x := by
  unfold slC at h
  rw [Bool.and_eq_true] at h
  refine ⟨ixC_ok h.1, ?_⟩
  have := h.2
  split at this
  · exact .inl (by assumption)
  · exact .inr (by assumption)
  · cases this
def ltgsC (N : List Str) (sc : Scope) : List Nat → List Expr → Bool
  | [], [] => true
  | i :: is, e :: es => (match e with
    | .Name x _ => slC N sc i x
    | _ => false) && ltgsC N sc is es
  | _, _ => false
def ltgC (N : List Str) (sc : Scope) : Tg → Expr → Bool
  | .nm i, e => match e with
    | .Name x _ => slC N sc i x
    | _ => false
  | .tp is, e => match e with
    | .Tuple es _ _ => ltgsC N sc is es && namesA es && Nat.beq es.length is.length
    | _ => false
section
variable {G : Gd} {T : Tab} {N : List Str} {sc : Scope} {k : Nat} {X : Cx} {W : WX} {O : Orc}
theorem slTg (fo : FOk G N sc k X) {i : Nat} {x : Str} (h : SlOk N sc i x) : TgOk X N i x := ⟨h.ix, h.loc fo, .inl (fo.fnx x)⟩
theorem ltgs_ok (fo : FOk G N sc k X) : ∀ {is : List Nat} {es : List Expr}, ltgsC N sc is es = true → PGs X es (rdGs G is)
  | [], [], _ => ok_tgsNil
  | [], _ :: _, h => by cases h
  | _ :: _, [], h => by cases h
  | i :: is, e :: es, h => by
    unfold ltgsC at h
    rw [Bool.and_eq_true] at h
    obtain ⟨h1, h2⟩ := h
    split at h1
    · exact ok_tgsCons fo.eqN fo.nd (slTg fo (slC_ok h1)) (ltgs_ok fo h2)
    · cases h1
theorem ltg_ok (fo : FOk G N sc k X) {tg : Tg} {e : Expr} (h : ltgC N sc tg e = true) : PG X e (rdG G tg) := by
  cases tg with
  | nm i =>
    simp only [ltgC] at h
    split at h
    · exact ok_tgN fo.eqN fo.nd (slTg fo (slC_ok h))
    · cases h
  | tp is =>
    simp only [ltgC] at h
    split at h
    · rw [Bool.and_eq_true, Bool.and_eq_true] at h
      exact ok_tgT fo.K fo.calm h.1.2 (Nat.eq_of_beq_eq_true h.2) (ltgs_ok fo h.1.1)
    · cases h
/-- a source's check, in a for -/
def srcC (T : Tab) (N : List Str) (sc : Scope) (it : ItK) (src : List IE) (i t : Expr) : Bool := match it with
  | .e => (match src with
    | [a] => chkE T N sc a i
    | _ => false)
  | .rng1 => (match i with
    | .Call (.Name x _) [l] [] _ => decide (x = "range") && T.fre "range" && glC sc "range" && plainX l && chkL T N sc src [l]
    | _ => false)
  | .rng2 => (match i with
    | .Call (.Name x _) [l, r] [] _ => decide (x = "range") && T.fre "range" && glC sc "range" && plainX l && plainX r && chkL T N sc src [l, r]
    | _ => false)
  | .enum => (match i with
    | .Call (.Name x _) [l] [] _ => decide (x = "enumerate") && T.fre "enumerate" && glC sc "enumerate" && plainX l && tupX t && chkL T N sc src [l]
    | _ => false)
  | .zip => (match i with
    | .Call (.Name x _) [l, r] [] _ => decide (x = "zip") && T.fre "zip" && glC sc "zip" && plainX l && plainX r && tupX t && chkL T N sc src [l, r]
    | _ => false)
  | .items => (match i with
    | .Call (.Attribute o x ap) [] [] p => decide (x = "items") && noSup o && (ap.endLine == p.line) && tupX t && (match src with
      | [a] => chkE T N sc a o
      | _ => false)
    | _ => false)
  | .values => (match i with
    | .Call (.Attribute o x ap) [] [] p => decide (x = "values") && noSup o && (ap.endLine == p.line) && (match src with
      | [a] => chkE T N sc a o
      | _ => false)
    | _ => false)
  | _ => false
theorem src_ok (go : GOk G T) (xo : XOk G N sc k X) (tk : Takes X W) {it : ItK} {src : List IE} {i tg : Expr} (h : srcC T N sc it src i tg = true) : PI X tg i (rdS G T (orc G T k) W it src) := by
  unfold srcC at h
  split at h
  · split at h
    · exact ok_srcE xo (sndE go _ xo tk _ h).1
    · cases h
  · split at h
    · simp only [Bool.and_eq_true, decide_eq_true_eq] at h
      obtain ⟨⟨⟨⟨rfl, g1⟩, g2⟩, g3⟩, g4⟩ := h
      exact ok_srcR1 xo go g3 g1 (glC_ok g2).1 (sndL go src xo tk _ g4 (by simp [g3])).1
    · cases h
  · split at h
    · simp only [Bool.and_eq_true, decide_eq_true_eq] at h
      obtain ⟨⟨⟨⟨⟨rfl, g1⟩, g2⟩, g3⟩, g5⟩, g4⟩ := h
      exact ok_srcR2 xo go g3 g5 g1 (glC_ok g2).1 (sndL go src xo tk _ g4 (by simp [g3, g5])).1
    · cases h
  · split at h
    · simp only [Bool.and_eq_true, decide_eq_true_eq] at h
      obtain ⟨⟨⟨⟨⟨rfl, g1⟩, g2⟩, g3⟩, g5⟩, g4⟩ := h
      obtain ⟨el', kk, tp, rfl⟩ := tupX_ok g5
      exact ok_srcEn xo go g3 g1 (glC_ok g2).1 (sndL go src xo tk _ g4 (by simp [g3])).1
    · cases h
  · split at h
    · simp only [Bool.and_eq_true, decide_eq_true_eq] at h
      obtain ⟨⟨⟨⟨⟨⟨rfl, g1⟩, g2⟩, g3⟩, g6⟩, g5⟩, g4⟩ := h
      obtain ⟨el', kk, tp, rfl⟩ := tupX_ok g5
      exact ok_srcZp xo go g3 g6 g1 (glC_ok g2).1 (sndL go src xo tk _ g4 (by simp [g3, g6])).1
    · cases h
  · split at h
    · simp only [Bool.and_eq_true, decide_eq_true_eq] at h
      obtain ⟨⟨⟨⟨rfl, g1⟩, g2⟩, g5⟩, g4⟩ := h
      obtain ⟨el', kk, tp, rfl⟩ := tupX_ok g5
      split at g4
      · exact ok_srcIt g1 g2 (sndE go _ xo tk _ g4).1
      · cases g4
    · cases h
  · split at h
    · simp only [Bool.and_eq_true, decide_eq_true_eq] at h
      obtain ⟨⟨⟨rfl, g1⟩, g2⟩, g4⟩ := h
      split at g4
      · exact ok_srcVs g1 g2 (sndE go _ xo tk _ g4).1
      · cases g4
    · cases h
  · cases h
/-- what is set: a comprehension on its target's line goes another way -/
def setC (T : Tab) (N : List Str) (sc : Scope) (i : Nat) (e : IE) (x : Str) (p : Pos) (v : Expr) : Bool := slC N sc i x && chkE T N sc e v && (match v with
  | .ListComp _ _ scope pos => (match swC sc scope x p.line pos.line with
    | true => (match e with
      | .lc .. => true
      | _ => false)
    | false => true)
  | .SetComp .. => false
  | .DictComp .. => false
  | _ => true)
theorem set_ok (go : GOk G T) (fo : FOk G N sc k X) (tk : Takes X W) {i : Nat} {e : IE} {x : Str} {p pos : Pos} {v : Expr} (h : setC T N sc i e x p v = true) : PS X (.Assign [.Name x p] v pos) (rdB1 G T (orc G T k) W (.set i e)) := by
  unfold setC at h
  simp only [Bool.and_eq_true] at h
  obtain ⟨⟨h1, h2⟩, h3⟩ := h
  have plain : swapsWith v (some (.Name x p)) pos.line X.env = pure false → PS X (.Assign [.Name x p] v pos) (rdB1 G T (orc G T k) W (.set i e)) := fun hs => okB_set fo (slC_ok h1) hs (sndE go e fo.toXOk tk v h2).1
  split at h3
  · rename_i el gs scope lp
    cases hsw : swC sc scope x p.line lp.line with
    | false => exact plain (by rw [sw_val fo, hsw])
    | true =>
      rw [hsw] at h3
      cases e <;> simp only at h3 <;> try exact absurd h3 Bool.false_ne_true
      rename_i fz own tg it src ifs elt
      unfold chkE at h2
      split at h2
      · rename_i heq
        cases heq
        simp only [Bool.and_eq_true] at h2
        obtain ⟨⟨⟨⟨⟨⟨g1, g2⟩, g3⟩, g4⟩, g5⟩, g6⟩, g7⟩ := h2
        have g5' : srcC T N sc it src _ _ = true := g5
        exact okB_setLc fo (slC_ok h1) hsw (src_ok go fo.toXOk tk g5') g1 (by simp [List.map_map, Function.comp_def]) (fun j hj => by simpa using List.all_eq_true.mp g2 j hj) (fun X' xo' => tg_ok xo' g4)
          (fun X' xo' => sndI go ifs xo' no_takes _ g6) (fun X' xo' => (sndE go elt xo' no_takes _ g7).1) g3
      · cases h2
  · cases h3
  · cases h3
  · rename_i n1 n2 n3
    refine plain (noLc_sw ?_ _ _ _)
    cases v <;> first
      | rfl
      | exact absurd rfl (n1 _ _ _ _)
      | exact absurd rfl (n2 _ _ _ _)
      | exact absurd rfl (n3 _ _ _ _ _)
end
def isGh : IS → Bool
  | .gh => true
  | _ => false
section
variable (T : Tab) (N : List Str) (sc : Scope)
mutual
def chkS : IS → Stmt → Bool
  | .set i e, s => match s with
    | .Assign [.Name x p] v _ => setC T N sc i e x p v
    | _ => false
  | .setF a f v, s => match s with
    | .Assign [.Attribute o x _] w _ => decide (T.nm f = x) && noLc w && chkE T N sc a o && chkE T N sc v w
    | _ => false
  | .aug i op e, s => match s with
    | .AugAssign (.Name x _) o v _ => decide (o = op) && slC N sc i x && chkE T N sc e v
    | _ => false
  | .setI a i v, s => match s with
    | .Assign [.Subscript o ix _] w _ => noSlice ix && chkE T N sc a o && chkE T N sc i ix && chkE T N sc v w
    | _ => false
  | .augI a i op v, s => match s with
    | .AugAssign (.Subscript o ix _) o2 w _ => decide (o2 = op) && noSlice ix && chkE T N sc a o && chkE T N sc i ix && chkE T N sc v w
    | _ => false
  | .setT is v, s => match s with
    | .Assign [.Tuple es j p] w _ => noTup w && ltgC N sc (.tp is) (.Tuple es j p) && chkE T N sc v w
    | _ => false
  | .ex e, s => match s with
    | .Expr v _ => noLc v && chkE T N sc e v
    | _ => false
  | .ret e, s => match s with
    | .Return (some v) _ => chkE T N sc e v
    | _ => false
  | .retN, s => match s with
    | .Return none _ => true
    | _ => false
  | .pass, s => match s with
    | .Pass _ => true
    | _ => false
  | .brk, s => match s with
    | .Break _ => true
    | _ => false
  | .cont, s => match s with
    | .Continue _ => true
    | _ => false
  | .ite c a b, s => match s with
    | .If t l r _ => chkT T N sc c t && chkSs a l && chkSs b r
    | _ => false
  | .whl c b, s => match s with
    | .While t l [] _ => chkT T N sc c t && chkSs b l
    | _ => false
  | .for_ tg it src b, s => match s with
    | .For t i l [] _ => ltgC N sc tg t && noSet i && srcC T N sc it src i t && chkSs b l
    | _ => false
  | .raise c _, s => match s with
    | .Raise (some (.Call (.Name x _) [.Constant (.str _) _ _] [] _)) none _ => isS (T.cl c) x && T.xc c && glC sc x
    | _ => false
  | .rno, s => match s with
    | .Raise _ _ _ => true
    | _ => false
  | .try_ b hs, s => match s with
    | .Try l (h₀ :: hr) [] [] _ => chkSs b l && hdsC T N sc hs (h₀ :: hr)
    | _ => false
  | .tryA b c i ss, s => match s with
    | .Try l [.ExceptHandler (some (.Name x _)) (some n) (b₀ :: su) _] [] [] _ => chkSs b l && clC T sc c x && nC N sc i n && xsC T N sc i ss (b₀ :: su)
    | _ => false
  | _, _ => false
def chkSs : List IS → List Stmt → Bool
  | [], l => l.isEmpty
  | s :: r, l => match isGh s with
    | true => chkSs r l
    | false => match l with
      | st :: sts => chkS s st && chkSs r sts
      | [] => false
end
end
section
variable {G : Gd} {T : Tab} {N : List Str} {sc : Scope} {k : Nat} {X : Cx} {W : WX}
mutual
theorem sndS (go : GOk G T) : ∀ (s : IS) {X : Cx} {W : WX} (fo : FOk G N sc k X) (tk : Takes X W) (st : Stmt), chkS T N sc s st = true → PS X st (rdB1 G T (orc G T k) W s)
  | .set i e, X, W, fo, tk, st, h => by
    unfold chkS at h
    split at h
    · exact set_ok go fo tk h
    · cases h
  | .setF a f v, X, W, fo, tk, st, h => by
    unfold chkS at h
    split at h
    · simp only [Bool.and_eq_true, decide_eq_true_eq] at h
      exact okB_setF fo.toXOk go h.1.1.1 h.1.1.2 (sndE go a fo.toXOk tk _ h.1.2).1 (sndE go v fo.toXOk tk _ h.2).1
    · cases h
  | .aug i op e, X, W, fo, tk, st, h => by
    unfold chkS at h
    split at h
    · simp only [Bool.and_eq_true, decide_eq_true_eq] at h
      obtain ⟨⟨rfl, h1⟩, h2⟩ := h
      exact okB_aug fo (slC_ok h1) (sndE go e fo.toXOk tk _ h2).1
    · cases h
  | .ex e, X, W, fo, tk, st, h => by
    unfold chkS at h
    split at h
    · rw [Bool.and_eq_true] at h
      exact okB_ex h.1 (sndE go e fo.toXOk tk _ h.2).1
    · cases h
  | .ret e, X, W, fo, tk, st, h => by
    unfold chkS at h
    split at h
    · exact okB_ret (sndE go e fo.toXOk tk _ h).1
    · cases h
  | .retN, X, W, fo, tk, st, h => by
    unfold chkS at h
    split at h
    · exact okB_retN
    · cases h
  | .pass, X, W, fo, tk, st, h => by
    unfold chkS at h
    split at h
    · exact okB_pass
    · cases h
  | .brk, X, W, fo, tk, st, h => by
    unfold chkS at h
    split at h
    · exact okB_brk
    · cases h
  | .cont, X, W, fo, tk, st, h => by
    unfold chkS at h
    split at h
    · exact okB_cont
    · cases h
  | .ite c a b, X, W, fo, tk, st, h => by
    unfold chkS at h
    split at h
    · simp only [Bool.and_eq_true] at h
      exact okB_ite (sndT go c fo.toXOk tk _ h.1.1).1 (sndSs go a fo tk _ h.1.2) (sndSs go b fo tk _ h.2)
    · cases h
  | .whl c b, X, W, fo, tk, st, h => by
    unfold chkS at h
    split at h
    · rw [Bool.and_eq_true] at h
      exact okB_whl fo (sndT go c fo.toXOk tk _ h.1).1 (sndSs go b fo tk _ h.2)
    · cases h
  | .for_ tg it src b, X, W, fo, tk, st, h => by
    unfold chkS at h
    split at h
    · simp only [Bool.and_eq_true] at h
      exact okB_for fo (src_ok go fo.toXOk tk h.1.2) (ltg_ok fo h.1.1.1) h.1.1.2 (sndSs go b fo tk _ h.2)
    · cases h
  | .setI a i v, X, W, fo, tk, st, h => by
    unfold chkS at h
    split at h
    · simp only [Bool.and_eq_true] at h
      exact okB_setI fo.toXOk h.1.1.1 (sndE go a fo.toXOk tk _ h.1.1.2).1 (sndE go i fo.toXOk tk _ h.1.2).1 (sndE go v fo.toXOk tk _ h.2).1
    · cases h
  | .augI a i op v, X, W, fo, tk, st, h => by
    unfold chkS at h
    split at h
    · simp only [Bool.and_eq_true, decide_eq_true_eq] at h
      obtain ⟨⟨⟨⟨rfl, h1⟩, h2⟩, h3⟩, h4⟩ := h
      exact okB_augI fo.toXOk h1 (sndE go a fo.toXOk tk _ h2).1 (sndE go i fo.toXOk tk _ h3).1 (sndE go v fo.toXOk tk _ h4).1
    · cases h
  | .setT is v, X, W, fo, tk, st, h => by
    unfold chkS at h
    split at h
    · simp only [Bool.and_eq_true] at h
      exact okB_setT h.1.1 (ltg_ok fo h.1.2) (sndE go v fo.toXOk tk _ h.2).1
    · cases h
  | .par _ _ _ _, X, W, fo, tk, st, h => by unfold chkS at h; cases h
  | .augF _ _ _ _, X, W, fo, tk, st, h => by unfold chkS at h; cases h
  | .raise c es, X, W, fo, tk, st, h => by
    unfold chkS at h
    split at h
    · simp only [Bool.and_eq_true] at h
      exact PS.of (okB_raise (O := orc G T k) (c := c) go fo tk (by unfold clC; rw [h.1.1, h.1.2, h.2]; rfl)) fun D σ H ⟨F, τ, S, ρ, P, a, w, e⟩ => ⟨F, τ, S, ρ, P, a, by rw [wpS] at w ⊢; exact w, e⟩
    · cases h
  | .rno, X, W, fo, tk, st, h => ⟨fun pins s σ H D I ⟨F, τ, S, ρ, P, a, w, e⟩ => by rw [wpS] at w; exact w.elim⟩
  | .try_ b hs, X, W, fo, tk, st, h => by
    unfold chkS at h
    split at h
    · rw [Bool.and_eq_true] at h
      exact okB_try go fo tk (fun W' pn xe tk' own => sndSs go b (X := X.tr pn xe) ⟨⟨fo.prog, fo.w, fo.K, fo.mg, fo.base, fo.eqN, fo.nd, fo.sc, fo.calm, fo.room⟩, fo.fnx, fo.kind, own, fo.hs, fo.hf⟩ tk' _ h.1) h.2
    · cases h
  | .tryA b c i ss, X, W, fo, tk, st, h => by
    unfold chkS at h
    split at h
    · simp only [Bool.and_eq_true] at h
      exact okB_tryA go fo tk (fun W' pn xe tk' own => sndSs go b (X := X.tr pn xe) ⟨⟨fo.prog, fo.w, fo.K, fo.mg, fo.base, fo.eqN, fo.nd, fo.sc, fo.calm, fo.room⟩, fo.fnx, fo.kind, own, fo.hs, fo.hf⟩ tk' _ h.1.1.1) h.1.1.2 h.1.2 h.2
    · cases h
  | .gh, X, W, fo, tk, st, h => by unfold chkS at h; cases h
theorem sndSs (go : GOk G T) : ∀ (ss : List IS) {X : Cx} {W : WX} (fo : FOk G N sc k X) (tk : Takes X W) (l : List Stmt), chkSs T N sc ss l = true → PSs X l (rdBs G T (orc G T k) W ss)
  | [], X, W, fo, tk, l, h => by
    unfold chkSs at h
    cases l with
    | nil => exact okB_nil
    | cons a r => cases h
  | s :: r, X, W, fo, tk, l, h => by
    unfold chkSs at h
    split at h
    · rename_i hg
      cases s <;> first
        | exact okB_gh (sndSs go r fo tk l h)
        | exact absurd hg Bool.false_ne_true
    · cases l with
      | nil => cases h
      | cons st sts =>
        rw [Bool.and_eq_true] at h
        exact okB_cons (sndS go s fo tk st h.1) (sndSs go r fo tk sts h.2)
end
/-! ### defs -/
/-- a body's end -/
def endP (S : Store) (Q E : QD) : Post where
  nx := fun _ S' => ∃ d2 S2, Gh S.length .non S' d2 S2 ∧ Q d2 S2
  rt := fun d S' => ∃ d2 S2, Gh S.length d S' d2 S2 ∧ Q d2 S2
  bk := fun _ _ => False
  ct := fun _ _ => False
  ex := fun _ => E
def slots0 (n : Nat) (args : List D) : Sl := args.map some ++ List.replicate (n - args.length) none
theorem slots0_get {args : List D} {us : List V} {Lv : Addr → Prop} {ρ : List Addr} {H : Hp} (r : RVs G Lv ρ H args us) (hl : (L2.start N us).length = N.length) : ∀ i d, getS (slots0 N.length args) i = some d → ∃ u, (L2.start N us)[i]? = some (some u) ∧ RV G Lv ρ H d u := by
  intro i d h
  rw [getS_iff] at h
  unfold slots0 at h
  unfold L2.start
  by_cases hi : i < args.length
  · rw [List.getElem?_append_left (by simp; exact hi), List.getElem?_map] at h
    obtain ⟨d', e, h2⟩ := Option.map_eq_some_iff.mp h
    cases h2
    obtain ⟨u, e2, h3⟩ := r.get e
    exact ⟨u, by rw [List.getElem?_append_left (by simp; rw [← r.length]; exact hi), List.getElem?_map, e2]; rfl, h3⟩
  · rw [List.getElem?_append_right (by simp; omega)] at h
    simp [List.getElem?_replicate] at h
theorem fnOkP {name qual : Str} {params : Arguments} {body : List Stmt} {scope : Scope} {ps : List Str} {ss : List IS} {f : Nat} {args : List D} {S : Store} {Q E : QD} (go : GOk G T)
    (hf : FunD G.K name qual params body scope [] [] (G.fa f) (G.fd f)) (sc : FnScope N ps scope) (hps : ps.length ≤ N.length) (hc : chkSs T N scope ss body = true) (hl : args.length = ps.length)
    (hw : wpSs T (orc G T k) ss (endP S Q E) (slots0 N.length args) S) : FnOk G.P G.w G.K G.mg G.base (CX G.P G.w) (k + 1) (G.fa f) (G.fd f) ps (spD G args S Q E) := by
  refine FunD.ok (N := N) hf sc (fun vs H Q' E' h => ?_) (fun cdv A outer s H vs Q' E' hr h => ⟨rdBs G T (orc G T k) (fun cls d _ H => E' cls d H) ss, sndSs go ss ⟨⟨rfl, rfl, rfl, rfl, rfl, rfl, sc.nd, rfl, rfl, hr⟩, fun _ => rfl, sc.kind, passes_of rfl, rfl, rfl⟩ (takes_of rfl rfl rfl rfl) body hc, ?_⟩)
  · obtain ⟨F, ρ, sim, rv, _⟩ := h
    rw [← rv.length]; exact hl
  · obtain ⟨F, ρ, sim, rv, fin, fx⟩ := h
    have hlen : (L2.start N vs).length = N.length := by
      unfold L2.start
      simp [← rv.length]
      omega
    refine ⟨F, slots0 N.length args, S, ρ, endP S Q E, ⟨sim, ?_, slots0_get rv hlen⟩, hw, ⟨fun τ' S' σ' ρ' H' p a t => ?_, fun d S' ρ' H' r p s t v => ?_, fun τ' S' σ' ρ' H' p a t => p.elim, fun τ' S' σ' ρ' H' p a t => p.elim, fun τ' S' σ' ρ' H' a t => fx.step t⟩⟩
    · rw [hlen]
      unfold slots0
      simp
      omega
    · obtain ⟨d2, S2, g, q⟩ := p
      exact Fin.gh sim fin g a.sim t .non q
    · obtain ⟨d2, S2, g, q⟩ := p
      exact Fin.gh sim fin g s t v q
theorem fnP {name qual : Str} {params : Arguments} {body : List Stmt} {scope : Scope} {ps : List Str} {ss : List IS} {f : Nat} {args : List D} {S : Store} {Q E : QD} (go : GOk G T)
    (hf : FunD G.K name qual params body scope [] [] (G.fa f) (G.fd f)) (sc : FnScope N ps scope) (hps : ps.length ≤ N.length) (B : Binds G.K (G.fd f) ps []) (hc : chkSs T N scope ss body = true) (hl : args.length = ps.length)
    (hw : wpSs T (orc G T k) ss (endP S Q E) (slots0 N.length args) S) : CallP G (k + 1) f args S Q E := callP_i ⟨ps, fnOkP go hf sc hps hc hl hw, B⟩
end
end DL

set_option maxHeartbeats 1000000
/-! DL 8c: for specs: loops, comprehensions, places, frames -/
namespace DL
open PySem PySem.Spec PyProof.Rows L2
/-- a for, by what holds at its turns -/
theorem for_ind {n0 : Nat} {bind : D → Store → Sl → (Sl → Prop) → Prop} {body : Post → Sl → Store → Prop} {src : Store → Prop} {P : Post} (I : List D → Sl → Store → Prop)
    (hnil : ∀ τ S, I [] τ S → src S ∧ P.nx τ S)
    (hcons : ∀ x r τ S (Nx : Sl → Store → Prop), (∀ τ2 S2, (∃ τ3 S3, Fg n0 τ2 S2 τ3 S3 ∧ I r τ3 S3) → Nx τ2 S2) → I (x :: r) τ S → src S ∧ bind x S τ fun τ1 => body { P with nx := Nx, ct := Nx, bk := P.nx } τ1 S) :
    ∀ (items : List D) (τ : Sl) (S : Store), I items τ S → forW n0 bind body src P items τ S := by
  unfold forW
  intro items
  induction items with
  | nil => exact fun τ S h => hnil τ S h
  | cons x r ih => exact fun τ S h => hcons x r τ S _ (fun τ2 S2 ⟨τ3, S3, g, h2⟩ => ⟨τ3, S3, g, ih τ3 S3 h2⟩) h
theorem whl_ind {n0 : Nat} {test : Sl → Store → (Bool → Store → Prop) → Prop} {body : Post → Sl → Store → Prop} {P : Post} {τ : Sl} {S : Store} (I : Nat → Sl → Store → Prop) (h0 : ∃ m, I m τ S)
    (h : ∀ m τ S (Nx : Sl → Store → Prop), (∀ τ2 S2, (∃ τ3 S3 m', Fg n0 τ2 S2 τ3 S3 ∧ m' < m ∧ I m' τ3 S3) → Nx τ2 S2) → I m τ S → test τ S fun b S1 => iteW b (body { P with nx := Nx, ct := Nx, bk := P.nx } τ S1) (P.nx τ S1)) : whlW n0 test body P τ S := by
  unfold whlW
  exact ⟨I, h0, fun m τ S hm => h m τ S _ (fun _ _ q => q) hm⟩
/-- a comprehension, by what its elements are -/
theorem lc_ind {bind : D → Store → Sl → (Sl → Prop) → Prop} {test : Sl → Store → (Bool → Store → Prop) → Prop} {elt : Sl → Store → QD → Prop} {src : Store → Prop} {τ : Sl} {Q : QL} (I : List D → List D → Store → Prop)
    (hnil : ∀ acc S, I [] acc S → src S ∧ Q acc S)
    (hcons : ∀ x r acc S (N1 : D → Store → Prop) (N2 : Store → Prop), (∀ v S2, (acc.length < 16777216 ∧ ∃ v2 S3, Gh S.length v S2 v2 S3 ∧ I r (acc ++ [v2]) S3) → N1 v S2) → (∀ S2, I r acc S2 → N2 S2) → I (x :: r) acc S →
      src S ∧ bind x S τ fun τ1 => test τ1 S fun b S1 => iteW b (elt τ1 S1 N1) (N2 S1)) :
    ∀ (items acc : List D) (S : Store), I items acc S → lcW bind test elt src τ Q items acc S := by
  unfold lcW
  intro items
  induction items with
  | nil => exact fun acc S h => hnil acc S h
  | cons x r ih => exact fun acc S h => hcons x r acc S _ _ (fun v S2 ⟨hl, v2, S3, g, h2⟩ => ⟨hl, v2, S3, g, ih _ S3 h2⟩) (fun S2 h2 => ih _ S2 h2) h
theorem idx_in {α : Type} {xs : List α} {i : Int} (h0 : 0 ≤ i) (h1 : i < xs.length) : ∃ d, (ixOf xs.length i).bind (xs[·]?) = some d ∧ d ∈ xs := by
  obtain ⟨j, rfl⟩ := Int.eq_ofNat_of_zero_le h0
  have hj : j < xs.length := by omega
  refine ⟨xs[j], ?_, List.getElem_mem hj⟩
  show (if j < xs.length then some j else none).bind (xs[·]?) = _
  rw [if_pos hj]
  exact List.getElem?_eq_getElem hj
theorem ixOf_in {n : Nat} {i : Int} (h0 : 0 ≤ i) (h1 : i < n) : ixOf n i = some i.toNat := by
  obtain ⟨j, rfl⟩ := Int.eq_ofNat_of_zero_le h0
  show (if j < n then some j else none) = _
  rw [if_pos (by omega)]
  rfl
theorem cutL_le {α : Type} (xs : List α) (lo hi : Option Int) : (cutL xs lo hi).length ≤ xs.length := by
  unfold cutL
  simp
  omega
/-- a call of data alone, at any store -/
theorem call_data {G : Gd} {k f : Nat} {args : List D} {S : Store} {Q E : QD} (ha : bels 0 args = true) (he : rens [] args = args)
    (h : CallP G k f args [] (fun d L' => L'.length = 0 ∧ belS 0 L' = true ∧ Q (ren [] d) (putB S [] L')) (fun d L' => L'.length = 0 ∧ belS 0 L' = true ∧ E (ren [] d) (putB S [] L'))) : CallP G k f args S Q E := by
  have := callP_frm (S := S) (is := []) (Q := Q) (E := E) List.nodup_nil (fun _ h => (List.not_mem_nil h).elim) rfl ha h
  rw [he] at this
  exact this
mutual
/-- without names -/
def unp : D → D
  | .tup xs => .tup (unps xs)
  | .lst xs => .lst (unps xs)
  | .klst xs => .klst (unps xs)
  | .dct ks vs => .dct ks (unps vs)
  | .ins c ns fs => .ins c ns (unps fs)
  | .exc c ns fs => .exc c ns fs
  | .pin _ d => unp d
  | .ref n => .ref n
  | .non => .non
  | .bl b => .bl b
  | .int i => .int i
  | .str s => .str s
def unps : List D → List D
  | [] => []
  | d :: r => unp d :: unps r
end
mutual
theorem RV.unp {G : Gd} {Lv : Addr → Prop} {ρ : List Addr} {H : Hp} : ∀ {d : D} {u : V}, RV G Lv ρ H d u → RV G Lv ρ H (DL.unp d) u
  | _, _, .non => .non
  | _, _, .bl b => .bl b
  | _, _, .int i => .int i
  | _, _, .str s => .str s
  | _, _, .tup h r => .tup h (RVs.unp r)
  | _, _, .lst h r => .lst h (RVs.unp r)
  | _, _, .klst h r => .klst h (RVs.unp r)
  | _, _, .dct h r => .dct h (RKs.unp r)
  | _, _, .ins h c r => .ins h c (RFs.unp r)
  | _, _, .ref h => .ref h
  | _, _, .pin (d := d) _ r => RV.unp (d := d) r
theorem RVs.unp {G : Gd} {Lv : Addr → Prop} {ρ : List Addr} {H : Hp} : ∀ {ds : List D} {us : List V}, RVs G Lv ρ H ds us → RVs G Lv ρ H (unps ds) us
  | _, _, .nil => .nil
  | _, _, .cons h t => .cons (RV.unp h) (RVs.unp t)
theorem RKs.unp {G : Gd} {Lv : Addr → Prop} {ρ : List Addr} {H : Hp} : ∀ {ks vs : List D} {us : List (Key × V)}, RKs G Lv ρ H ks vs us → RKs G Lv ρ H ks (unps vs) us
  | _, _, _, .nil => .nil
  | _, _, _, .cons hk h t => .cons hk (RV.unp h) (RKs.unp t)
theorem RFs.unp {G : Gd} {Lv : Addr → Prop} {ρ : List Addr} {H : Hp} : ∀ {fl : List (Str × V)} {ns : List Nat} {ds : List D}, RFs G Lv ρ H fl ns ds → RFs G Lv ρ H fl ns (unps ds)
  | _, _, _, .nil => .nil
  | _, _, _, .cons hn h t => .cons hn (RV.unp h) (RFs.unp t)
end
/-- a call may forget names -/
theorem callP_unp {G : Gd} {k f : Nat} {args args' : List D} {S : Store} {Q E : QD} (e : unps args = args') (h : CallP G k f args' S Q E) : CallP G k f args S Q E := by
  subst e
  obtain ⟨ps, FO, B⟩ := callP_e h
  exact callP_i ⟨ps, FO.imp (fun vs H Qv Ev ⟨F, ρ, sim, rv, fin, fx⟩ => ⟨F, ρ, sim, rv.unp, fin, fx⟩), B⟩
end DL

set_option maxHeartbeats 1000000
/-! DL 8d: objects made and frozen -/
namespace DL
open PySem PySem.Spec PyProof.Rows L2
mutual
theorem sbD_id {n : Nat} {x : D} : ∀ {d : D}, bel n d = true → sbD n x d = d
  | .ref m, h => by
    have : m < n := Nat.le_of_ble_eq_true h
    unfold sbD
    split
    · rename_i e
      have := Nat.eq_of_beq_eq_true e
      omega
    · rfl
  | .tup xs, h => by unfold sbD; rw [sbDs_id (d := xs) h]
  | .lst xs, h => by unfold sbD; rw [sbDs_id (d := xs) h]
  | .klst xs, h => by unfold sbD; rw [sbDs_id (d := xs) h]
  | .dct ks vs, h => by unfold sbD; rw [sbDs_id (d := vs) h]
  | .ins c ns fs, h => by unfold sbD; rw [sbDs_id (d := fs) h]
  | .exc c ns fs, h => by unfold sbD; rw [sbDs_id (d := fs) h]
  | .pin m d, h => by unfold sbD; rw [sbD_id (d := d) (Bool.and_eq_true_iff.mp h).2]
  | .non, _ => rfl
  | .bl _, _ => rfl
  | .int _, _ => rfl
  | .str _, _ => rfl
theorem sbDs_id {n : Nat} {x : D} : ∀ {d : List D}, bels n d = true → sbDs n x d = d
  | [], _ => rfl
  | d :: r, h => by
    have h := Bool.and_eq_true_iff.mp h
    unfold sbDs
    rw [sbD_id h.1, sbDs_id h.2]
end
theorem sbC_id {n : Nat} {x : D} {c : Cell} (h : belC n c = true) : sbC n x c = c := by
  cases c with
  | lst xs => show Cell.lst _ = _; rw [sbDs_id h]
  | dct ks vs => show Cell.dct _ _ = _; rw [sbDs_id h]
  | obj c ns fs => show Cell.obj _ _ _ = _; rw [sbDs_id h]
  | dead => rfl
theorem sbS_id {n : Nat} {x : D} : ∀ {S : Store}, belS n S = true → sbS n x S = S
  | [], _ => rfl
  | c :: r, h => by
    have h := Bool.and_eq_true_iff.mp h
    unfold sbS
    rw [sbC_id h.1, sbS_id h.2]
theorem sbS_app {n : Nat} {x : D} : ∀ {S R : Store}, sbS n x (S ++ R) = sbS n x S ++ sbS n x R
  | [], _ => rfl
  | c :: r, R => by
    show sbC n x c :: sbS n x (r ++ R) = sbC n x c :: (sbS n x r ++ sbS n x R)
    rw [sbS_app]
/-- the last cell frozen, and forgotten -/
theorem gh_last {S : Store} {c : Cell} {x : D} (e : frzC c = some x) (hb : belS S.length S = true) (hx : bel S.length x = true) : Gh S.length (.ref S.length) (S ++ [c]) x S := by
  refine .frz S.length c x (by rw [List.getElem?_append_right (Nat.le_refl _)]; simp) e ?_
  have e1 : sbD S.length x (.ref S.length) = x := by
    unfold sbD
    rw [Nat.beq_refl]
  have e2 : (S ++ [c]).set S.length .dead = S ++ [.dead] := by
    rw [List.set_append_right _ _ (Nat.le_refl _)]
    simp
  rw [e1, e2, sbS_app, sbS_id hb]
  exact .trim S [.dead] rfl (Nat.le_refl _) hb hx .refl
theorem pick_last {S : Store} {c : Cell} : pick (S ++ [c]) [S.length] = [c] := by
  unfold pick pick
  rw [List.getD_eq_getElem?_getD, List.getElem?_append_right (Nat.le_refl _)]
  simp
theorem putB_last {S : Store} {c c' : Cell} : putB (S ++ [c]) [S.length] [c'] = S ++ [c'] := by
  unfold putB putB
  rw [List.set_append_right _ _ (Nat.le_refl _)]
  simp
/-- a constructor of data: what its __init__ leaves, frozen -/
theorem new_frz {G : Gd} {T : Tab} {k c f : Nat} {args : List D} {S : Store} {Q : QD} {ns : List Nat} {fs : List D} (hi : T.ini c = some f) (ha : bels 1 args = true) (he : rens [S.length] args = args) (hb : belS S.length S = true) (hf : bels 0 fs = true) (hf2 : bels S.length fs = true)
    (h : ∀ {Q' E' : QD}, Q' .non [.obj c ns fs] → CallP G k f (.ref 0 :: args) [.obj c [] []] Q' E') (hQ : Q (.ins c ns fs) S) : NewP G T (k + 1) c args S Q := by
  refine newP_i ⟨f, k, hi, rfl, ?_⟩
  have e1 : .ref S.length :: args = rens [S.length] (.ref 0 :: args) := by
    show _ = D.ref S.length :: rens [S.length] args
    rw [he]
  rw [e1]
  refine callP_frm (is := [S.length]) (by simp) (by intro i hi; simp at hi; subst hi; simp) (by rw [pick_last]; rfl) (by show (true && bels 1 args) = true; rw [ha]; rfl) ?_
  rw [pick_last]
  refine h ⟨rfl, by show (bels 0 fs && true) = true; rw [hf]; rfl, rfl, _, _, ?_, hQ⟩
  rw [putB_last]
  exact gh_last rfl hb hf2
end DL

set_option maxHeartbeats 1000000
/-! DL 8e: dicts of texts -/
namespace DL
open PySem PySem.Spec PyProof.Rows L2
theorem keyEq_str (a b : Tx) : keyEq (.str a) (.str b) = decide (a = b) := rfl
/-- a dict of texts, as pairs -/
def dks (kv : List (Tx × D)) : List D := kv.map fun p => .str p.1
def dvs (kv : List (Tx × D)) : List D := kv.map fun p => p.2
def getT (x : Tx) : List (Tx × D) → Option D
  | [] => none
  | p :: r => if p.1 = x then some p.2 else getT x r
def putT (x : Tx) (y : D) (kv : List (Tx × D)) : List (Tx × D) := if x ∈ kv.map (·.1) then kv.map fun p => if p.1 = x then (p.1, y) else p else kv ++ [(x, y)]
theorem dget_T (x : Tx) : ∀ kv : List (Tx × D), dget (dks kv) (dvs kv) (.str x) = getT x kv
  | [] => rfl
  | p :: r => by
    show (match keyEq (.str p.1) (.str x) with | true => some p.2 | false => dget (dks r) (dvs r) (.str x)) = _
    rw [keyEq_str, dget_T x r]
    by_cases h : p.1 = x
    · rw [decide_eq_true h]; simp [getT, h]
    · rw [decide_eq_false h]; simp [getT, h]
theorem hasK_T (x : Tx) : ∀ kv : List (Tx × D), hasK (dks kv) (.str x) = decide (x ∈ kv.map (·.1))
  | [] => by simp [dks, hasK]
  | p :: r => by
    show (match keyEq (.str p.1) (.str x) with | true => true | false => hasK (dks r) (.str x)) = _
    rw [keyEq_str, hasK_T x r]
    by_cases h : p.1 = x
    · rw [decide_eq_true h]; simp [h]
    · rw [decide_eq_false h]; simp [Ne.symm h]
theorem replV_T (x : Tx) (y : D) : ∀ kv : List (Tx × D), replV (dks kv) (dvs kv) (.str x) y = dvs (kv.map fun p => if p.1 = x then (p.1, y) else p)
  | [] => rfl
  | p :: r => by
    show (match keyEq (.str p.1) (.str x) with | true => y :: replV (dks r) (dvs r) (.str x) y | false => p.2 :: replV (dks r) (dvs r) (.str x) y) = _
    rw [keyEq_str, replV_T x y r]
    by_cases h : p.1 = x
    · rw [decide_eq_true h]; simp [dvs, h]
    · rw [decide_eq_false h]; simp [dvs, h]
theorem dputV_T (x : Tx) (y : D) (kv : List (Tx × D)) : dputV (dks kv) (dvs kv) (.str x) y = dvs (putT x y kv) := by
  unfold dputV putT
  rw [hasK_T]
  by_cases h : x ∈ kv.map (·.1)
  · rw [decide_eq_true h, if_pos h]; exact replV_T x y kv
  · rw [decide_eq_false h, if_neg h]; simp [dvs]
theorem dputK_T (x : Tx) (y : D) (kv : List (Tx × D)) : dputK (dks kv) (.str x) = dks (putT x y kv) := by
  unfold dputK putT
  rw [hasK_T]
  by_cases h : x ∈ kv.map (·.1)
  · rw [decide_eq_true h, if_pos h]
    unfold dks
    rw [List.map_map]
    apply List.map_congr_left
    intro p _
    show D.str p.1 = D.str (if p.1 = x then (p.1, y) else p).1
    split <;> rfl
  · rw [decide_eq_false h, if_neg h]; simp [dks]
theorem putT_keys (x : Tx) (y : D) (kv : List (Tx × D)) : (putT x y kv).map (·.1) = if x ∈ kv.map (·.1) then kv.map (·.1) else kv.map (·.1) ++ [x] := by
  unfold putT
  split
  · rw [List.map_map]
    apply List.map_congr_left
    intro p _
    show (if p.1 = x then (p.1, y) else p).1 = p.1
    split <;> rfl
  · simp
theorem putT_nodup {x : Tx} {y : D} {kv : List (Tx × D)} (h : (kv.map (·.1)).Nodup) : ((putT x y kv).map (·.1)).Nodup := by
  rw [putT_keys]
  split
  · exact h
  · rename_i hx
    refine List.nodup_append.mpr ⟨h, by simp, fun a ha b hb => ?_⟩
    simp at hb
    subst hb
    exact fun e => hx (by rw [← e]; exact ha)
theorem getT_mem {x : Tx} {y : D} : ∀ {kv : List (Tx × D)}, (kv.map (·.1)).Nodup → (x, y) ∈ kv → getT x kv = some y
  | [], _, h => by cases h
  | p :: r, nd, h => by
    simp only [List.map_cons, List.nodup_cons] at nd
    unfold getT
    rcases List.mem_cons.mp h with h | h
    · rw [← h, if_pos rfl]
    · rw [if_neg fun e => nd.1 (by rw [e]; exact List.mem_map.mpr ⟨_, h, rfl⟩)]
      exact getT_mem nd.2 h
theorem getT_none {x : Tx} : ∀ {kv : List (Tx × D)}, x ∉ kv.map (·.1) → getT x kv = none
  | [], _ => rfl
  | p :: r, h => by
    simp only [List.map_cons, List.mem_cons, not_or] at h
    unfold getT
    rw [if_neg (Ne.symm h.1)]
    exact getT_none h.2
end DL

namespace DL
open PySem PySem.Spec PyProof.Rows L2
theorem upD_map : ∀ (a : Int) (n : Nat), upD a n = (List.range n).map fun i => D.int (a + (i : Nat))
  | _, 0 => rfl
  | a, n + 1 => by
    rw [upD, upD_map (a + 1) n, List.range_succ_eq_map, List.map_cons, List.map_map]
    congr 1
    · simp
    · apply List.map_congr_left
      intro i _
      simp
      omega
/-- a for over a list of what stands for data -/
theorem for_at {α : Type} {n0 : Nat} {bind : D → Store → Sl → (Sl → Prop) → Prop} {body : Post → Sl → Store → Prop} {src : Store → Prop} {P : Post} {τ : Sl} {S : Store} (g : α → D) (l : List α) (I : List α → Sl → Store → Prop)
    (h0 : I [] τ S) (hnil : ∀ τ S, I l τ S → src S ∧ P.nx τ S)
    (hcons : ∀ p a r τ S (Nx : Sl → Store → Prop), l = p ++ a :: r → (∀ τ2 S2, (∃ τ3 S3, Fg n0 τ2 S2 τ3 S3 ∧ I (p ++ [a]) τ3 S3) → Nx τ2 S2) → I p τ S →
      src S ∧ bind (g a) S τ fun τ1 => body { P with nx := Nx, ct := Nx, bk := P.nx } τ1 S) : forW n0 bind body src P (l.map g) τ S := by
  refine for_ind (fun its τ S => ∃ p r, l = p ++ r ∧ its = r.map g ∧ I p τ S) ?_ ?_ _ _ _ ⟨[], l, rfl, rfl, h0⟩
  · rintro τ S ⟨p, r, e, e2, h⟩
    cases r with
    | cons a r => cases e2
    | nil => rw [List.append_nil] at e; subst e; exact hnil τ S h
  · rintro x r' τ S Nx hN ⟨p, r, e, e2, h⟩
    cases r with
    | nil => cases e2
    | cons a r =>
      cases e2
      exact hcons p a r τ S Nx e (fun τ2 S2 ⟨τ3, S3, q1, q2⟩ => hN τ2 S2 ⟨τ3, S3, q1, p ++ [a], r, by rw [e]; simp, rfl, q2⟩) h
theorem range_split {n i : Nat} {p r : List Nat} (e : List.range n = p ++ i :: r) : p = List.range i ∧ i < n := by
  have h1 : i < n := by
    have : i ∈ List.range n := by rw [e]; simp
    exact List.mem_range.mp this
  have h2 : p.length < n := by
    have := congrArg List.length e
    simp at this
    omega
  have h3 : (List.range n)[p.length]? = some i := by rw [e]; simp
  rw [List.getElem?_range h2] at h3
  have h4 : p.length = i := by simpa using h3
  refine ⟨?_, h1⟩
  have h5 : (List.range n).take i = p := by rw [e, ← h4]; simp
  rw [← h5, List.take_range]
  congr 1
  omega
/-- a for over range(n) -/
theorem for_rng {n0 : Nat} {bind : D → Store → Sl → (Sl → Prop) → Prop} {body : Post → Sl → Store → Prop} {src : Store → Prop} {P : Post} {τ : Sl} {S : Store} (n : Nat) (I : Nat → Sl → Store → Prop)
    (h0 : I 0 τ S) (hnil : ∀ τ S, I n τ S → src S ∧ P.nx τ S)
    (hcons : ∀ (i : Nat) τ S (Nx : Sl → Store → Prop), i < n → (∀ τ2 S2, (∃ τ3 S3, Fg n0 τ2 S2 τ3 S3 ∧ I (i + 1) τ3 S3) → Nx τ2 S2) → I i τ S →
      src S ∧ bind (.int i) S τ fun τ1 => body { P with nx := Nx, ct := Nx, bk := P.nx } τ1 S) : forW n0 bind body src P (upD 0 n) τ S := by
  rw [upD_map]
  refine for_at (fun i : Nat => D.int (0 + (i : Nat))) (List.range n) (fun p τ S => I p.length τ S) h0 (fun τ S h => hnil τ S (by rw [List.length_range] at h; exact h)) fun p i r τ S Nx e hN h => ?_
  obtain ⟨e1, e2⟩ := range_split e
  have hp : p.length = i := by rw [e1, List.length_range]
  have := hcons i τ S Nx e2 (fun τ2 S2 ⟨τ3, S3, q1, q2⟩ => hN τ2 S2 ⟨τ3, S3, q1, by rw [List.length_append, hp]; exact q2⟩) (by rw [hp] at h; exact h)
  rw [Int.zero_add]
  exact this
/-- a comprehension over a list of what stands for data -/
theorem lc_at {α : Type} {bind : D → Store → Sl → (Sl → Prop) → Prop} {test : Sl → Store → (Bool → Store → Prop) → Prop} {elt : Sl → Store → QD → Prop} {src : Store → Prop} {τ : Sl} {S : Store} {Q : QL} (g : α → D) (l : List α) (I : List α → List D → Store → Prop)
    (h0 : I [] [] S) (hl : l.length < 16777216) (hnil : ∀ acc S, I l acc S → src S ∧ Q acc S)
    (hle : ∀ p acc S, I p acc S → acc.length ≤ p.length)
    (hcons : ∀ p a r acc S (N1 : D → Store → Prop) (N2 : Store → Prop), l = p ++ a :: r → (∀ v S2, (∃ v2 S3, Gh S.length v S2 v2 S3 ∧ I (p ++ [a]) (acc ++ [v2]) S3) → N1 v S2) → (∀ S2, I (p ++ [a]) acc S2 → N2 S2) → I p acc S →
      src S ∧ bind (g a) S τ fun τ1 => test τ1 S fun b S1 => iteW b (elt τ1 S1 N1) (N2 S1)) : lcW bind test elt src τ Q (l.map g) [] S := by
  refine lc_ind (fun its acc S => ∃ p r, l = p ++ r ∧ its = r.map g ∧ I p acc S) ?_ ?_ _ _ _ ⟨[], l, rfl, rfl, h0⟩
  · rintro acc S ⟨p, r, e, e2, h⟩
    cases r with
    | cons a r => cases e2
    | nil => rw [List.append_nil] at e; subst e; exact hnil acc S h
  · rintro x r' acc S N1 N2 hN1 hN2 ⟨p, r, e, e2, h⟩
    cases r with
    | nil => cases e2
    | cons a r =>
      cases e2
      have el := congrArg List.length e
      simp only [List.length_append, List.length_cons] at el
      have := hle p acc S h
      exact hcons p a r acc S N1 N2 e (fun v S2 ⟨v2, S3, q1, q2⟩ => hN1 v S2 ⟨by omega, v2, S3, q1, p ++ [a], r, by rw [e]; simp, rfl, q2⟩) (fun S2 q => hN2 S2 ⟨p ++ [a], r, by rw [e]; simp, rfl, q⟩) h
/-- a comprehension of plain elements, at one store -/
theorem lc_pure {α : Type} {bind : D → Store → Sl → (Sl → Prop) → Prop} {test : Sl → Store → (Bool → Store → Prop) → Prop} {elt : Sl → Store → QD → Prop} {src : Store → Prop} {τ : Sl} {S : Store} {Q : QL} (g f : α → D) (c : α → Bool) (l : List α)
    (hl : l.length < 16777216) (hs : src S) (hQ : Q ((l.filter c).map f) S)
    (hstep : ∀ a ∈ l, ∀ (N1 : D → Store → Prop) (N2 : Store → Prop), (c a = true → N1 (f a) S) → (c a = false → N2 S) → bind (g a) S τ fun τ1 => test τ1 S fun b S1 => iteW b (elt τ1 S1 N1) (N2 S1)) : lcW bind test elt src τ Q (l.map g) [] S := by
  refine lc_at g l (fun p acc S' => S' = S ∧ acc = (p.filter c).map f) ⟨rfl, rfl⟩ hl ?_ ?_ ?_
  · rintro acc S' ⟨rfl, rfl⟩
    exact ⟨hs, hQ⟩
  · rintro p acc S' ⟨rfl, rfl⟩
    rw [List.length_map]
    exact List.length_filter_le _ _
  · rintro p a r acc S' N1 N2 e hN1 hN2 ⟨rfl, rfl⟩
    refine ⟨hs, hstep a (by rw [e]; simp) N1 N2 (fun h => hN1 _ _ ⟨_, _, .refl, rfl, ?_⟩) (fun h => hN2 _ ⟨rfl, ?_⟩)⟩
    · rw [List.filter_append, List.map_append]; simp [h]
    · rw [List.filter_append]; simp [h]
theorem lc_map {α : Type} {bind : D → Store → Sl → (Sl → Prop) → Prop} {test : Sl → Store → (Bool → Store → Prop) → Prop} {elt : Sl → Store → QD → Prop} {src : Store → Prop} {τ : Sl} {S : Store} {Q : QL} (g f : α → D) (l : List α)
    (hl : l.length < 16777216) (hs : src S) (hQ : Q (l.map f) S)
    (hstep : ∀ a ∈ l, ∀ (N1 : D → Store → Prop) (N2 : Store → Prop), N1 (f a) S → bind (g a) S τ fun τ1 => test τ1 S fun b S1 => iteW b (elt τ1 S1 N1) (N2 S1)) : lcW bind test elt src τ Q (l.map g) [] S :=
  lc_pure g f (fun _ => true) l hl hs (by rw [List.filter_eq_self.mpr fun _ _ => rfl]; exact hQ) fun a ha N1 N2 h _ => hstep a ha N1 N2 (h rfl)
/-- a comprehension over range(n) -/
theorem lc_rng {bind : D → Store → Sl → (Sl → Prop) → Prop} {test : Sl → Store → (Bool → Store → Prop) → Prop} {elt : Sl → Store → QD → Prop} {src : Store → Prop} {τ : Sl} {S : Store} {Q : QL} (n : Nat) (I : List D → Store → Prop)
    (h0 : I [] S) (hl : n < 16777216) (hnil : ∀ acc S, acc.length = n → I acc S → src S ∧ Q acc S)
    (hcons : ∀ (i : Nat) acc S (N1 : D → Store → Prop) (N2 : Store → Prop), i < n → acc.length = i → (∀ v S2, (∃ v2 S3, Gh S.length v S2 v2 S3 ∧ I (acc ++ [v2]) S3) → N1 v S2) → I acc S →
      src S ∧ bind (.int i) S τ fun τ1 => test τ1 S fun b S1 => iteW b (elt τ1 S1 N1) (N2 S1)) : lcW bind test elt src τ Q (upD 0 n) [] S := by
  rw [upD_map]
  refine lc_at (fun i : Nat => D.int (0 + (i : Nat))) (List.range n) (fun p acc S => acc.length = p.length ∧ I acc S) ⟨rfl, h0⟩ (by rw [List.length_range]; exact hl) (fun acc S h => hnil acc S (by have := h.1; rw [List.length_range] at this; exact this) h.2) (fun p acc S h => Nat.le_of_eq h.1) fun p i r acc S N1 N2 e hN1 hN2 h => ?_
  obtain ⟨e1, e2⟩ := range_split e
  have hp : p.length = i := by rw [e1, List.length_range]
  have := hcons i acc S N1 N2 e2 (by rw [h.1, hp]) (fun v S2 ⟨v2, S3, q1, q2⟩ => hN1 v S2 ⟨v2, S3, q1, by rw [List.length_append, List.length_append, h.1]; rfl, q2⟩) h.2
  show src S ∧ bind (.int (0 + (i : Nat))) S τ _
  rw [Int.zero_add]
  exact this
theorem isPys_strs : ∀ ws : List Tx, isPys (ws.map D.str) = true
  | [] => rfl
  | w :: r => by
    show (true && isPys (r.map D.str)) = true
    rw [isPys_strs r]; rfl
theorem deps_strs : ∀ ws : List Tx, deps (ws.map D.str) = 0
  | [] => rfl
  | w :: r => by
    show max 0 (deps (r.map D.str)) = 0
    rw [deps_strs r]; rfl
theorem eqDs_strs : ∀ ws : List Tx, eqDs (ws.map D.str) (ws.map D.str) = true
  | [] => rfl
  | w :: r => by
    show (decide (w = w) && eqDs (r.map D.str) (r.map D.str)) = true
    rw [eqDs_strs r]; simp
theorem strsOf_map : ∀ ws : List Tx, strsOf (ws.map D.str) = some ws
  | [] => rfl
  | w :: r => by
    have := strsOf_map r
    simp only [List.map_cons, strsOf, this]
theorem intsOf_map : ∀ xs : List Int, intsOf (xs.map D.int) = some xs
  | [] => rfl
  | x :: r => by
    have := intsOf_map r
    simp only [List.map_cons, intsOf, this]
theorem set_same {S : Store} {c : Cell} {j : Nat} (h : S[j]? = some c) : S.set j c = S := by
  obtain ⟨hlt, rfl⟩ := List.getElem?_eq_some_iff.mp h
  exact List.set_getElem_self hlt
theorem get_end {A : Store} {c : Cell} : (A ++ [c])[A.length]? = some c := by
  rw [List.getElem?_append_right (Nat.le_refl _)]
  simp
theorem set_end {A : Store} {c c' : Cell} : (A ++ [c]).set A.length c' = A ++ [c'] := by
  rw [List.set_append_right _ _ (Nat.le_refl _)]
  simp
theorem rcv_app {S : Store} {n : Nat} {xs : List D} (h : S[n]? = some (.lst xs)) : rcvB .append (.ref n) S = true := by
  have e : lstOf S (.ref n) = some xs := by
    show (match S[n]? with | some (.lst xs) => some xs | _ => none) = some xs
    rw [h]
  show (match lstOf S (.ref n) with | some _ => true | none => false) = true
  rw [e]
theorem snap_ref {S : Store} {n : Nat} {xs : List D} (h : S[n]? = some (.lst xs)) : snap S (.ref n) = .lst xs := by
  show (match S[n]? with | some (.lst xs) => D.lst xs | some (.dct ks vs) => .dct ks vs | _ => D.ref n) = _
  rw [h]
theorem cutL_map {α β : Type} (f : α → β) (xs : List α) (lo hi : Option Int) : cutL (xs.map f) lo hi = (cutL xs lo hi).map f := by
  unfold cutL
  rw [List.length_map, List.map_drop, List.map_take]
theorem cutL_lo {α : Type} (xs : List α) {i : Int} (h : 0 ≤ i) : cutL xs (some i) none = xs.drop i.toNat := by
  obtain ⟨n, rfl⟩ := Int.eq_ofNat_of_zero_le h
  unfold cutL
  show (xs.take xs.length).drop (min n xs.length) = xs.drop n
  rw [List.take_length]
  by_cases hn : n ≤ xs.length
  · rw [Nat.min_eq_left hn]
  · rw [Nat.min_eq_right (by omega), List.drop_length, List.drop_eq_nil_of_le (by omega)]
theorem cutL_hi {α : Type} (xs : List α) {i : Int} (h : 0 ≤ i) : cutL xs none (some i) = xs.take i.toNat := by
  obtain ⟨n, rfl⟩ := Int.eq_ofNat_of_zero_le h
  unfold cutL
  show (xs.take (min n xs.length)).drop 0 = xs.take n
  rw [List.drop_zero]
  by_cases hn : n ≤ xs.length
  · rw [Nat.min_eq_left hn]
  · rw [Nat.min_eq_right (by omega), List.take_length, List.take_of_length_le (by omega)]
/-- a call that is handed one cell alone -/
theorem call_at1 {G : Gd} {k f j : Nat} {c0 : Cell} {args args' : List D} {S : Store} {Q E : QD} (hj : S[j]? = some c0) (hc : belC 0 c0 = true) (ha : bels 1 args = true) (he : rens [j] args = args')
    (h : CallP G k f args [c0] (fun d L' => L'.length = 1 ∧ belS 0 L' = true ∧ Q (ren [j] d) (putB S [j] L')) (fun d L' => L'.length = 1 ∧ belS 0 L' = true ∧ E (ren [j] d) (putB S [j] L'))) : CallP G k f args' S Q E := by
  rw [← he]
  have hp : pick S [j] = [c0] := by
    unfold pick pick
    rw [List.getD_eq_getElem?_getD, hj]
    rfl
  refine callP_frm (is := [j]) (by simp) (by intro i hi; simp at hi; subst hi; exact (List.getElem?_eq_some_iff.mp hj).1) (by rw [hp]; show (belC 0 c0 && true) = true; rw [hc]; rfl) ha ?_
  rw [hp]
  exact h
/-- slots where one cell's name is put out by a datum -/
inductive SbK (n : Nat) (x : D) : Sl → Sl → Prop
  | nil : SbK n x [] []
  | none {r s : Sl} (t : SbK n x r s) : SbK n x (none :: r) (none :: s)
  | keep {d : D} {r s : Sl} (h : bel n d = true) (t : SbK n x r s) : SbK n x (some d :: r) (some d :: s)
  | ref {r s : Sl} (t : SbK n x r s) : SbK n x (some (.ref n) :: r) (some x :: s)
theorem sbSl_keep {n : Nat} {x : D} {τ τ' : Sl} (h : SbK n x τ τ') : sbSl n x τ = τ' := by
  induction h with
  | nil => rfl
  | none _ ih => unfold sbSl; rw [ih]
  | keep h _ ih => unfold sbSl; rw [ih, sbD_id h]
  | ref _ ih =>
    unfold sbSl
    rw [ih]
    unfold sbD
    rw [Nat.beq_refl]
theorem Fg.trans {n0 : Nat} {τ τ1 τ2 : Sl} {S S1 S2 : Store} (g : Fg n0 τ S τ1 S1) (h : Fg n0 τ1 S1 τ2 S2) : Fg n0 τ S τ2 S2 := by
  induction g with
  | refl => exact h
  | frz n c x e1 e2 _ ih => exact .frz n c x e1 e2 (ih h)
  | trim A T e l b c _ ih => exact .trim A T e l b c (ih h)
  | pin i d d1 m e p _ ih => exact .pin i d d1 m e p (ih h)
  | wipe is _ ih => exact .wipe is (ih h)
theorem fg_frz {n0 n : Nat} {c : Cell} {x : D} {τ τ' : Sl} {S : Store} (h : S[n]? = some c) (e : frzC c = some x) (k : SbK n x τ τ') (hb : belS n (S.set n .dead) = true) : Fg n0 τ S τ' (S.set n .dead) := by
  refine .frz n c x h e ?_
  rw [sbSl_keep k, sbS_id hb]
  exact .refl
/-- what is found by a place -/
theorem idx_map {α : Type} (f : α → D) {xs : List α} {i : Int} (h0 : 0 ≤ i) (h1 : i < xs.length) : ∃ a, (ixOf (xs.map f).length i).bind ((xs.map f)[·]?) = some (f a) ∧ a ∈ xs := by
  obtain ⟨d, h2, h3⟩ := idx_in (xs := xs.map f) (i := i) h0 (by rw [List.length_map]; exact h1)
  obtain ⟨a, h4, rfl⟩ := List.mem_map.mp h3
  exact ⟨a, h2, h4⟩
end DL

/-! DL 8g: steps made by themselves; loops over range(a, b) -/
namespace DL
open PySem PySem.Spec PyProof.Rows L2
theorem wpSs_nl {T : Tab} {O : Orc} {P : Post} {τ : Sl} {S : Store} (h : P.nx τ S) : wpSs T O [] P τ S := by
  unfold wpSs
  exact h
theorem ix_head {x : D} {xs : List D} : (ixOf (x :: xs).length (0 : Int)).bind ((x :: xs)[·]?) = some x := by
  show (if 0 < xs.length + 1 then some 0 else none).bind _ = _
  rw [if_pos (Nat.succ_pos _)]
  rfl
theorem cut_tail {x : D} {xs : List D} : cutL (x :: xs) (some 1) none = xs := by rw [cutL_lo _ (by decide)]; rfl
/-- a for over range(a, b) -/
theorem for_rng2 {n0 : Nat} {bind : D → Store → Sl → (Sl → Prop) → Prop} {body : Post → Sl → Store → Prop} {src : Store → Prop} {P : Post} {τ : Sl} {S : Store} (a : Int) (n : Nat) (I : Nat → Sl → Store → Prop)
    (h0 : I 0 τ S) (hnil : ∀ τ S, I n τ S → src S ∧ P.nx τ S)
    (hcons : ∀ (i : Nat) τ S (Nx : Sl → Store → Prop), i < n → (∀ τ2 S2, (∃ τ3 S3, Fg n0 τ2 S2 τ3 S3 ∧ I (i + 1) τ3 S3) → Nx τ2 S2) → I i τ S →
      src S ∧ bind (.int (a + (i : Nat))) S τ fun τ1 => body { P with nx := Nx, ct := Nx, bk := P.nx } τ1 S) : forW n0 bind body src P (upD a n) τ S := by
  rw [upD_map]
  refine for_at (fun i : Nat => D.int (a + (i : Nat))) (List.range n) (fun p τ S => I p.length τ S) h0 (fun τ S h => hnil τ S (by rw [List.length_range] at h; exact h)) fun p i r τ S Nx e hN h => ?_
  obtain ⟨e1, e2⟩ := range_split e
  have hp : p.length = i := by rw [e1, List.length_range]
  exact hcons i τ S Nx e2 (fun τ2 S2 ⟨τ3, S3, q1, q2⟩ => hN τ2 S2 ⟨τ3, S3, q1, by rw [List.length_append, hp]; exact q2⟩) (by rw [hp] at h; exact h)
theorem ix_map {α : Type} (f : α → D) {xs : List α} {i : Int} {a : α} (h0 : 0 ≤ i) (h : xs[i.toNat]? = some a) : (ixOf (xs.map f).length i).bind ((xs.map f)[·]?) = some (f a) := by
  have h1 := (List.getElem?_eq_some_iff.mp h).1
  rw [List.length_map, ixOf_in h0 (by omega)]
  show (xs.map f)[i.toNat]? = _
  rw [List.getElem?_map, h]; rfl
theorem ix_last {α : Type} (f : α → D) {xs : List α} {a : α} : (ixOf ((xs ++ [a]).map f).length (-1)).bind (((xs ++ [a]).map f)[·]?) = some (f a) := by
  rw [List.length_map, List.length_append]
  show (if 0 < xs.length + 1 then some (xs.length + 1 - 1 - 0) else none).bind _ = _
  rw [if_pos (by omega)]
  show ((xs ++ [a]).map f)[xs.length + 1 - 1 - 0]? = _
  rw [List.getElem?_map]
  simp
end DL

set_option maxHeartbeats 1000000
/-! DL 8h: data held against themselves; small lemmas -/
namespace DL
open PySem PySem.Spec PyProof.Rows L2
mutual
theorem eqD_me : ∀ {d : D}, isPy d = true → eqD d d = true
  | .non, _ => rfl
  | .bl b, _ => by show (b == b) = true; exact beq_self_eq_true b
  | .int i, _ => by show decide (i = i) = true; exact decide_eq_true rfl
  | .str s, _ => by show decide (s = s) = true; exact decide_eq_true rfl
  | .tup xs, h => eqDs_me (ds := xs) h
  | .lst xs, h => eqDs_me (ds := xs) h
  | .klst _, h => by cases h
  | .dct _ _, h => by cases h
  | .ins _ _ _, h => by cases h
  | .exc _ _ _, h => by cases h
  | .ref _, h => by cases h
  | .pin _ _, h => by cases h
theorem eqDs_me : ∀ {ds : List D}, isPys ds = true → eqDs ds ds = true
  | [], _ => rfl
  | d :: r, h => by
    have h := Bool.and_eq_true_iff.mp h
    show (eqD d d && eqDs r r) = true
    rw [eqD_me h.1, eqDs_me h.2]; rfl
end
mutual
theorem unp_py : ∀ {d : D}, isPy d = true → unp d = d
  | .non, _ => rfl
  | .bl b, _ => rfl
  | .int i, _ => rfl
  | .str s, _ => rfl
  | .tup xs, h => by show D.tup (unps xs) = _; rw [unps_py (ds := xs) h]
  | .lst xs, h => by show D.lst (unps xs) = _; rw [unps_py (ds := xs) h]
  | .klst _, h => by cases h
  | .dct _ _, h => by cases h
  | .ins _ _ _, h => by cases h
  | .exc _ _ _, h => by cases h
  | .ref _, h => by cases h
  | .pin _ _, h => by cases h
theorem unps_py : ∀ {ds : List D}, isPys ds = true → unps ds = ds
  | [], _ => rfl
  | d :: r, h => by
    have h := Bool.and_eq_true_iff.mp h
    show unp d :: unps r = _
    rw [unp_py h.1, unps_py h.2]
end
/-- plain data, not too deep -/
def Pl (d : D) : Prop := isPy d = true ∧ dep d ≤ 150
theorem eqW_me {d : D} (h : Pl d) {R : Bool → Prop} (r : R true) : eqW d d R := by
  obtain ⟨h1, h2⟩ := h
  cases d with
  | non => exact r
  | bl b => show R (b == b); rw [beq_self_eq_true]; exact r
  | int i => show R (decide (i = i)); rw [decide_eq_true rfl]; exact r
  | str s => show R (decide (s = s)); rw [decide_eq_true rfl]; exact r
  | tup xs =>
    cases xs with
    | nil => exact r
    | cons x q => exact ⟨⟨h1, h1, h2⟩, by rw [eqD_me h1]; exact r⟩
  | lst xs =>
    cases xs with
    | nil => exact r
    | cons x q => cases x <;> first
      | exact ⟨⟨h1, h1, h2⟩, by rw [eqD_me h1]; exact r⟩
      | cases h1
  | klst xs => cases h1
  | dct _ _ => cases h1
  | ins _ _ _ => cases h1
  | exc _ _ _ => cases h1
  | ref _ => cases h1
  | pin _ _ => cases h1
theorem snap_pl {d : D} (h : isPy d = true) (S : Store) : snap S d = d := by
  cases d <;> first | rfl | cases h
theorem ne_me {d : D} {S : Store} {Q : QD} (h : Pl d) (q : Q (.bl false) S) : cmpW .NotEq d d S Q := by
  show eqW (snap S d) (snap S d) fun b => Q (.bl (!b)) S
  rw [snap_pl h.1]
  exact eqW_me h q
theorem eq_me {d : D} {S : Store} {Q : QD} (h : Pl d) (q : Q (.bl true) S) : cmpW .Eq d d S Q := by
  show eqW (snap S d) (snap S d) fun b => Q (.bl b) S
  rw [snap_pl h.1]
  exact eqW_me h q
theorem wp_var {T : Tab} {O : Orc} {i : Nat} {τ : Sl} {S : Store} {Q E : QD} {d : D} (h : getS τ i = some d) (q : Q d S) : wpE T O (.var i) τ S Q E := by
  unfold wpE
  rw [h]
  exact q
theorem wp_ix {T : Tab} {O : Orc} {i : Nat} {n : Int} {τ : Sl} {S : Store} {Q E : QD} {xs : List D} {d : D} (h : getS τ i = some (.tup xs)) (e : (ixOf xs.length n).bind (xs[·]?) = some d) (q : Q d S) : wpE T O (.idx (.var i) (.con (.int n))) τ S Q E := by
  unfold wpE
  refine wp_var h ?_
  unfold wpE
  exact ⟨d, e, q⟩
/-- an expression's datum, by itself -/
theorem wpE_to {T : Tab} {O : Orc} {e : IE} {τ : Sl} {S S' : Store} {d : D} {K E : QD} (h : ∀ Q : QD, Q d S' → wpE T O e τ S Q E) (k : K d S') : wpE T O e τ S K E := h K k
theorem wpT_cmp {T : Tab} {O : Orc} {op : CmpOp} {a b : IE} {τ : Sl} {S : Store} {Q : Bool → Store → Prop} {E : QD} (h : wpE T O a τ S (fun x S1 => wpE T O b τ S1 (fun y S2 => cmpW op x y S2 fun r S3 => truthW r S3 fun k => Q k S3) E) E) : wpT T O (.val (.cmp op a b)) τ S Q E := by
  unfold wpT wpE
  exact h
theorem iteNe {d : D} (h : isPy d = true) {A B : Prop} (b : B) : iteW (!eqD d d) A B := by rw [eqD_me h]; exact iteW_f b
theorem iteEq {d : D} (h : isPy d = true) {A B : Prop} (a : A) : iteW (eqD d d) A B := by rw [eqD_me h]; exact iteW_t a
theorem iteS {s : Tx} {A B : Prop} (a : A) : iteW (decide (s = s)) A B := by rw [decide_eq_true rfl]; exact iteW_t a
theorem iteSn {s : Tx} {A B : Prop} (b : B) : iteW (!decide (s = s)) A B := by rw [decide_eq_true rfl]; exact iteW_f b
theorem iteI {s : Int} {A B : Prop} (a : A) : iteW (decide (s = s)) A B := by rw [decide_eq_true rfl]; exact iteW_t a
theorem iteIn {s : Int} {A B : Prop} (b : B) : iteW (!decide (s = s)) A B := by rw [decide_eq_true rfl]; exact iteW_f b
theorem blEq {d : D} (h : isPy d = true) {Q : QD} {S : Store} (q : Q (.bl true) S) : Q (.bl (eqD d d)) S := by rw [eqD_me h]; exact q
end DL

namespace DL
open PySem PySem.Spec PyProof.Rows L2
/-! ### plain data hold no names of cells -/
mutual
theorem ren_py (is : List Nat) : ∀ {d : D}, isPy d = true → ren is d = d
  | .non, _ => rfl
  | .bl _, _ => rfl
  | .int _, _ => rfl
  | .str _, _ => rfl
  | .tup xs, h => by show D.tup (rens is xs) = _; rw [rens_py is (show isPys xs = true from h)]
  | .lst xs, h => by show D.lst (rens is xs) = _; rw [rens_py is (show isPys xs = true from h)]
theorem rens_py (is : List Nat) : ∀ {ds : List D}, isPys ds = true → rens is ds = ds
  | [], _ => rfl
  | x :: r, h => by
    have h := (Bool.and_eq_true _ _).mp (show (isPy x && isPys r) = true from h)
    show ren is x :: rens is r = _
    rw [ren_py is h.1, rens_py is h.2]
end
mutual
theorem bel_py (m : Nat) : ∀ {d : D}, isPy d = true → bel m d = true
  | .non, _ => rfl
  | .bl _, _ => rfl
  | .int _, _ => rfl
  | .str _, _ => rfl
  | .tup xs, h => by show bels m xs = _; rw [bels_py m (show isPys xs = true from h)]
  | .lst xs, h => by show bels m xs = _; rw [bels_py m (show isPys xs = true from h)]
theorem bels_py (m : Nat) : ∀ {ds : List D}, isPys ds = true → bels m ds = true
  | [], _ => rfl
  | x :: r, h => by
    have h := (Bool.and_eq_true _ _).mp (show (isPy x && isPys r) = true from h)
    show (bel m x && bels m r) = _
    rw [bel_py m h.1, bels_py m h.2]; rfl
end
end DL

set_option maxHeartbeats 1000000
/-! DL 9: the ground of a law -/
namespace DL
open PySem PySem.Spec PyProof.Rows L2
mutual
theorem datB_ok {K : PySem.W.Frag} : ∀ {d : D} {v : Value}, datB K d v = true → ∃ u, RelV u v ∧ ∀ (G : Gd) Lv ρ H, G.K = K → RV G Lv ρ H d u
  | .non, v, h => by
    unfold datB at h
    split at h
    · exact ⟨.non, rfl, fun _ _ _ _ _ => .non⟩
    · cases h
  | .bl b, v, h => by
    unfold datB at h
    split at h
    · have := eq_of_beq h
      subst this
      exact ⟨.bl _, rfl, fun _ _ _ _ _ => .bl _⟩
    · cases h
  | .int i, v, h => by
    unfold datB at h
    split at h
    · have := of_decide_eq_true h
      subst this
      exact ⟨.int _, ⟨_, rfl⟩, fun _ _ _ _ _ => .int _⟩
    · cases h
  | .str s, v, h => by
    unfold datB at h
    split at h
    · have := of_decide_eq_true h
      subst this
      exact ⟨.str _, ⟨_, rfl⟩, fun _ _ _ _ _ => .str _⟩
    · cases h
  | .tup xs, v, h => by
    unfold datB at h
    split at h
    · split at h
      · rename_i a _ c dd its n sl e
        simp only [Bool.and_eq_true, decide_eq_true_eq] at h
        obtain ⟨⟨rfl, h2⟩, h3⟩ := h
        obtain ⟨us, r1, r2⟩ := datBs_ok h3
        exact ⟨.ref a, rfl, fun G Lv ρ H eK => .tup (.inr ⟨_, its, n, by rw [eK]; exact e, rfl, rfl, h2, r1⟩) (r2 G Lv ρ H eK)⟩
      · cases h
    · cases h
  | .klst xs, v, h => by
    unfold datB at h
    split at h
    · split at h
      · rename_i a _ c its n sl e
        simp only [Bool.and_eq_true, decide_eq_true_eq] at h
        obtain ⟨⟨rfl, h2⟩, h3⟩ := h
        obtain ⟨us, r1, r2⟩ := datBs_ok h3
        exact ⟨.ref a, rfl, fun G Lv ρ H eK => .klst (.inr ⟨_, its, n, by rw [eK]; exact e, rfl, rfl, rfl, h2, r1⟩) (r2 G Lv ρ H eK)⟩
      · cases h
    · cases h
  | .lst _, _, h => by unfold datB at h; cases h
  | .dct _ _, _, h => by unfold datB at h; cases h
  | .ins _ _ _, _, h => by unfold datB at h; cases h
  | .exc _ _ _, _, h => by unfold datB at h; cases h
  | .ref _, _, h => by unfold datB at h; cases h
  | .pin _ _, _, h => by unfold datB at h; cases h
theorem datBs_ok {K : PySem.W.Frag} : ∀ {ds : List D} {vs : List Value}, datBs K ds vs = true → ∃ us, Vals us vs ∧ ∀ (G : Gd) Lv ρ H, G.K = K → RVs G Lv ρ H ds us
  | [], vs, h => by
    unfold datBs at h
    cases vs with
    | nil => exact ⟨[], .nil, fun _ _ _ _ _ => .nil⟩
    | cons a r => cases h
  | d :: r, vs, h => by
    unfold datBs at h
    cases vs with
    | nil => cases h
    | cons v vs =>
      rw [Bool.and_eq_true] at h
      obtain ⟨u, a1, a2⟩ := datB_ok h.1
      obtain ⟨us, b1, b2⟩ := datBs_ok h.2
      exact ⟨u :: us, .cons a1 b1, fun G Lv ρ H e => .cons (a2 G Lv ρ H e) (b2 G Lv ρ H e)⟩
end
/-! ### the Hook: one check of the written part, and the defs -/
def SaysQ (ck : PySem.W.Frag → Bool) (fn : List He.DefD) (K : PySem.W.Frag) : Prop := obsQ ck fn K = He.valD fn
def obsQG (n : Nat) (ck : PySem.W.Frag → Bool) (fn : List He.DefD) (g : Addr → Option Obj) : He.AlD := obsQ ck fn (He.frG g (He.asD g n))
def hookQ (n : Nat) (ck : PySem.W.Frag → Bool) (fn : List He.DefD) : PySem.W.Hook where
  α := He.AlD
  obs := fun s => obsQG n ck fn s.heap.get?
  val := fun _ => He.valD fn
  says := fun _ h => ∃ K : PySem.W.Frag, K.In h ∧ SaysQ ck fn K
  of := fun _ _ e => ⟨_, He.frG_in, e⟩
  keeps := fun _ _ _ ⟨K, hK, c⟩ k => ⟨K, hK.keeps k, c⟩
theorem obsQG_eq {n : Nat} {ck : PySem.W.Frag → Bool} {fn : List He.DefD} {g : Addr → Option Obj} {s : Shared} (h : ∀ a, g a = s.heap.get? a) : obsQG n ck fn g = (hookQ n ck fn).obs s := by
  rw [show g = s.heap.get? from funext h]
  rfl
theorem SaysQ.fact {ck : PySem.W.Frag → Bool} {fn : List He.DefD} {K : PySem.W.Frag} (c : SaysQ ck fn K) : ck K = true :=
  (Bool.and_eq_true_iff.mp (show (ck K && fn.all fun d => d.ok K) = true from congrArg (fun z : He.AlD => z.1) c)).1
theorem SaysQ.def_ {ck : PySem.W.Frag → Bool} {fn : List He.DefD} {K : PySem.W.Frag} (c : SaysQ ck fn K) (i : Nat) {d : He.DefD} (h : fn[i]? = some d) : ∃ fd, FunD K d.name d.qual d.params d.body d.scope (d.dvs K) (d.kws K) (He.fAd K d.at_) fd := by
  have c2 := (Bool.and_eq_true_iff.mp (show (ck K && fn.all fun d => d.ok K) = true from congrArg (fun z : He.AlD => z.1) c)).2
  have e : fn.map (fun d => He.fnW K d.at_) = fn.map He.DefD.val := congrArg (fun z : He.AlD => z.2) c
  have e2 := congrArg (·[i]?) e
  simp only [List.getElem?_map, h, Option.map_some, Option.some.injEq] at e2
  exact He.DefD.funD e2 (List.all_eq_true.mp c2 d (List.mem_of_getElem? h))
/-! ### the ground -/
def fdOf (K : PySem.W.Frag) (a : Addr) : FuncData := match K.lookup a with
  | some ⟨_, _, .func fd, _⟩ => fd
  | _ => default
def mkG (fn : List He.DefD) (cs : List Str) (nms : List Str) (P : Program) (w : World) (K : PySem.W.Frag) (mg : Str → Option Value) (base : Heap) : Gd where
  P := P
  w := w
  K := K
  mg := mg
  base := base
  ca := fun c => He.ga K (cs.getD c ⟨#[]⟩)
  fa := fun f => match fn[f]? with
    | some d => He.fAd K d.at_
    | none => 0
  fd := fun f => match fn[f]? with
    | some d => fdOf K (He.fAd K d.at_)
    | none => default
  nm := fun i => nms.getD i ⟨#[]⟩
theorem fun_of {ck : PySem.W.Frag → Bool} {fn : List He.DefD} {K : PySem.W.Frag} (c : SaysQ ck fn K) (i : Nat) {d : He.DefD} (h : fn[i]? = some d) {cs nms : List Str} {P : Program} {w : World} {mg : Str → Option Value} {base : Heap} (hd : d.dfl = []) (hk : d.kwd = []) :
    FunD (mkG fn cs nms P w K mg base).K d.name d.qual d.params d.body d.scope [] [] ((mkG fn cs nms P w K mg base).fa i) ((mkG fn cs nms P w K mg base).fd i) := by
  obtain ⟨fd, F⟩ := c.def_ i h
  have e1 : (mkG fn cs nms P w K mg base).fa i = He.fAd K d.at_ := by show (match fn[i]? with | some d => He.fAd K d.at_ | none => 0) = _; rw [h]
  have e2 : (mkG fn cs nms P w K mg base).fd i = fdOf K (He.fAd K d.at_) := by show (match fn[i]? with | some d => fdOf K (He.fAd K d.at_) | none => default) = _; rw [h]
  have e3 : fdOf K (He.fAd K d.at_) = fd := by
    obtain ⟨_, _, _, _, _, _, _, _, _, _, _, hl, _⟩ := F.ex
    unfold fdOf
    rw [hl]
  have z1 : d.dvs K = [] := by unfold He.DefD.dvs; rw [hd]; rfl
  have z2 : d.kws K = [] := by unfold He.DefD.kws; rw [hk]; rfl
  rw [e1, e2, e3, ← z1, ← z2]
  exact F
/-- no classes -/
def tab0 (fnL frees : List Str) (glos : List (Str × D)) : Tab where
  mth := fun _ _ => none
  sub := fun _ _ => false
  exf := fun _ => []
  glo := fun g => match glos[g]? with
    | some p => p.2
    | none => .non
  fld := fun _ _ => false
  nms := []
  fn := fun f => fnL[f]?
  cl := fun _ => none
  gl := fun g => match glos[g]? with
    | some p => some p.1
    | none => none
  ini := fun _ => none
  fre := fun x => frees.contains x
def ck0 (fnL frees : List Str) (glos : List (Str × D)) (K : PySem.W.Frag) : Bool :=
  (fnL.all fun x => gloB K x (some (.ref (He.ga K x))) && PySem.W.keepIn K (.ref (He.ga K x))) && ((frees.all fun x => gloB K x none) && glos.all fun p => conB K p.1 p.2)
theorem gok0 {fn : List He.DefD} {fnL frees : List Str} {glos : List (Str × D)} {P : Program} {w : World} {K : PySem.W.Frag} {mg : Str → Option Value} {base : Heap} (X : K.In base) (hn : base.Ns mainGlobals mg) (hfn : fn.map (·.at_) = fnL.map fun x => (x, none))
    (c : ck0 fnL frees glos K = true) : GOk (mkG fn [] [] P w K mg base) (tab0 fnL frees glos) := by
  unfold ck0 at c
  simp only [Bool.and_eq_true, List.all_eq_true] at c
  obtain ⟨c1, c2, c3⟩ := c
  have nocl : ∀ {c x}, (tab0 fnL frees glos).cl c = some x → False := fun h => by cases h
  refine GOk.ofs ?_ ?_ ?_ ?_ ?_ (fun c f h => by cases h) ?_ ?_ ?_ ?_ ?_ ?_ ?_ ?_ ?_ ?_ ?_ ?_ ?_ ?_ (fun f x m e => by cases e)
  · exact fun i => rfl
  · intro f x h
    have hx : fnL[f]? = some x := h
    obtain ⟨d, hd, e⟩ : ∃ d, fn[f]? = some d ∧ d.at_ = (x, none) := by
      have := congrArg (·[f]?) hfn
      simp only [List.getElem?_map, hx, Option.map_some] at this
      exact Option.map_eq_some_iff.mp this
    have e1 : (mkG fn [] [] P w K mg base).fa f = He.ga K x := by
      show (match fn[f]? with | some d => He.fAd K d.at_ | none => 0) = _
      rw [hd]
      show He.fAd K d.at_ = _
      rw [e]; rfl
    rw [e1]
    obtain ⟨g1, g2⟩ := c1 x (List.mem_of_getElem? hx)
    exact ⟨PySem.W.mg_of X hn (of_decide_eq_true g1), g2⟩
  · exact fun c x h => (nocl h).elim
  · exact fun c f h => by cases h
  · exact fun c f h => by cases h
  · intro g x h
    cases e : glos[g]? with
    | none =>
      have : (tab0 fnL frees glos).gl g = none := by show (match glos[g]? with | some p => some p.1 | none => none) = _; rw [e]
      rw [this] at h; cases h
    | some p =>
      have e1 : (tab0 fnL frees glos).gl g = some p.1 := by show (match glos[g]? with | some p => some p.1 | none => none) = _; rw [e]
      have e2 : (tab0 fnL frees glos).glo g = p.2 := by show (match glos[g]? with | some p => p.2 | none => .non) = _; rw [e]
      rw [e1] at h; cases h
      rw [e2]
      have q := c3 p (List.mem_of_getElem? e)
      unfold conB at q
      split at q
      · rename_i v hv
        obtain ⟨u, r1, r2⟩ := datB_ok q
        exact ⟨v, u, PySem.W.mg_of X hn hv, r1, fun F S ρ H _ => r2 _ _ _ _ rfl⟩
      · cases q
  · exact fun g x h => by cases h
  · exact fun x h => PySem.W.mg_none_of X hn (of_decide_eq_true (c2 x (List.contains_iff_mem.mp h)))
  · exact fun c m f h => by cases h
  · exact fun c x h => (nocl h).elim
  · exact fun c d x y h => (nocl h).elim
  · exact fun c x t h => (nocl h).elim
  · exact fun c x h => (nocl h).elim
  · exact fun c f h => by cases h
  · exact fun c f n h => by cases h
  · exact fun c m f n h => by cases h
  · exact fun c x h => (nocl h).elim
  · exact fun c h => by cases h
  · exact fun c d h => by cases h
/-! ### the law's end -/
def spLaw (K : PySem.W.Frag) (n : Nat) : Sp := fun vs H Q _ => ∃ (a : Addr) (ns : List Int), vs = [.ref a] ∧ ns.length ≤ n ∧ (∀ z ∈ ns, Builtin.Int.intBits z ≤ 1048576) ∧ SqL K H a (ns.map V.int) ∧ ∀ H', Q (.bl true) H'
def script (ns : List Int) : D := .klst (ns.map .int)
theorem rvs_intsV {G : Gd} {Lv : Addr → Prop} {ρ : List Addr} {H : Hp} : ∀ ns : List Int, RVs G Lv ρ H (ns.map .int) (ns.map V.int)
  | [] => .nil
  | n :: r => .cons (.int n) (rvs_intsV r)
theorem lawAt {l : PySem.W.OpenLaw} {w : World} {K : PySem.W.Frag} {mg : Str → Option Value} {fa : Addr} {h : Heap} {k n : Nat} {x : Str} {fd : FuncData} {G : Heap → Gd} (hK : ∀ base, (G base).K = K)
    (hb : ∀ (s : Shared) (u : Value), BindsTo s fd ⟨[u], []⟩ [(x, u)])
    (hF : ∀ base, K.In base → base.Ns mainGlobals mg → ∀ ns : List Int, ns.length ≤ n → (∀ z ∈ ns, Builtin.Int.intBits z ≤ 1048576) → FnOk l.prog w K mg base (CX l.prog w) k fa fd [x] (spD (G base) [script ns] [] (fun d _ => d = .bl true) (fun _ _ => False))) :
    LamX.LawAtS l w K (CX l.prog w) k n x mg fa h := by
  refine ⟨fd, [], spLaw K n, fun _ h => (List.not_mem_nil h).elim, fun _ h => (List.not_mem_nil h).elim, fun _ h => (List.not_mem_nil h).elim, hb, fun H a ns h1 h2 _ h3 => ⟨a, ns, rfl, h1, h2, h3, fun _ => rfl⟩, fun base KI BN _ => ?_⟩
  refine ⟨fun vs H Q E ⟨a, ns, e, _⟩ => by rw [e]; rfl, fun A outer s H args us vs Q E hr env b rv ⟨a, ns, e, h1, h2, h3, hQ⟩ => (hF base KI BN ns h1 h2).run A outer s H args us vs Q E hr env b rv ?_⟩
  subst e
  have nl : ∀ a, ¬ Live ((G base).frm fun _ => False) [] [] a := fun a l => by
    rcases l with l | ⟨n, c, h, _⟩
    · exact l
    · simp at h
  refine ⟨fun _ => False, [], ⟨rfl, fun n a c h => by simp at h, fun n m a c c' h => by simp at h, fun n a c h => by simp at h, fun a h => h.elim⟩, .cons (.klst ?_ (rvs_intsV ns)) .nil, ?_, fun d S' ρ' H' cls dx p => p.elim⟩
  · have e : ((G base).frm fun _ => False).K = K := hK base
    rcases h3 with h3 | h3
    · exact .inl ⟨nl a, h3⟩
    · exact .inr (by rw [e]; exact h3)
  · rintro d S' ρ' H' r rfl s t v
    cases v
    exact hQ H'
theorem noCX {P : Program} {w : World} {H : Hp} {s : Shared} {e : Value} {s' : Shared} (h : CX P w [] H s (fun _ _ _ => False) e s') : False := by
  obtain ⟨_, _, _, _, _, _, _, _, _, _, _, _, z⟩ := h
  exact z
end DL

set_option maxHeartbeats 1000000
/-! DL 9b: the ground of a law with classes -/
namespace DL
open PySem PySem.Spec PyProof.Rows L2
theorem findB_mem {a : Nat} {z : Str × Str} : ∀ {l : List (Nat × Str × Str)}, findB a l = some z → (a, z) ∈ l
  | [], h => by cases h
  | (x, w) :: r, h => by
    unfold findB at h
    split at h
    · rename_i e
      cases h
      rw [Nat.eq_of_beq_eq_true e]
      exact List.mem_cons_self
    · exact List.mem_cons_of_mem _ (findB_mem h)
theorem find3_mem {a b z : Nat} : ∀ {l : List (Nat × Nat × Nat)}, find3 a b l = some z → (a, b, z) ∈ l
  | [], h => by cases h
  | (x, y, w) :: r, h => by
    unfold find3 at h
    split at h
    · rename_i e
      rw [Bool.and_eq_true] at e
      cases h
      rw [Nat.eq_of_beq_eq_true e.1, Nat.eq_of_beq_eq_true e.2]
      exact List.mem_cons_self
    · exact List.mem_cons_of_mem _ (find3_mem h)
theorem find2_mem {a z : Nat} : ∀ {l : List (Nat × Nat)}, find2 a l = some z → (a, z) ∈ l
  | [], h => by cases h
  | (x, w) :: r, h => by
    unfold find2 at h
    split at h
    · rename_i e
      cases h
      rw [Nat.eq_of_beq_eq_true e]
      exact List.mem_cons_self
    · exact List.mem_cons_of_mem _ (find2_mem h)
theorem has2_mem {a b : Nat} : ∀ {l : List (Nat × Nat)}, has2 a b l = true → (a, b) ∈ l
  | [], h => by cases h
  | (x, y) :: r, h => by
    unfold has2 at h
    split at h
    · rename_i e
      rw [Bool.and_eq_true] at e
      rw [Nat.eq_of_beq_eq_true e.1, Nat.eq_of_beq_eq_true e.2]
      exact List.mem_cons_self
    · exact List.mem_cons_of_mem _ (has2_mem h)
def Hdr.tab (h : Hdr) : Tab where
  mth := fun c m => find3 c m h.mths
  sub := fun c d => has2 c d h.subs
  exf := fun _ => []
  glo := fun g => match h.glos[g]? with
    | some p => p.2
    | none => .non
  kd := fun g => match h.kds[g]? with
    | some p => p.2
    | none => []
  kdn := fun g => match h.kds[g]? with
    | some p => some p.1
    | none => none
  fld := fun c f => has2 c f h.flds
  nms := h.nms
  fn := fun f => match h.fns[f]? with
    | some (x, none) => some x
    | _ => none
  cl := fun c => h.cls[c]?
  gl := fun g => match h.glos[g]? with
    | some p => some p.1
    | none => none
  ini := fun c => find2 c h.inis
  fre := fun x => h.frees.contains x
  xc := fun c => h.xcs.contains c
  bas := fun f => findB f h.bas
theorem findT_mem {s y : Tx} : ∀ {l : List (Tx × Tx)}, findT s l = some y → (s, y) ∈ l
  | [], h => by cases h
  | p :: r, h => by
    unfold findT at h
    split at h
    · rename_i e
      cases h
      have := of_decide_eq_true e
      subst this
      exact List.mem_cons_self
    · exact List.mem_cons_of_mem _ (findT_mem h)
theorem kdB_ok {K : PySem.W.Frag} {w : World} {p : Str × List (Tx × Tx)} {es : Array DictEntry} {n : Nat} (h : kdB K p = true) (d : KDict K w (He.ga K p.1) es n) {s y : Tx} (e : findT s p.2 = some y) : KDct K w (He.ga K p.1) (tx s) (.str (tx y)) := by
  unfold kdB at h
  rw [Bool.and_eq_true] at h
  have z := List.all_eq_true.mp h.2 _ (findT_mem e)
  dsimp only at z
  split at z
  · rename_i zz t q
    have := of_decide_eq_true z
    subst this
    exact ⟨es, n, _, d.1, d.lit, q, ⟨t, rfl⟩⟩
  · cases z
theorem xcB_ok {K : PySem.W.Frag} {C : Addr} (h : xcB K C = true) : XcC K C := by
  unfold xcB at h
  simp only [Bool.and_eq_true, decide_eq_true_eq] at h
  obtain ⟨h1, h2, h3, h4, h5, h6, h7, h8, h9, h10, h11⟩ := h
  exact ⟨h1, h2, h3, ⟨h4, h5, h2, h6, h7, h8, h9, h10⟩, h11⟩
theorem baB_ok {K : PySem.W.Frag} {C : Addr} {m : Str} {f : Addr} (h : baB K C m f = true) : BaseM K C m f := by
  unfold baB at h
  simp only [Bool.and_eq_true, decide_eq_true_eq] at h
  obtain ⟨h1, h2, h3⟩ := h
  refine ⟨h1, h2, ?_⟩
  split at h3
  · rename_i a e
    rw [e, of_decide_eq_true h3]
  · cases h3
theorem eqB_ok {K : PySem.W.Frag} {C : Addr} (h : eqB K C = true) : EqO K C := by
  unfold eqB at h
  simp only [Bool.and_eq_true, decide_eq_true_eq] at h
  exact ⟨h.1, h.2.1, h.2.2⟩
/-- the names are unlike; numbers are in range -/
def Hdr.good (h : Hdr) : Bool := decide h.nms.Nodup && !h.nms.contains ⟨#[]⟩ && (h.mths.all fun p => Nat.blt p.2.1 h.nms.length) && (h.flds.all fun p => Nat.blt p.2 h.nms.length) && (h.inis.all fun p => Nat.blt p.1 h.cls.length)
theorem nm_inj {l : List Str} (nd : l.Nodup) (ne : (⟨#[]⟩ : Str) ∉ l) {n m : Nat} (hm : m < l.length) (e : l.getD n ⟨#[]⟩ = l.getD m ⟨#[]⟩) : n = m := by
  rw [List.getD_eq_getElem?_getD, List.getD_eq_getElem?_getD, List.getElem?_eq_getElem hm] at e
  by_cases hn : n < l.length
  · rw [List.getElem?_eq_getElem hn] at e
    have e2 : l[n] = l[m] := by simpa using e
    exact (List.getElem?_inj hn nd).mp (by rw [List.getElem?_eq_getElem hn, List.getElem?_eq_getElem hm, e2])
  · rw [List.getElem?_eq_none (by omega)] at e
    exact absurd (by have := List.getElem_mem hm; rw [← show (⟨#[]⟩ : Str) = l[m] from by simpa using e] at this; exact this) ne
theorem gok1 (h : Hdr) {fn : List He.DefD} {P : Program} {w : World} {K : PySem.W.Frag} {mg : Str → Option Value} {base : Heap} (X : K.In base) (hn : base.Ns mainGlobals mg) (hfn : fn.map (·.at_) = h.fns) (c : h.ck K = true) (g : h.good = true) (hk : ∀ p ∈ h.kds, ∃ es n, KDict K w (He.ga K p.1) es n) :
    GOk (mkG fn h.cls h.nms P w K mg base) h.tab := by
  unfold Hdr.ck at c
  simp only [Bool.and_eq_true, List.all_eq_true, decide_eq_true_eq] at c
  obtain ⟨cx, c0, c1, c2, c3, c4, c5, c6, c7, c8⟩ := c
  have cb := cx.2
  have cx := cx.1
  have cx1 := (Bool.and_eq_true_iff.mp cx).1
  have cx2 := (Bool.and_eq_true_iff.mp cx).2
  have xb : ∀ c, h.tab.xc c = true → c ∈ h.xcs := fun c e => List.contains_iff_mem.mp e
  unfold Hdr.good at g
  simp only [Bool.and_eq_true, List.all_eq_true, decide_eq_true_eq, Bool.not_eq_true'] at g
  obtain ⟨⟨⟨⟨g1, g2⟩, g3⟩, g4⟩, g5⟩ := g
  have g2' : (⟨#[]⟩ : Str) ∉ h.nms := fun q => by rw [List.contains_iff_mem.mpr q] at g2; cases g2
  have fae : ∀ f, (mkG fn h.cls h.nms P w K mg base).fa f = h.fa K f := fun f => by
    show (match fn[f]? with | some d => He.fAd K d.at_ | none => 0) = (match h.fns[f]? with | some p => He.fAd K p | none => 0)
    rw [← hfn, List.getElem?_map]
    cases fn[f]? <;> rfl
  have cae : ∀ {c x}, h.cls[c]? = some x → (mkG fn h.cls h.nms P w K mg base).ca c = He.ga K x := fun {c x} e => by
    show He.ga K (h.cls.getD c ⟨#[]⟩) = _
    rw [List.getD_eq_getElem?_getD, e]; rfl
  refine GOk.ofs ?_ ?_ ?_ ?_ ?_ ?_ ?_ ?_ ?_ ?_ ?_ ?_ ?_ ?_ ?_ ?_ ?_ ?_ ?_ ?_ ?_
  · exact fun i => rfl
  · intro f x e
    have e' : (match h.fns[f]? with | some (x, none) => some x | _ => none) = some x := e
    split at e'
    · rename_i y q
      cases e'
      have z := c1 _ (List.mem_of_getElem? q)
      simp only [Bool.and_eq_true] at z
      rw [fae f, show h.fa K f = He.ga K x from by unfold Hdr.fa; rw [q]; rfl]
      exact ⟨PySem.W.mg_of X hn (of_decide_eq_true z.1), z.2⟩
    · cases e'
  · intro i x e
    have z := c4 x (List.mem_of_getElem? e)
    rw [cae e]
    exact ⟨PySem.W.mg_of X hn (of_decide_eq_true z.1.1.1.1.1.1.1), z.1.1.1.1.1.1.2⟩
  · intro i f e
    have z := (c8 _ (find2_mem e)).1
    rw [fae f]
    exact ⟨z.1.1.1.2, z.1.1.2, z.1.2, z.2⟩
  · intro i f e
    have hl := g5 _ (find2_mem e)
    have hl' : i < h.cls.length := Nat.le_of_ble_eq_true hl
    have e1 : h.cls[i]? = some h.cls[i] := List.getElem?_eq_getElem hl'
    rw [cae e1]
    have z := (c8 _ (find2_mem e)).1.1.1.1.1
    rw [List.getD_eq_getElem?_getD, e1] at z
    exact He.cls_ok z
  · exact fun i f e => eqB_ok (c8 _ (find2_mem e)).2
  · intro i x e
    have e' : (match h.glos[i]? with | some p => some p.1 | none => none) = some x := e
    split at e'
    · rename_i p q
      cases e'
      have e2 : h.tab.glo i = p.2 := by show (match h.glos[i]? with | some p => p.2 | none => .non) = _; rw [q]
      rw [e2]
      have z := c3 p (List.mem_of_getElem? q)
      unfold conB at z
      split at z
      · rename_i v hv
        obtain ⟨u, r1, r2⟩ := datB_ok z
        exact ⟨v, u, PySem.W.mg_of X hn hv, r1, fun F S ρ H _ => r2 _ _ _ _ rfl⟩
      · cases z
    · cases e'
  · intro i x e
    have e' : (match h.kds[i]? with | some p => some p.1 | none => none) = some x := e
    split at e'
    · rename_i p q
      cases e'
      have e2 : h.tab.kd i = p.2 := by show (match h.kds[i]? with | some p => p.2 | none => []) = _; rw [q]
      rw [e2]
      have z := c0 p (List.mem_of_getElem? q)
      obtain ⟨es, n, d⟩ := hk p (List.mem_of_getElem? q)
      have z2 := z
      unfold kdB at z2
      rw [Bool.and_eq_true] at z2
      exact ⟨He.ga K p.1, PySem.W.mg_of X hn (of_decide_eq_true z2.1), fun s y e => kdB_ok z d e⟩
    · cases e'
  · exact fun x e => PySem.W.mg_none_of X hn (of_decide_eq_true (c2 x (List.contains_iff_mem.mp e)))
  · intro i m f e
    have z := c6 _ (find3_mem e)
    rw [fae f]
    exact ⟨z.1.1, z.1.2, z.2⟩
  · intro i x e
    rw [cae e]
    have z := (c4 x (List.mem_of_getElem? e)).1.1.1.1.1.2
    rw [Bool.and_eq_true]
    exact ⟨z.1, z.2⟩
  · intro a b x y ea eb
    have ha := (List.getElem?_eq_some_iff.mp ea).1
    have hb := (List.getElem?_eq_some_iff.mp eb).1
    exact c5 a (List.mem_range.mpr ha) b (List.mem_range.mpr hb)
  · intro i x t e ht
    rw [cae e]
    exact (c4 x (List.mem_of_getElem? e)).1.1.1.1.2 t ht
  · intro i x e
    have z := c4 x (List.mem_of_getElem? e)
    rw [cae e]
    exact ⟨z.1.1.1.2, z.1.1.2, z.1.2, z.2⟩
  · intro i f e
    exact c7 _ (has2_mem e)
  · intro i f n e q
    exact nm_inj g1 g2' (Nat.le_of_ble_eq_true (g4 _ (has2_mem e))) q
  · intro i m f n e q
    exact nm_inj g1 g2' (Nat.le_of_ble_eq_true (g3 _ (find3_mem e))) q
  · intro i x e xi
    have z := List.all_eq_true.mp cx1 i (xb i xi)
    rw [Bool.and_eq_true] at z
    exact xcB_ok z.2
  · intro i xi
    have z := List.all_eq_true.mp cx1 i (xb i xi)
    rw [Bool.and_eq_true] at z
    have hl : i < h.cls.length := Nat.le_of_ble_eq_true z.1
    show (h.cls[i]?).isSome = true
    rw [List.getElem?_eq_getElem hl]
    rfl
  · intro a b ha hb
    exact of_decide_eq_true (List.all_eq_true.mp (List.all_eq_true.mp cx2 a (xb a ha)) b (xb b hb))
  · intro f x m e
    have e' : findB f h.bas = some (x, m) := e
    have z := List.all_eq_true.mp cb _ (findB_mem e')
    rw [Bool.and_eq_true, Bool.and_eq_true] at z
    rw [fae f]
    exact ⟨He.ga K x, PySem.W.mg_of X hn (of_decide_eq_true z.1), baB_ok z.2.2, z.2.1⟩
/-! ### the Hook, with written dicts -/
def SaysK (h : Hdr) (fn : List He.DefD) (w : World) (K : PySem.W.Frag) : Prop := obsK h fn K = valK h fn w
def obsKG (n : Nat) (h : Hdr) (fn : List He.DefD) (g : Addr → Option Obj) : AlK := obsK h fn (He.frG g (He.asD g n ++ [PySem.cStatics]))
def hookK (n : Nat) (h : Hdr) (fn : List He.DefD) : PySem.W.Hook where
  α := AlK
  obs := fun s => obsKG n h fn s.heap.get?
  val := fun w => valK h fn w
  says := fun w hp => ∃ K : PySem.W.Frag, K.In hp ∧ SaysK h fn w K
  of := fun _ _ e => ⟨_, He.frG_in, e⟩
  keeps := fun _ _ _ ⟨K, hK, c⟩ k => ⟨K, hK.keeps k, c⟩
theorem obsKG_eq {n : Nat} {h : Hdr} {fn : List He.DefD} {g : Addr → Option Obj} {s : Shared} (e : ∀ a, g a = s.heap.get? a) : obsKG n h fn g = (hookK n h fn).obs s := by
  rw [show g = s.heap.get? from funext e]
  rfl
theorem SaysK.q {h : Hdr} {fn : List He.DefD} {w : World} {K : PySem.W.Frag} (c : SaysK h fn w K) : SaysQ h.ck fn K := congrArg (fun z : AlK => z.1) c
theorem SaysK.tabs {h : Hdr} {fn : List He.DefD} {w : World} {K : PySem.W.Frag} (c : SaysK h fn w K) : ∀ p ∈ h.kds, ∃ es n, KDict K w (He.ga K p.1) es n := by
  intro p hp
  obtain ⟨i, hi, e⟩ := List.getElem_of_mem hp
  have e0 : h.kds.map (fun p => He.dicW K (He.ga K p.1)) = h.kds.map fun p => some (He.keysIn w.params (p.2.map fun q => tx q.1)) := congrArg (fun z : AlK => z.2) c
  have e2 := congrArg (·[i]?) e0
  simp only [List.getElem?_map, List.getElem?_eq_getElem hi, e, Option.map_some, Option.some.injEq] at e2
  exact He.dicW_ok e2
/-! ### a world by what it answers at one question -/
theorem wfk_eq (w : World) : wfk w (w.params.followText "special-get-raises") = w := by
  have e : (fun r => match decide (r = "special-get-raises") with
    | true => w.params.followText "special-get-raises"
    | false => w.params.followText r) = w.params.followText := by
    funext r
    by_cases h : r = "special-get-raises"
    · rw [h]; rfl
    · rw [decide_eq_false h]
  unfold wfk
  rw [e]
end DL

namespace DL
open PySem PySem.Spec PyProof.Rows L2
/-! ### the observation in two parts: each run is its own kernel fact, so that less memory is held at once -/
theorem obs_cut {σ A B : Type} {run : Option σ} {l : σ → A} {r : σ → B} {n : Nat} {h : Hdr} {fn : List He.DefD} {g : σ → Addr → Option Obj} {a : A} {b : B} {v : AlK}
    (h1 : run.map (fun s => (l s, r s, obsK1 n h fn (g s))) = some (a, b, v)) (h2 : run.map (fun s => obsK2 n h (g s)) = some true) :
    run.map (fun s => (l s, r s, obsKG n h fn (g s))) = some (a, b, v) := by
  cases run with
  | none => cases h1
  | some s =>
    have e2 : obsK2 n h (g s) = true := Option.some.inj h2
    have e3 : obsKG n h fn (g s) = obsK1 n h fn (g s) := by
      have e4 : h.ck (He.frG (g s) (He.asD (g s) n ++ [PySem.cStatics])) = true := e2
      unfold obsKG obsK obsQ obsK1
      rw [e4]
      rfl
    show some (l s, r s, obsKG n h fn (g s)) = _
    rw [e3]
    exact h1
def hookK1 (n : Nat) (h : Hdr) (fn : List He.DefD) : PySem.W.Hook where
  α := AlK
  obs := fun s => obsK1 n h fn s.heap.get?
  val := fun w => valK h fn w
  says := fun _ _ => True
  of := fun _ _ _ => trivial
  keeps := fun _ _ _ _ _ => trivial
theorem runEq_cut {r : PySem.W.OpenRow} {q : Program} {n : Nat} {h : Hdr} {fn : List He.DefD} {M : Nat} {loose : List PySem.Str} {w : World}
    (h0 : HandSHeadRun.RunEq r q PySem.W.Hook.none (fun _ => ()) M loose w)
    (h1 : ∀ os : OsState, (runOf r M w os).map (fun s => obsK1 n h fn (HandSHeadRun.getT s)) = some (valK h fn w))
    (h2 : ∀ os : OsState, (runOf r M w os).map (fun s => obsK2 n h (HandSHeadRun.getT s)) = some true) :
    HandSHeadRun.RunEq r q (hookK n h fn) (fun s => obsKG n h fn (HandSHeadRun.getT s)) M loose w := fun os => by
  refine obs_cut ?_ (h2 os)
  have z0 := h0 os
  have z1 := h1 os
  show (runOf r M w os).map _ = _
  change (runOf r M w os).map _ = _ at z0
  revert z1
  revert z0
  cases runOf r M w os with
  | none => intro z0; cases z0
  | some s =>
    intro z0 z1
    have e0 := Option.some.inj z0
    have e1 := Option.some.inj z1
    have e2 := congrArg (fun x : Bool × _ => x.1) e0
    have e3 := congrArg (fun x : Bool × _ × Unit => x.2.1) e0
    exact congrArg some (Prod.ext e2 (Prod.ext e3 e1))
end DL

namespace DL
open PySem PySem.Spec PyProof.Rows L2
/-! ### the observation over told addresses -/
def obsL (as : List Addr) (h : Hdr) (fn : List He.DefD) (g : Addr → Option Obj) : AlK := obsK h fn (He.frG g as)
def hookL (as : List Addr) (h : Hdr) (fn : List He.DefD) : PySem.W.Hook where
  α := AlK
  obs := fun s => obsL as h fn s.heap.get?
  val := fun w => valK h fn w
  says := fun w hp => ∃ K : PySem.W.Frag, K.In hp ∧ SaysK h fn w K
  of := fun _ _ e => ⟨_, He.frG_in, e⟩
  keeps := fun _ _ _ ⟨K, hK, c⟩ k => ⟨K, hK.keeps k, c⟩
theorem obsL_eq {as : List Addr} {h : Hdr} {fn : List He.DefD} {g : Addr → Option Obj} {s : Shared} (e : ∀ a, g a = s.heap.get? a) : obsL as h fn g = (hookL as h fn).obs s := by
  rw [show g = s.heap.get? from funext e]
  rfl
theorem obsL_cut {as : List Addr} {h : Hdr} {fn : List He.DefD} {g : Addr → Option Obj} {v : AlK} (h1 : obsL1 as h fn g = v) (h2 : obsL2 as h g = true) : obsL as h fn g = v := by
  have e4 : h.ck (He.frG g as) = true := h2
  rw [← h1]
  unfold obsL obsK obsQ obsL1
  rw [e4]
  rfl
theorem runEq_cutL {r : PySem.W.OpenRow} {q : Program} {as : List Addr} {h : Hdr} {fn : List He.DefD} {M : Nat} {loose : List PySem.Str} {w : World}
    (h0 : HandSHeadRun.RunEq r q PySem.W.Hook.none (fun _ => ()) M loose w)
    (h1 : ∀ os : OsState, (runOf r M w os).map (fun s => obsL1 as h fn (HandSHeadRun.getT s)) = some (valK h fn w))
    (h2 : ∀ os : OsState, (runOf r M w os).map (fun s => obsL2 as h (HandSHeadRun.getT s)) = some true) :
    HandSHeadRun.RunEq r q (hookL as h fn) (fun s => obsL as h fn (HandSHeadRun.getT s)) M loose w := fun os => by
  have z0 := h0 os
  have z1 := h1 os
  have z2 := h2 os
  show (runOf r M w os).map _ = _
  change (runOf r M w os).map _ = _ at z0
  revert z2
  revert z1
  revert z0
  cases runOf r M w os with
  | none => intro z0; cases z0
  | some s =>
    intro z0 z1 z2
    have e0 := Option.some.inj z0
    have e1 := Option.some.inj z1
    have e3 := Option.some.inj z2
    have e2 := congrArg (fun x : Bool × _ => x.1) e0
    have e4 := congrArg (fun x : Bool × _ × Unit => x.2.1) e0
    exact congrArg some (Prod.ext e2 (Prod.ext e4 (obsL_cut e1 e3)))
end DL

set_option maxHeartbeats 1000000
namespace SA
open PySem PySem.Spec PyProof.Rows L2 DL
/-- the pairs of a dict of numbers -/
def dp (kv : List (Tx × Int)) : List (Tx × D) := kv.map fun p => (p.1, .int p.2)
theorem sort_same {a b : List Tx} (p : a.Perm b) (h : b.Pairwise fun x y => leT x y = true) : sortT a = b := by
  have p2 : (sortT a).Perm b := (sortT_perm a).trans p
  exact List.Perm.eq_of_pairwise (fun x y _ _ => leT_anti x y) (sortT_sorted a) h p2
def putI (x : Tx) (z : Int) (kv : List (Tx × Int)) : List (Tx × Int) := if x ∈ kv.map (·.1) then kv.map fun p => if p.1 = x then (p.1, z) else p else kv ++ [(x, z)]
theorem dp_keys (kv : List (Tx × Int)) : (dp kv).map (·.1) = kv.map (·.1) := by simp [dp]
theorem putI_dp (x : Tx) (z : Int) (kv : List (Tx × Int)) : dp (putI x z kv) = putT x (.int z) (dp kv) := by
  unfold putI putT
  rw [dp_keys]
  split
  · unfold dp
    rw [List.map_map, List.map_map]
    apply List.map_congr_left
    intro p _
    show ((if p.1 = x then (p.1, z) else p).1, D.int (if p.1 = x then (p.1, z) else p).2) = if p.1 = x then (p.1, D.int z) else (p.1, D.int p.2)
    split <;> rfl
  · simp [dp]
theorem putI_nodup {x : Tx} {z : Int} {kv : List (Tx × Int)} (h : (kv.map (·.1)).Nodup) : ((putI x z kv).map (·.1)).Nodup := by
  have := putT_nodup (x := x) (y := .int z) (kv := dp kv) (by rw [dp_keys]; exact h)
  rw [← putI_dp, dp_keys] at this
  exact this
theorem putI_mem {x : Tx} {z : Int} {kv : List (Tx × Int)} {p : Tx × Int} (h : p ∈ putI x z kv) : p ∈ kv ∨ p = (x, z) := by
  unfold putI at h
  split at h
  · obtain ⟨q, h1, h2⟩ := List.mem_map.mp h
    split at h2
    · rename_i e
      rw [e] at h2
      exact .inr h2.symm
    · exact .inl (h2 ▸ h1)
  · rcases List.mem_append.mp h with h | h
    · exact .inl h
    · simp at h; exact .inr h
theorem putI_len {x : Tx} {z : Int} {kv : List (Tx × Int)} : (putI x z kv).length ≤ kv.length + 1 := by
  unfold putI
  split
  · simp
  · simp
/-- a dict's numbers, by sorted keys -/
def valI (x : Tx) (kv : List (Tx × Int)) : Int := match getT x (dp kv) with
  | some (.int z) => z
  | _ => 0
theorem getT_dp {x : Tx} {kv : List (Tx × Int)} (nd : (kv.map (·.1)).Nodup) (h : x ∈ kv.map (·.1)) : ∃ z, (x, z) ∈ kv ∧ getT x (dp kv) = some (.int z) ∧ valI x kv = z := by
  obtain ⟨p, h1, rfl⟩ := List.mem_map.mp h
  have e : getT p.1 (dp kv) = some (.int p.2) := getT_mem (by rw [dp_keys]; exact nd) (List.mem_map.mpr ⟨p, h1, rfl⟩)
  exact ⟨p.2, h1, e, by unfold valI; rw [e]⟩
def sorted (kv : List (Tx × Int)) : List (Tx × Int) := (sortT (kv.map (·.1))).map fun x => (x, valI x kv)
theorem sorted_keys (kv : List (Tx × Int)) : (sorted kv).map (·.1) = sortT (kv.map (·.1)) := by
  unfold sorted
  rw [List.map_map]
  simp [Function.comp_def]
/-- how often a thing is taken in all -/
def tot (x : Tx) : List (Tx × Int) → Int
  | [] => 0
  | p :: r => (if p.1 = x then p.2 else 0) + tot x r
theorem tot_append (x : Tx) : ∀ a b : List (Tx × Int), tot x (a ++ b) = tot x a + tot x b
  | [], b => by simp [tot]
  | p :: a, b => by simp only [List.cons_append, tot, tot_append x a b]; omega
theorem tot_perm {x : Tx} {a b : List (Tx × Int)} (h : a.Perm b) : tot x a = tot x b := by
  induction h with
  | nil => rfl
  | cons p _ ih => simp only [tot, ih]
  | swap p q l => simp only [tot]; omega
  | trans _ _ h1 h2 => exact h1.trans h2
theorem tot_none {x : Tx} : ∀ {a : List (Tx × Int)}, x ∉ a.map (·.1) → tot x a = 0
  | [], _ => rfl
  | p :: a, h => by
    simp only [List.map_cons, List.mem_cons, not_or] at h
    simp only [tot, tot_none h.2, if_neg (Ne.symm h.1)]
    rfl
theorem tot_some {x : Tx} {z : Int} : ∀ {a : List (Tx × Int)}, (a.map (·.1)).Nodup → (x, z) ∈ a → tot x a = z
  | p :: a, nd, h => by
    rw [List.map_cons, List.nodup_cons] at nd
    simp only [tot]
    rcases List.mem_cons.mp h with e | h
    · subst e
      rw [if_pos rfl, tot_none nd.1, Int.add_zero]
    · have : p.1 ≠ x := fun e => nd.1 (List.mem_map.mpr ⟨_, h, e.symm⟩)
      rw [if_neg this, tot_some nd.2 h, Int.zero_add]
theorem tot_map (x : Tx) (f : Int → Int) (h : ∀ a b, f (a + b) = f a + f b) (h0 : f 0 = 0) : ∀ a : List (Tx × Int), tot x (a.map fun p => (p.1, f p.2)) = f (tot x a)
  | [] => h0.symm
  | p :: a => by
    simp only [List.map_cons, tot, tot_map x f h h0 a, h]
    split
    · rfl
    · rw [h0]
theorem tot_put {x y : Tx} {z : Int} {kv : List (Tx × Int)} (nd : (kv.map (·.1)).Nodup) : tot x (putI y z kv) = if x = y then z else tot x kv := by
  unfold putI
  split
  · rename_i hm
    have key : ∀ kv : List (Tx × Int), (kv.map (·.1)).Nodup → tot x (kv.map fun p => if p.1 = y then (p.1, z) else p) = if x = y then (if y ∈ kv.map (·.1) then z else 0) else tot x kv := by
      intro kv
      induction kv with
      | nil => intro _; simp [tot]
      | cons p kv ih =>
        intro nd
        rw [List.map_cons, List.nodup_cons] at nd
        have ih := ih nd.2
        simp only [List.map_cons, tot, ih]
        by_cases e : p.1 = y
        · subst e
          by_cases e2 : x = p.1
          · subst e2
            simp [nd.1]
          · simp [e2, Ne.symm e2]
        · by_cases e2 : x = y
          · subst e2
            simp only [e, if_false, Int.zero_add, if_true, List.mem_cons, Ne.symm e, false_or]
          · simp [e, e2]
    rw [key kv nd, if_pos hm]
  · rename_i hm
    rw [tot_append]
    simp only [tot]
    by_cases e : x = y
    · subst e
      rw [tot_none hm]
      simp
    · simp [e, Ne.symm e]
/-- a pair gathered into a dict -/
def addI (kv : List (Tx × Int)) (p : Tx × Int) : List (Tx × Int) := putI p.1 (tot p.1 kv + p.2) kv
def gth (ps : List (Tx × Int)) : List (Tx × Int) := ps.foldl addI []
theorem foldl_nodup : ∀ (ps kv : List (Tx × Int)), (kv.map (·.1)).Nodup → ((ps.foldl addI kv).map (·.1)).Nodup
  | [], _, h => h
  | p :: ps, _, h => foldl_nodup ps _ (putI_nodup h)
theorem gth_nodup (ps : List (Tx × Int)) : ((gth ps).map (·.1)).Nodup := foldl_nodup ps [] List.nodup_nil
theorem gth_snoc (ps : List (Tx × Int)) (p : Tx × Int) : gth (ps ++ [p]) = addI (gth ps) p := by
  unfold gth; rw [List.foldl_append]; rfl
theorem foldl_tot (x : Tx) : ∀ (ps kv : List (Tx × Int)), (kv.map (·.1)).Nodup → tot x (ps.foldl addI kv) = tot x kv + tot x ps
  | [], _, h => by simp [tot]
  | p :: ps, kv, h => by
    rw [List.foldl_cons, foldl_tot x ps (addI kv p) (putI_nodup h)]
    unfold addI
    rw [tot_put h]
    simp only [tot]
    by_cases e : x = p.1
    · subst e; simp; omega
    · simp [e, Ne.symm e]
theorem gth_tot (x : Tx) (ps : List (Tx × Int)) : tot x (gth ps) = tot x ps := by
  unfold gth
  rw [foldl_tot x ps [] List.nodup_nil]
  simp [tot]
theorem putI_keys {x y : Tx} {z : Int} {kv : List (Tx × Int)} : x ∈ (putI y z kv).map (·.1) ↔ x = y ∨ x ∈ kv.map (·.1) := by
  unfold putI
  split
  · rename_i hm
    have : (kv.map fun p => if p.1 = y then (p.1, z) else p).map (·.1) = kv.map (·.1) := by
      rw [List.map_map]
      apply List.map_congr_left
      intro p _
      show (if p.1 = y then (p.1, z) else p).1 = p.1
      split <;> rfl
    rw [this]
    constructor
    · exact .inr
    · rintro (rfl | h)
      · exact hm
      · exact h
  · simp only [List.map_append, List.map_cons, List.map_nil, List.mem_append, List.mem_singleton]
    exact Or.comm
theorem foldl_keys (x : Tx) : ∀ (ps kv : List (Tx × Int)), x ∈ (ps.foldl addI kv).map (·.1) ↔ x ∈ kv.map (·.1) ∨ x ∈ ps.map (·.1)
  | [], kv => by simp
  | p :: ps, kv => by
    rw [List.foldl_cons, foldl_keys x ps]
    unfold addI
    rw [putI_keys, List.map_cons, List.mem_cons]
    constructor
    · rintro ((h | h) | h)
      · exact .inr (.inl h)
      · exact .inl h
      · exact .inr (.inr h)
    · rintro (h | h | h)
      · exact .inl (.inr h)
      · exact .inl (.inl h)
      · exact .inr h
theorem gth_keys (x : Tx) (ps : List (Tx × Int)) : x ∈ (gth ps).map (·.1) ↔ x ∈ ps.map (·.1) := by
  unfold gth
  rw [foldl_keys]
  simp
theorem foldl_len : ∀ (ps kv : List (Tx × Int)), (ps.foldl addI kv).length ≤ kv.length + ps.length
  | [], kv => by simp
  | p :: ps, kv => by
    rw [List.foldl_cons]
    refine Nat.le_trans (foldl_len ps _) ?_
    have : (addI kv p).length ≤ kv.length + 1 := by
      unfold addI putI
      split <;> simp
    simp only [List.length_cons]
    omega
theorem gth_len (ps : List (Tx × Int)) : (gth ps).length ≤ ps.length := by
  have := foldl_len ps []
  simpa [gth] using this
/-- like things added up, noughts left out, sorted -/
def gat (ps : List (Tx × Int)) : List (Tx × Int) := ((sortT ((gth ps).map (·.1))).filter fun x => decide (tot x ps ≠ 0)).map fun x => (x, tot x ps)
/-- rising, unlike, none nought -/
structure Rise (a : List (Tx × Int)) : Prop where
  srt : (a.map (·.1)).Pairwise fun x y => leT x y = true
  nd : (a.map (·.1)).Nodup
  nz : ∀ p ∈ a, p.2 ≠ 0
theorem gat_keys (ps : List (Tx × Int)) : (gat ps).map (·.1) = (sortT ((gth ps).map (·.1))).filter fun x => decide (tot x ps ≠ 0) := by
  unfold gat
  rw [List.map_map]
  simp [Function.comp_def]
theorem gat_rise (ps : List (Tx × Int)) : Rise (gat ps) := by
  refine ⟨?_, ?_, ?_⟩
  · rw [gat_keys]; exact (sortT_sorted _).filter _
  · rw [gat_keys]; exact ((sortT_perm _).nodup_iff.mpr (gth_nodup ps)).filter _
  · intro p hp
    unfold gat at hp
    obtain ⟨x, h1, rfl⟩ := List.mem_map.mp hp
    have := (List.mem_filter.mp h1).2
    simpa using this
theorem gat_mem {ps : List (Tx × Int)} {p : Tx × Int} (h : p ∈ gat ps) : p.1 ∈ ps.map (·.1) ∧ p.2 = tot p.1 ps := by
  unfold gat at h
  obtain ⟨x, h1, rfl⟩ := List.mem_map.mp h
  exact ⟨(gth_keys x ps).mp ((sortT_perm _).mem_iff.mp (List.mem_filter.mp h1).1), rfl⟩
theorem gat_len (ps : List (Tx × Int)) : (gat ps).length ≤ ps.length := by
  unfold gat
  rw [List.length_map]
  refine Nat.le_trans (List.length_filter_le _ _) ?_
  rw [(sortT_perm _).length_eq, List.length_map]
  exact gth_len ps
theorem gat_tot (x : Tx) (ps : List (Tx × Int)) : tot x (gat ps) = tot x ps := by
  by_cases h : tot x ps = 0
  · rw [h]
    apply tot_none
    rw [gat_keys]
    intro hm
    have := (List.mem_filter.mp hm).2
    simp [h] at this
  · apply tot_some (gat_rise ps).nd
    unfold gat
    refine List.mem_map.mpr ⟨x, List.mem_filter.mpr ⟨?_, by simpa using h⟩, rfl⟩
    rw [(sortT_perm _).mem_iff, gth_keys]
    exact Decidable.byContradiction fun q => h (tot_none q)
theorem Rise.mem {a : List (Tx × Int)} (r : Rise a) (x : Tx) : x ∈ a.map (·.1) ↔ tot x a ≠ 0 := by
  constructor
  · intro h
    obtain ⟨p, h1, rfl⟩ := List.mem_map.mp h
    rw [tot_some r.nd (z := p.2) h1]
    exact r.nz p h1
  · intro h
    exact Decidable.byContradiction fun q => h (tot_none q)
theorem Rise.self {a : List (Tx × Int)} (nd : (a.map (·.1)).Nodup) : a = (a.map (·.1)).map fun x => (x, tot x a) := by
  rw [List.map_map]
  have : a.map id = a.map ((fun x => (x, tot x a)) ∘ fun p => p.1) := by
    apply List.map_congr_left
    intro p hp
    show p = (p.1, tot p.1 a)
    rw [tot_some nd (z := p.2) hp]
  rw [List.map_id] at this
  exact this
/-- there is one such list for each tale of things -/
theorem Rise.one {a b : List (Tx × Int)} (ra : Rise a) (rb : Rise b) (h : ∀ x, tot x a = tot x b) : a = b := by
  have hk : a.map (·.1) = b.map (·.1) := by
    apply List.Perm.eq_of_pairwise (fun x y _ _ => leT_anti x y) ra.srt rb.srt
    apply (List.perm_ext_iff_of_nodup ra.nd rb.nd).mpr
    intro x
    rw [ra.mem, rb.mem, h]
  rw [Rise.self ra.nd, Rise.self rb.nd, hk]
  apply List.map_congr_left
  intro x _
  rw [h]
theorem gat_congr {a b : List (Tx × Int)} (h : ∀ x, tot x a = tot x b) : gat a = gat b :=
  (gat_rise a).one (gat_rise b) fun x => by rw [gat_tot, gat_tot, h]
theorem Rise.gat {a ps : List (Tx × Int)} (r : Rise a) (h : ∀ x, tot x a = tot x ps) : gat ps = a :=
  (gat_rise ps).one r fun x => by rw [gat_tot, h]
/-- what it comes to -/
def wsum (f : Tx → Int) : List (Tx × Int) → Int
  | [] => 0
  | p :: r => p.2 * f p.1 + wsum f r
theorem wsum_append (f : Tx → Int) : ∀ a b : List (Tx × Int), wsum f (a ++ b) = wsum f a + wsum f b
  | [], b => by simp [wsum]
  | p :: a, b => by simp only [List.cons_append, wsum, wsum_append f a b]; omega
theorem wsum_perm {f : Tx → Int} {a b : List (Tx × Int)} (h : a.Perm b) : wsum f a = wsum f b := by
  induction h with
  | nil => rfl
  | cons p _ ih => simp only [wsum, ih]
  | swap p q l => simp only [wsum]; omega
  | trans _ _ h1 h2 => exact h1.trans h2
theorem wsum_put {f : Tx → Int} {y : Tx} {z : Int} : ∀ {kv : List (Tx × Int)}, (kv.map (·.1)).Nodup → wsum f (putI y z kv) = wsum f kv + (z - tot y kv) * f y := by
  intro kv nd
  unfold putI
  split
  · rename_i hm
    have key : ∀ kv : List (Tx × Int), (kv.map (·.1)).Nodup → wsum f (kv.map fun p => if p.1 = y then (p.1, z) else p) = wsum f kv + if y ∈ kv.map (·.1) then (z - tot y kv) * f y else 0 := by
      intro kv
      induction kv with
      | nil => intro _; simp [wsum]
      | cons p kv ih =>
        intro nd
        rw [List.map_cons, List.nodup_cons] at nd
        have ih := ih nd.2
        simp only [List.map_cons, wsum, ih, tot]
        by_cases e : p.1 = y
        · subst e
          have ht := tot_none nd.1
          simp [nd.1, ht]
          rw [Int.sub_mul]
          omega
        · simp only [e, if_false, List.mem_cons, Ne.symm e, false_or, Int.zero_add]
          omega
    rw [key kv nd, if_pos hm]
  · rename_i hm
    rw [wsum_append, tot_none hm]
    simp [wsum]
theorem foldl_wsum (f : Tx → Int) : ∀ (ps kv : List (Tx × Int)), (kv.map (·.1)).Nodup → wsum f (ps.foldl addI kv) = wsum f kv + wsum f ps
  | [], _, h => by simp [wsum]
  | p :: ps, kv, h => by
    rw [List.foldl_cons, foldl_wsum f ps (addI kv p) (putI_nodup h)]
    unfold addI
    rw [wsum_put h]
    simp only [wsum]
    have : tot p.1 kv + p.2 - tot p.1 kv = p.2 := by omega
    rw [this]
    omega
theorem wsum_filter (f : Tx → Int) : ∀ (a : List (Tx × Int)), wsum f (a.filter fun p => decide (p.2 ≠ 0)) = wsum f a
  | [] => rfl
  | p :: a => by
    rw [List.filter_cons]
    split
    · simp only [wsum, wsum_filter f a]
    · rename_i h
      have : p.2 = 0 := by simpa using h
      simp only [wsum, wsum_filter f a, this]
      simp
theorem gat_wsum (f : Tx → Int) (ps : List (Tx × Int)) : wsum f (gat ps) = wsum f ps := by
  have h1 : wsum f (gth ps) = wsum f ps := by
    unfold gth
    rw [foldl_wsum f ps [] List.nodup_nil]
    simp [wsum]
  rw [← h1]
  have h2 : gth ps = ((gth ps).map (·.1)).map fun x => (x, tot x ps) := by
    conv => lhs; rw [Rise.self (gth_nodup ps)]
    apply List.map_congr_left
    intro x _
    rw [gth_tot]
  have h3 : gat ps = ((sortT ((gth ps).map (·.1))).map fun x => (x, tot x ps)).filter fun p => decide (p.2 ≠ 0) := by
    unfold gat
    rw [List.filter_map]
    rfl
  rw [h3, wsum_filter]
  conv => rhs; rw [h2]
  exact wsum_perm ((sortT_perm _).map _)
/-- a dict's number, none as nought -/
theorem valI_tot {x : Tx} {kv : List (Tx × Int)} (nd : (kv.map (·.1)).Nodup) : valI x kv = tot x kv := by
  by_cases h : x ∈ kv.map (·.1)
  · obtain ⟨z, h1, _, h2⟩ := getT_dp nd h
    rw [h2, tot_some nd h1]
  · unfold valI
    rw [getT_none (by rw [dp_keys]; exact h), tot_none h]
theorem getD_tot {x : Tx} {kv : List (Tx × Int)} (nd : (kv.map (·.1)).Nodup) : (dget (dks (dp kv)) (dvs (dp kv)) (.str x)).getD (.int 0) = .int (tot x kv) := by
  rw [dget_T]
  by_cases h : x ∈ kv.map (·.1)
  · obtain ⟨z, h1, h2, _⟩ := getT_dp nd h
    rw [h2, tot_some nd h1]
    rfl
  · rw [getT_none (by rw [dp_keys]; exact h), tot_none h]
    rfl
theorem dget_tot {x : Tx} {kv : List (Tx × Int)} (nd : (kv.map (·.1)).Nodup) (h : x ∈ kv.map (·.1)) : dget (dks (dp kv)) (dvs (dp kv)) (.str x) = some (.int (tot x kv)) := by
  rw [dget_T]
  obtain ⟨z, h1, h2, _⟩ := getT_dp nd h
  rw [h2, tot_some nd h1]
theorem strsOf_dks : ∀ kv : List (Tx × D), strsOf (dks kv) = some (kv.map (·.1))
  | [] => rfl
  | p :: r => by
    have h := strsOf_dks r
    unfold dks at h ⊢
    simp only [List.map_cons, strsOf, h]
end SA

set_option maxHeartbeats 0
namespace K37
open PySem PySem.Spec PyProof.Rows L2 DL
def T : Tab := hdr.tab
abbrev N0 : List Str := ["self", "terms", "number"]
abbrev ps0 : List Str := ["self", "terms", "number"]
/-- Sum.__init__ -/
def ir0 : List IS := [
  .setF (.var 0) 0 (.bi .tuple true [.var 1]),
  .setF (.var 0) 1 (.var 2)]
theorem sc0 : FnScope N0 ps0 (defScope st0) := ⟨rfl, rfl, rfl, by decide +kernel, rfl, by decide +kernel, by decide +kernel⟩
theorem chk0 : chkSs T N0 (defScope st0) ir0 (defBody st0) = true := by kernel_rfl
abbrev N1 : List Str := ["self", "other"]
abbrev ps1 : List Str := ["self", "other"]
/-- Sum.plus -/
def ir1 : List IS := [
  .ret (.call 4 [.bin .Add true (.fld (.var 0) 0) (.fld (.var 1) 0), .bin .Add true (.fld (.var 0) 1) (.fld (.var 1) 1)])]
theorem sc1 : FnScope N1 ps1 (defScope st1) := ⟨rfl, rfl, rfl, by decide +kernel, rfl, by decide +kernel, by decide +kernel⟩
theorem chk1 : chkSs T N1 (defScope st1) ir1 (defBody st1) = true := by kernel_rfl
abbrev N2 : List Str := ["self", "number", "thing", "times"]
abbrev ps2 : List Str := ["self", "number"]
/-- Sum.times -/
def ir2 : List IS := [
  .ret (.call 4 [.lc true [2, 3] (.tp [2, 3]) .e [.fld (.var 0) 0] [] (.tup [.var 2, .bin .Mult true (.var 1) (.var 3)]), .bin .Mult true (.var 1) (.fld (.var 0) 1)])]
theorem sc2 : FnScope N2 ps2 (defScope st2) := ⟨rfl, rfl, rfl, by decide +kernel, rfl, by decide +kernel, by decide +kernel⟩
theorem chk2 : chkSs T N2 (defScope st2) ir2 (defBody st2) = true := by kernel_rfl
abbrev N3 : List Str := ["self", "other"]
abbrev ps3 : List Str := ["self", "other"]
/-- Sum.less -/
def ir3 : List IS := [
  .ret (.meth (.var 0) 2 [.meth (.var 1) 3 [.neg (.con (.int (1)))]])]
theorem sc3 : FnScope N3 ps3 (defScope st3) := ⟨rfl, rfl, rfl, by decide +kernel, rfl, by decide +kernel, by decide +kernel⟩
theorem chk3 : chkSs T N3 (defScope st3) ir3 (defBody st3) = true := by kernel_rfl
abbrev N4 : List Str := ["pairs", "number", "found", "thing", "times"]
abbrev ps4 : List Str := ["pairs", "number"]
/-- sum_of -/
def ir4 : List IS := [
  .set 2 (.dct [] []),
  .for_ (.tp [3, 4]) .e [.var 0] [
    .setI (.var 2) (.var 3) (.bin .Add true (.bm .get2 true (.var 2) [.var 3, .con (.int (0))]) (.var 4))],
  .ret (.new 0 [.lc true [3] (.nm 3) .e [.bi .sorted true [.var 2]] [.val (.cmp .NotEq (.idx (.var 2) (.var 3)) (.con (.int (0))))] (.tup [.var 3, .idx (.var 2) (.var 3)]), .var 1])]
theorem sc4 : FnScope N4 ps4 (defScope st4) := ⟨rfl, rfl, rfl, by decide +kernel, rfl, by decide +kernel, by decide +kernel⟩
theorem chk4 : chkSs T N4 (defScope st4) ir4 (defBody st4) = true := by kernel_rfl
abbrev N5 : List Str := ["thing", "least"]
abbrev ps5 : List Str := ["thing", "least"]
/-- is_whole -/
def ir5 : List IS := [
  .ret (.and_ (.isi (.var 0) true [.int]) (.and_ (.not (.isi (.var 0) true [.bool])) (.cmp .GtE (.var 0) (.var 1))))]
theorem sc5 : FnScope N5 ps5 (defScope st5) := ⟨rfl, rfl, rfl, by decide +kernel, rfl, by decide +kernel, by decide +kernel⟩
theorem chk5 : chkSs T N5 (defScope st5) ir5 (defBody st5) = true := by kernel_rfl
abbrev N6 : List Str := ["thing", "many"]
abbrev ps6 : List Str := ["thing", "many"]
/-- is_row -/
def ir6 : List IS := [
  .ret (.and_ (.isi (.var 0) false [.tuple, .list]) (.cmp .Eq (.bi .len true [.var 0]) (.var 1)))]
theorem sc6 : FnScope N6 ps6 (defScope st6) := ⟨rfl, rfl, rfl, by decide +kernel, rfl, by decide +kernel, by decide +kernel⟩
theorem chk6 : chkSs T N6 (defScope st6) ir6 (defBody st6) = true := by kernel_rfl
abbrev N7 : List Str := ["thing", "lines"]
abbrev ps7 : List Str := ["thing", "lines"]
/-- is_line -/
def ir7 : List IS := [
  .ret (.and_ (.call 5 [.var 0, .con (.int (0))]) (.cmp .Lt (.var 0) (.bi .len true [.var 1])))]
theorem sc7 : FnScope N7 ps7 (defScope st7) := ⟨rfl, rfl, rfl, by decide +kernel, rfl, by decide +kernel, by decide +kernel⟩
theorem chk7 : chkSs T N7 (defScope st7) ir7 (defBody st7) = true := by kernel_rfl
abbrev N8 : List Str := ["line", "lines", "pair"]
abbrev ps8 : List Str := ["line", "lines"]
/-- is_adding -/
def ir8 : List IS := [
  .ite (.or_ (.not (.val (.call 6 [.var 0, .con (.int (2))]))) (.or_ (.val (.cmp .NotEq (.idx (.var 0) (.con (.int (0)))) (.con (.str [97, 100, 100])))) (.or_ (.not (.val (.isi (.idx (.var 0) (.con (.int (1)))) false [.tuple, .list]))) (.val (.cmp .Eq (.bi .len true [.idx (.var 0) (.con (.int (1)))]) (.con (.int (0)))))))) [
    .ret (.con (.bl false))] [],
  .for_ (.nm 2) .e [.idx (.var 0) (.con (.int (1)))] [
    .ite (.or_ (.not (.val (.call 6 [.var 2, .con (.int (2))]))) (.or_ (.not (.val (.call 5 [.idx (.var 2) (.con (.int (0))), .con (.int (1))]))) (.not (.val (.call 7 [.idx (.var 2) (.con (.int (1))), .var 1]))))) [
      .ret (.con (.bl false))] []],
  .ret (.con (.bl true))]
theorem sc8 : FnScope N8 ps8 (defScope st8) := ⟨rfl, rfl, rfl, by decide +kernel, rfl, by decide +kernel, by decide +kernel⟩
theorem chk8 : chkSs T N8 (defScope st8) ir8 (defBody st8) = true := by kernel_rfl
abbrev N9 : List Str := ["line", "lines", "thing", "times"]
abbrev ps9 : List Str := ["line", "lines"]
/-- is_cutting -/
def ir9 : List IS := [
  .ite (.or_ (.not (.val (.call 6 [.var 0, .con (.int (3))]))) (.or_ (.val (.cmp .NotEq (.idx (.var 0) (.con (.int (0)))) (.con (.str [99, 117, 116])))) (.or_ (.not (.val (.call 7 [.idx (.var 0) (.con (.int (1))), .var 1]))) (.not (.val (.call 5 [.idx (.var 0) (.con (.int (2))), .con (.int (1))])))))) [
    .ret (.con (.bl false))] [],
  .for_ (.tp [2, 3]) .e [.fld (.idx (.var 1) (.idx (.var 0) (.con (.int (1))))) 0] [
    .ite (.val (.cmp .NotEq (.modp (.var 3) (.idx (.var 0) (.con (.int (2))))) (.con (.int (0))))) [
      .ret (.con (.bl false))] []],
  .ret (.con (.bl true))]
theorem sc9 : FnScope N9 ps9 (defScope st9) := ⟨rfl, rfl, rfl, by decide +kernel, rfl, by decide +kernel, by decide +kernel⟩
theorem chk9 : chkSs T N9 (defScope st9) ir9 (defBody st9) = true := by kernel_rfl
abbrev N10 : List Str := ["lines", "line", "found", "cut", "weight", "number", "thing", "times"]
abbrev ps10 : List Str := ["lines", "line"]
/-- line_of -/
def ir10 : List IS := [
  .ite (.val (.cmp .Eq (.idx (.var 1) (.con (.int (0)))) (.con (.str [99, 117, 116])))) [
    .set 3 (.idx (.var 0) (.idx (.var 1) (.con (.int (1))))),
    .ret (.call 4 [.lc true [6, 7] (.tp [6, 7]) .e [.fld (.var 3) 0] [] (.tup [.var 6, .divp (.var 7) (.idx (.var 1) (.con (.int (2))))]), .divp (.fld (.var 3) 1) (.idx (.var 1) (.con (.int (2))))])] [],
  .set 2 (.call 4 [.tup [], .con (.int (0))]),
  .for_ (.tp [4, 5]) .e [.idx (.var 1) (.con (.int (1)))] [
    .set 2 (.meth (.var 2) 2 [.meth (.idx (.var 0) (.var 5)) 3 [.var 4]])],
  .ret (.var 2)]
theorem sc10 : FnScope N10 ps10 (defScope st10) := ⟨rfl, rfl, rfl, by decide +kernel, rfl, by decide +kernel, by decide +kernel⟩
theorem chk10 : chkSs T N10 (defScope st10) ir10 (defBody st10) = true := by kernel_rfl
abbrev N11 : List Str := ["lines"]
abbrev ps11 : List Str := ["lines"]
/-- ends_by -/
def ir11 : List IS := [
  .ret (.and_ (.cmp .NotEq (.var 0) (.lst true [])) (.and_ (.cmp .Eq (.fld (.idx (.var 0) (.neg (.con (.int (1))))) 0) (.tup [])) (.cmp .Lt (.fld (.idx (.var 0) (.neg (.con (.int (1))))) 1) (.con (.int (0))))))]
theorem sc11 : FnScope N11 ps11 (defScope st11) := ⟨rfl, rfl, rfl, by decide +kernel, rfl, by decide +kernel, by decide +kernel⟩
theorem chk11 : chkSs T N11 (defScope st11) ir11 (defBody st11) = true := by kernel_rfl
abbrev N12 : List Str := ["line"]
abbrev ps12 : List Str := ["line"]
/-- is_parting -/
def ir12 : List IS := [
  .ret (.and_ (.call 6 [.var 0, .con (.int (4))]) (.and_ (.cmp .Eq (.idx (.var 0) (.con (.int (0)))) (.con (.str [115, 112, 108, 105, 116]))) (.isi (.idx (.var 0) (.con (.int (1)))) true [.own 0])))]
theorem sc12 : FnScope N12 ps12 (defScope st12) := ⟨rfl, rfl, rfl, by decide +kernel, rfl, by decide +kernel, by decide +kernel⟩
theorem chk12 : chkSs T N12 (defScope st12) ir12 (defBody st12) = true := by kernel_rfl
abbrev N13 : List Str := ["lines", "paper", "splits", "place", "line", "other"]
abbrev ps13 : List Str := ["lines", "paper", "splits"]
/-- sound -/
def ir13 : List IS := [
  .ite (.not (.val (.isi (.var 1) false [.tuple, .list]))) [
    .ret (.con (.bl false))] [],
  .set 0 (.bi .list false [.var 0]),
  .for_ (.tp [3, 4]) .enum [.var 1] [
    .ite (.or_ (.val (.call 8 [.var 4, .var 0])) (.val (.call 9 [.var 4, .var 0]))) [
      .ex (.bm .append true (.var 0) [.call 10 [.var 0, .var 4]])] [
      .ite (.and_ (.val (.call 12 [.var 4])) (.and_ (.val (.cmp .Eq (.var 3) (.bin .Sub true (.bi .len true [.var 1]) (.con (.int (1)))))) (.val (.cmp .Lt (.var 2) (.glo 0))))) [
        .set 5 (.meth (.meth (.idx (.var 4) (.con (.int (1)))) 3 [.neg (.con (.int (1)))]) 2 [.call 4 [.tup [], .neg (.con (.int (1)))]]),
        .ret (.and_ (.call 13 [.bin .Add true (.var 0) (.lst true [.idx (.var 4) (.con (.int (1)))]), .idx (.var 4) (.con (.int (2))), .bin .Add true (.var 2) (.con (.int (1)))]) (.call 13 [.bin .Add true (.var 0) (.lst true [.var 5]), .idx (.var 4) (.con (.int (3))), .bin .Add true (.var 2) (.con (.int (1)))]))] [
        .ret (.con (.bl false))]]],
  .ret (.call 11 [.var 0])]
theorem sc13 : FnScope N13 ps13 (defScope st13) := ⟨rfl, rfl, rfl, by decide +kernel, rfl, by decide +kernel, by decide +kernel⟩
theorem chk13 : chkSs T N13 (defScope st13) ir13 (defBody st13) = true := by kernel_rfl
abbrev N14 : List Str := ["case", "paper"]
abbrev ps14 : List Str := ["case", "paper"]
/-- refutes -/
def ir14 : List IS := [
  .ret (.call 13 [.var 0, .var 1, .con (.int (0))])]
theorem sc14 : FnScope N14 ps14 (defScope st14) := ⟨rfl, rfl, rfl, by decide +kernel, rfl, by decide +kernel, by decide +kernel⟩
theorem chk14 : chkSs T N14 (defScope st14) ir14 (defBody st14) = true := by kernel_rfl
abbrev N15 : List Str := ["script", "k", "cell"]
abbrev ps15 : List Str := ["script", "k"]
/-- _law_cell_at -/
def ir15 : List IS := [
  .set 2 (.con (.int (0))),
  .ite (.val (.cmp .Lt (.var 1) (.bi .len true [.var 0]))) [
    .set 2 (.idx (.var 0) (.var 1))] [],
  .ret (.call 16 [.var 2, .bin .Add true (.con (.int (300))) (.var 1)])]
theorem sc15 : FnScope N15 ps15 (defScope st15) := ⟨rfl, rfl, rfl, by decide +kernel, rfl, by decide +kernel, by decide +kernel⟩
theorem chk15 : chkSs T N15 (defScope st15) ir15 (defBody st15) = true := by kernel_rfl
abbrev N16 : List Str := ["cell", "k", "mix"]
abbrev ps16 : List Str := ["cell", "k"]
/-- _law_mixed -/
def ir16 : List IS := [
  .set 2 (.modp (.bin .Mult true (.bin .Add true (.bin .Add true (.var 0) (.bin .Mult true (.con (.int (7919))) (.var 1))) (.con (.int (11)))) (.con (.int (48271)))) (.con (.int (2147483647)))),
  .ret (.modp (.bin .Add true (.bin .Mult true (.var 2) (.var 2)) (.bin .Mult true (.con (.int (40692))) (.var 2))) (.con (.int (2147483399))))]
theorem sc16 : FnScope N16 ps16 (defScope st16) := ⟨rfl, rfl, rfl, by decide +kernel, rfl, by decide +kernel, by decide +kernel⟩
theorem chk16 : chkSs T N16 (defScope st16) ir16 (defBody st16) = true := by kernel_rfl
abbrev N17 : List Str := ["draw", "size"]
abbrev ps17 : List Str := ["draw", "size"]
/-- _law_next -/
def ir17 : List IS := [
  .augI (.var 0) (.con (.int (1))) .Add (.con (.int (1))),
  .ret (.modp (.divp (.call 16 [.idx (.var 0) (.con (.int (0))), .idx (.var 0) (.con (.int (1)))]) (.con (.int (7)))) (.var 1))]
theorem sc17 : FnScope N17 ps17 (defScope st17) := ⟨rfl, rfl, rfl, by decide +kernel, rfl, by decide +kernel, by decide +kernel⟩
theorem chk17 : chkSs T N17 (defScope st17) ir17 (defBody st17) = true := by kernel_rfl
abbrev N18 : List Str := ["draw", "things", "many", "found", "far", "k", "pairs", "divisor", "number", "thing"]
abbrev ps18 : List Str := ["draw", "things", "many"]
/-- _law_sums -/
def ir18 : List IS := [
  .set 3 (.lst false []),
  .set 4 (.idx (.lst true [.con (.int (1)), .bin .Pow true (.con (.int (10))) (.con (.int (25)))]) (.call 17 [.var 0, .con (.int (2))])),
  .for_ (.nm 5) .rng1 [.var 2] [
    .set 6 (.lc true [9] (.nm 9) .e [.var 1] [] (.tup [.var 9, .bin .Mult true (.idx (.lst true [.con (.int (1)), .neg (.con (.int (1))), .con (.int (0)), .con (.int (2)), .neg (.con (.int (3)))]) (.call 17 [.var 0, .con (.int (5))])) (.var 4)])),
    .set 7 (.idx (.lst true [.con (.int (1)), .con (.int (1)), .con (.int (2)), .con (.int (3)), .con (.int (5))]) (.call 17 [.var 0, .con (.int (5))])),
    .set 8 (.bin .Add true (.bin .Mult true (.bin .Sub true (.call 17 [.var 0, .con (.int (9))]) (.con (.int (4)))) (.var 4)) (.bin .Mult true (.divp (.bin .Sub true (.var 4) (.con (.int (1)))) (.con (.int (9)))) (.call 17 [.var 0, .con (.int (10))]))),
    .ex (.bm .append true (.var 3) [.tup [.call 4 [.var 6, .var 8], .var 7, .call 17 [.var 0, .var 7]]])],
  .ret (.var 3)]
theorem sc18 : FnScope N18 ps18 (defScope st18) := ⟨rfl, rfl, rfl, by decide +kernel, rfl, by decide +kernel, by decide +kernel⟩
theorem chk18 : chkSs T N18 (defScope st18) ir18 (defBody st18) = true := by kernel_rfl
abbrev N19 : List Str := ["draw", "sums", "more", "weights", "found", "k", "one"]
abbrev ps19 : List Str := ["draw", "sums", "more"]
/-- _law_last -/
def ir19 : List IS := [
  .set 3 (.lc true [6] (.nm 6) .e [.var 1] [] (.bin .Add true (.con (.int (1))) (.call 17 [.var 0, .con (.int (3))]))),
  .set 4 (.meth (.call 4 [.tup [], .bin .Sub true (.neg (.con (.int (1)))) (.call 17 [.var 0, .con (.int (3))])]) 4 [.var 2]),
  .for_ (.nm 5) .rng1 [.bi .len true [.var 1]] [
    .set 4 (.meth (.var 4) 4 [.meth (.idx (.idx (.var 1) (.var 5)) (.con (.int (0)))) 3 [.idx (.var 3) (.var 5)]])],
  .ret (.tup [.var 4, .var 3])]
theorem sc19 : FnScope N19 ps19 (defScope st19) := ⟨rfl, rfl, rfl, by decide +kernel, rfl, by decide +kernel, by decide +kernel⟩
theorem chk19 : chkSs T N19 (defScope st19) ir19 (defBody st19) = true := by kernel_rfl
abbrev N20 : List Str := ["draw", "things", "sums", "case", "parting", "parted", "ends", "mores", "k", "paper", "places", "inner", "pairs", "one", "by", "rest", "end", "j"]
abbrev ps20 : List Str := ["draw", "things"]
/-- _law_built -/
def ir20 : List IS := [
  .set 2 (.call 18 [.var 0, .var 1, .bin .Add true (.con (.int (1))) (.call 17 [.var 0, .con (.int (3))])]),
  .set 3 (.lc true [13, 14, 15] (.tp [13, 14, 15]) .e [.var 2] [] (.meth (.meth (.var 13) 3 [.var 14]) 2 [.call 4 [.tup [], .var 15]])),
  .set 4 (.idx (.idx (.call 18 [.var 0, .var 1, .con (.int (1))]) (.con (.int (0)))) (.con (.int (0)))),
  .set 5 (.cmp .Eq (.call 17 [.var 0, .con (.int (2))]) (.con (.int (1)))),
  .set 6 (.lst false []),
  .set 7 (.lst true [.var 4, .meth (.meth (.var 4) 3 [.neg (.con (.int (1)))]) 2 [.call 4 [.tup [], .neg (.con (.int (1)))]]]),
  .for_ (.nm 8) .rng1 [.bin .Add true (.con (.int (1))) (.bi .int true [.var 5])] [
    .ex (.bm .append true (.var 6) [.call 19 [.var 0, .var 2, .idx (.lst true [.call 4 [.tup [], .con (.int (0))], .idx (.var 7) (.var 8)]) (.bi .int true [.var 5])]])],
  .set 3 (.bin .Add true (.var 3) (.lc true [16] (.nm 16) .e [.var 6] [] (.idx (.var 16) (.con (.int (0)))))),
  .set 9 (.lst false []),
  .set 10 (.lst false []),
  .for_ (.nm 8) .rng1 [.bi .len true [.var 2]] [
    .ex (.bm .append true (.var 10) [.var 8]),
    .ite (.val (.cmp .Gt (.idx (.idx (.var 2) (.var 8)) (.con (.int (1)))) (.con (.int (1))))) [
      .setI (.var 10) (.var 8) (.bin .Add true (.bi .len true [.var 3]) (.bi .len true [.var 9])),
      .ex (.bm .append true (.var 9) [.tup [.con (.str [99, 117, 116]), .var 8, .idx (.idx (.var 2) (.var 8)) (.con (.int (1)))]])] []],
  .set 11 (.lst false []),
  .for_ (.nm 8) .rng1 [.bi .len true [.var 6]] [
    .set 12 (.bin .Add false (.lc true [17] (.nm 17) .rng1 [.bi .len true [.var 2]] [] (.tup [.idx (.idx (.idx (.var 6) (.var 8)) (.con (.int (1)))) (.var 17), .idx (.var 10) (.var 17)])) (.lst true [.tup [.con (.int (1)), .bin .Add true (.bi .len true [.var 2]) (.var 8)]])),
    .ite (.val (.var 5)) [
      .ex (.bm .append true (.var 12) [.tup [.con (.int (1)), .bin .Add true (.bi .len true [.var 3]) (.bi .len true [.var 9])]])] [],
    .ex (.bm .append true (.var 11) [.tup [.tup [.con (.str [97, 100, 100]), .bi .tuple true [.var 12]]]])],
  .ite (.val (.var 5)) [
    .ret (.tup [.bi .tuple true [.var 3], .bin .Add true (.bi .tuple true [.var 9]) (.tup [.tup [.con (.str [115, 112, 108, 105, 116]), .var 4, .idx (.var 11) (.con (.int (0))), .idx (.var 11) (.con (.int (1)))]])])] [],
  .ret (.tup [.bi .tuple true [.var 3], .bin .Add true (.bi .tuple true [.var 9]) (.idx (.var 11) (.con (.int (0))))])]
theorem sc20 : FnScope N20 ps20 (defScope st20) := ⟨rfl, rfl, rfl, by decide +kernel, rfl, by decide +kernel, by decide +kernel⟩
theorem chk20 : chkSs T N20 (defScope st20) ir20 (defBody st20) = true := by kernel_rfl
abbrev N21 : List Str := ["total", "numbers", "thing", "times"]
abbrev ps21 : List Str := ["total", "numbers"]
/-- _law_value -/
def ir21 : List IS := [
  .ret (.bin .Add true (.fld (.var 0) 1) (.bi .sum true [.lc true [2, 3] (.tp [2, 3]) .e [.fld (.var 0) 0] [] (.bin .Mult true (.var 3) (.idx (.var 1) (.var 2)))]))]
theorem sc21 : FnScope N21 ps21 (defScope st21) := ⟨rfl, rfl, rfl, by decide +kernel, rfl, by decide +kernel, by decide +kernel⟩
theorem chk21 : chkSs T N21 (defScope st21) ir21 (defBody st21) = true := by kernel_rfl
abbrev N22 : List Str := ["things", "least", "most", "found", "thing", "more", "numbers", "number", "other"]
abbrev ps22 : List Str := ["things", "least", "most"]
/-- _law_boxes -/
def ir22 : List IS := [
  .set 3 (.lst true [.dct [] []]),
  .gh,
  .for_ (.nm 4) .e [.var 0] [
    .set 5 (.lst false []),
    .for_ (.nm 6) .e [.var 3] [
      .for_ (.nm 7) .rng2 [.var 1, .bin .Add true (.var 2) (.con (.int (1)))] [
        .set 8 (.bi .dict false [.var 6]),
        .setI (.var 8) (.var 4) (.var 7),
        .gh,
        .ex (.bm .append true (.var 5) [.var 8])]],
    .set 3 (.var 5)],
  .ret (.var 3)]
theorem sc22 : FnScope N22 ps22 (defScope st22) := ⟨rfl, rfl, rfl, by decide +kernel, rfl, by decide +kernel, by decide +kernel⟩
theorem chk22 : chkSs T N22 (defScope st22) ir22 (defBody st22) = true := by kernel_rfl
abbrev N23 : List Str := ["case", "things", "most", "numbers", "total"]
abbrev ps23 : List Str := ["case", "things", "most"]
/-- _law_met -/
def ir23 : List IS := [
  .for_ (.nm 3) .e [.call 22 [.var 1, .neg (.var 2), .var 2]] [
    .ite (.val (.cmp .Eq (.lc true [4] (.nm 4) .e [.var 0] [.val (.cmp .Lt (.call 21 [.var 4, .var 3]) (.con (.int (0))))] (.con (.int (1)))) (.lst true []))) [
      .ret (.con (.bl true))] []],
  .ret (.con (.bl false))]
theorem sc23 : FnScope N23 ps23 (defScope st23) := ⟨rfl, rfl, rfl, by decide +kernel, rfl, by decide +kernel, by decide +kernel⟩
theorem chk23 : chkSs T N23 (defScope st23) ir23 (defBody st23) = true := by kernel_rfl
abbrev N24 : List Str := ["total"]
abbrev ps24 : List Str := ["total"]
/-- _law_told -/
def ir24 : List IS := [
  .ret (.tup [.fld (.var 0) 0, .fld (.var 0) 1])]
theorem sc24 : FnScope N24 ps24 (defScope st24) := ⟨rfl, rfl, rfl, by decide +kernel, rfl, by decide +kernel, by decide +kernel⟩
theorem chk24 : chkSs T N24 (defScope st24) ir24 (defBody st24) = true := by kernel_rfl
abbrev N25 : List Str := ["lines", "line", "pairs", "number", "weight", "place", "thing", "times"]
abbrev ps25 : List Str := ["lines", "line"]
/-- _law_added -/
def ir25 : List IS := [
  .set 2 (.lst true []),
  .set 3 (.con (.int (0))),
  .ite (.val (.cmp .Eq (.idx (.var 1) (.con (.int (0)))) (.con (.str [99, 117, 116])))) [
    .ret (.tup [.lc true [6, 7] (.tp [6, 7]) .e [.fld (.idx (.var 0) (.idx (.var 1) (.con (.int (1))))) 0] [] (.tup [.var 6, .divp (.var 7) (.idx (.var 1) (.con (.int (2))))]), .divp (.fld (.idx (.var 0) (.idx (.var 1) (.con (.int (1))))) 1) (.idx (.var 1) (.con (.int (2))))])] [],
  .for_ (.tp [4, 5]) .e [.idx (.var 1) (.con (.int (1)))] [
    .set 2 (.bin .Add true (.var 2) (.lc true [6, 7] (.tp [6, 7]) .e [.fld (.idx (.var 0) (.var 5)) 0] [] (.tup [.var 6, .bin .Mult true (.var 4) (.var 7)]))),
    .aug 3 .Add (.bin .Mult true (.var 4) (.fld (.idx (.var 0) (.var 5)) 1))],
  .ret (.tup [.var 2, .var 3])]
theorem sc25 : FnScope N25 ps25 (defScope st25) := ⟨rfl, rfl, rfl, by decide +kernel, rfl, by decide +kernel, by decide +kernel⟩
theorem chk25 : chkSs T N25 (defScope st25) ir25 (defBody st25) = true := by kernel_rfl
abbrev N26 : List Str := ["case", "paper", "lines", "line", "found", "pairs", "number"]
abbrev ps26 : List Str := ["case", "paper"]
/-- _law_lines_right -/
def ir26 : List IS := [
  .set 2 (.bi .list false [.var 0]),
  .for_ (.nm 3) .e [.var 1] [
    .ite (.val (.cmp .Eq (.idx (.var 3) (.con (.int (0)))) (.con (.str [115, 112, 108, 105, 116])))) [
      .ret (.con (.bl true))] [],
    .set 4 (.call 10 [.var 2, .var 3]),
    .ite (.val (.cmp .NotEq (.call 24 [.call 10 [.bi .list true [.var 2], .bi .list true [.var 3]]]) (.call 24 [.var 4]))) [
      .ret (.con (.bl false))] [],
    .setT [5, 6] (.call 25 [.var 2, .var 3]),
    .ite (.or_ (.not (.val (.isi (.var 4) true [.own 0]))) (.val (.cmp .NotEq (.call 24 [.var 4]) (.call 24 [.call 4 [.var 5, .var 6]])))) [
      .ret (.con (.bl false))] [],
    .ex (.bm .append true (.var 2) [.var 4])],
  .ret (.and_ (.cmp .Eq (.fld (.idx (.var 2) (.neg (.con (.int (1))))) 0) (.tup [])) (.cmp .Lt (.fld (.idx (.var 2) (.neg (.con (.int (1))))) 1) (.con (.int (0)))))]
theorem sc26 : FnScope N26 ps26 (defScope st26) := ⟨rfl, rfl, rfl, by decide +kernel, rfl, by decide +kernel, by decide +kernel⟩
theorem chk26 : chkSs T N26 (defScope st26) ir26 (defBody st26) = true := by kernel_rfl
abbrev N27 : List Str := ["paper", "line"]
abbrev ps27 : List Str := ["paper"]
/-- _law_listed -/
def ir27 : List IS := [
  .ret (.lc true [1] (.nm 1) .e [.var 0] [] (.bi .list true [.var 1]))]
theorem sc27 : FnScope N27 ps27 (defScope st27) := ⟨rfl, rfl, rfl, by decide +kernel, rfl, by decide +kernel, by decide +kernel⟩
theorem chk27 : chkSs T N27 (defScope st27) ir27 (defBody st27) = true := by kernel_rfl
abbrev N28 : List Str := ["script", "draw", "things", "built", "k", "handed", "case", "paper"]
abbrev ps28 : List Str := ["script"]
/-- law -/
def ir28 : List IS := [
  .set 1 (.lst false [.call 15 [.var 0, .con (.int (0))], .con (.int (0))]),
  .set 2 (.slc true (.lst true [.con (.str [63, 48]), .con (.str [63, 49]), .con (.str [63, 50])]) [] [.bin .Add true (.con (.int (1))) (.call 17 [.var 1, .con (.int (3))])]),
  .set 3 (.lc true [4] (.nm 4) .rng1 [.con (.int (2))] [] (.call 20 [.lst false [.call 15 [.var 0, .bin .Add true (.con (.int (1))) (.var 4)], .con (.int (0))], .var 2])),
  .for_ (.nm 4) .e [.lst true [.con (.int (0)), .con (.int (1)), .con (.int (0))]] [
    .setT [6, 7] (.idx (.var 3) (.var 4)),
    .gh,
    .set 5 (.bi .list true [.var 6]),
    .ite (.or_ (.val (.cmp .IsNot (.call 14 [.var 6, .var 7]) (.con (.bl true)))) (.val (.cmp .IsNot (.call 14 [.var 5, .call 27 [.var 7]]) (.con (.bl true))))) [
      .ret (.con (.bl false))] [],
    .ite (.or_ (.val (.cmp .IsNot (.call 14 [.var 5, .var 7]) (.con (.bl true)))) (.val (.cmp .NotEq (.var 5) (.bi .list true [.var 6])))) [
      .ret (.con (.bl false))] [],
    .ite (.or_ (.not (.val (.call 26 [.var 6, .var 7]))) (.val (.call 23 [.var 6, .var 2, .con (.int (3))]))) [
      .ret (.con (.bl false))] []],
  .ret (.con (.bl true))]
theorem sc28 : FnScope N28 ps28 (defScope st28) := ⟨rfl, rfl, rfl, by decide +kernel, rfl, by decide +kernel, by decide +kernel⟩
theorem chk28 : chkSs T N28 (defScope st28) ir28 (defBody st28) = true := by kernel_rfl
structure Ev (G : Gd) : Prop where
  go : GOk G T
  fn : ∀ i d, fn[i]? = some d → FunD G.K d.name d.qual d.params d.body d.scope [] [] (G.fa i) (G.fd i)
section
variable {G : Gd} {k : Nat} {S : Store} {Q E : QD} {args : List D}
theorem call0 (ev : Ev G) (hl : args.length = 3) (w : wpSs T (orc G T k) ir0 (endP S Q E) (slots0 3 args) S) : CallP G (k + 1) 0 args S Q E :=
  fnP ev.go (ev.fn 0 df0 rfl) sc0 (by decide) (FunD.bindsN (ev.fn 0 df0 rfl) fun _ _ _ _ _ _ us hl => match us, hl with | [_, _, _], _ => rfl) chk0 hl w
theorem call1 (ev : Ev G) (hl : args.length = 2) (w : wpSs T (orc G T k) ir1 (endP S Q E) (slots0 2 args) S) : CallP G (k + 1) 1 args S Q E :=
  fnP ev.go (ev.fn 1 df1 rfl) sc1 (by decide) (FunD.bindsN (ev.fn 1 df1 rfl) fun _ _ _ _ _ _ us hl => match us, hl with | [_, _], _ => rfl) chk1 hl w
theorem call2 (ev : Ev G) (hl : args.length = 2) (w : wpSs T (orc G T k) ir2 (endP S Q E) (slots0 4 args) S) : CallP G (k + 1) 2 args S Q E :=
  fnP ev.go (ev.fn 2 df2 rfl) sc2 (by decide) (FunD.bindsN (ev.fn 2 df2 rfl) fun _ _ _ _ _ _ us hl => match us, hl with | [_, _], _ => rfl) chk2 hl w
theorem call3 (ev : Ev G) (hl : args.length = 2) (w : wpSs T (orc G T k) ir3 (endP S Q E) (slots0 2 args) S) : CallP G (k + 1) 3 args S Q E :=
  fnP ev.go (ev.fn 3 df3 rfl) sc3 (by decide) (FunD.bindsN (ev.fn 3 df3 rfl) fun _ _ _ _ _ _ us hl => match us, hl with | [_, _], _ => rfl) chk3 hl w
theorem call4 (ev : Ev G) (hl : args.length = 2) (w : wpSs T (orc G T k) ir4 (endP S Q E) (slots0 5 args) S) : CallP G (k + 1) 4 args S Q E :=
  fnP ev.go (ev.fn 4 df4 rfl) sc4 (by decide) (FunD.bindsN (ev.fn 4 df4 rfl) fun _ _ _ _ _ _ us hl => match us, hl with | [_, _], _ => rfl) chk4 hl w
theorem call5 (ev : Ev G) (hl : args.length = 2) (w : wpSs T (orc G T k) ir5 (endP S Q E) (slots0 2 args) S) : CallP G (k + 1) 5 args S Q E :=
  fnP ev.go (ev.fn 5 df5 rfl) sc5 (by decide) (FunD.bindsN (ev.fn 5 df5 rfl) fun _ _ _ _ _ _ us hl => match us, hl with | [_, _], _ => rfl) chk5 hl w
theorem call6 (ev : Ev G) (hl : args.length = 2) (w : wpSs T (orc G T k) ir6 (endP S Q E) (slots0 2 args) S) : CallP G (k + 1) 6 args S Q E :=
  fnP ev.go (ev.fn 6 df6 rfl) sc6 (by decide) (FunD.bindsN (ev.fn 6 df6 rfl) fun _ _ _ _ _ _ us hl => match us, hl with | [_, _], _ => rfl) chk6 hl w
theorem call7 (ev : Ev G) (hl : args.length = 2) (w : wpSs T (orc G T k) ir7 (endP S Q E) (slots0 2 args) S) : CallP G (k + 1) 7 args S Q E :=
  fnP ev.go (ev.fn 7 df7 rfl) sc7 (by decide) (FunD.bindsN (ev.fn 7 df7 rfl) fun _ _ _ _ _ _ us hl => match us, hl with | [_, _], _ => rfl) chk7 hl w
theorem call8 (ev : Ev G) (hl : args.length = 2) (w : wpSs T (orc G T k) ir8 (endP S Q E) (slots0 3 args) S) : CallP G (k + 1) 8 args S Q E :=
  fnP ev.go (ev.fn 8 df8 rfl) sc8 (by decide) (FunD.bindsN (ev.fn 8 df8 rfl) fun _ _ _ _ _ _ us hl => match us, hl with | [_, _], _ => rfl) chk8 hl w
theorem call9 (ev : Ev G) (hl : args.length = 2) (w : wpSs T (orc G T k) ir9 (endP S Q E) (slots0 4 args) S) : CallP G (k + 1) 9 args S Q E :=
  fnP ev.go (ev.fn 9 df9 rfl) sc9 (by decide) (FunD.bindsN (ev.fn 9 df9 rfl) fun _ _ _ _ _ _ us hl => match us, hl with | [_, _], _ => rfl) chk9 hl w
theorem call10 (ev : Ev G) (hl : args.length = 2) (w : wpSs T (orc G T k) ir10 (endP S Q E) (slots0 8 args) S) : CallP G (k + 1) 10 args S Q E :=
  fnP ev.go (ev.fn 10 df10 rfl) sc10 (by decide) (FunD.bindsN (ev.fn 10 df10 rfl) fun _ _ _ _ _ _ us hl => match us, hl with | [_, _], _ => rfl) chk10 hl w
theorem call11 (ev : Ev G) (hl : args.length = 1) (w : wpSs T (orc G T k) ir11 (endP S Q E) (slots0 1 args) S) : CallP G (k + 1) 11 args S Q E :=
  fnP ev.go (ev.fn 11 df11 rfl) sc11 (by decide) (FunD.bindsN (ev.fn 11 df11 rfl) fun _ _ _ _ _ _ us hl => match us, hl with | [_], _ => rfl) chk11 hl w
theorem call12 (ev : Ev G) (hl : args.length = 1) (w : wpSs T (orc G T k) ir12 (endP S Q E) (slots0 1 args) S) : CallP G (k + 1) 12 args S Q E :=
  fnP ev.go (ev.fn 12 df12 rfl) sc12 (by decide) (FunD.bindsN (ev.fn 12 df12 rfl) fun _ _ _ _ _ _ us hl => match us, hl with | [_], _ => rfl) chk12 hl w
theorem call13 (ev : Ev G) (hl : args.length = 3) (w : wpSs T (orc G T k) ir13 (endP S Q E) (slots0 6 args) S) : CallP G (k + 1) 13 args S Q E :=
  fnP ev.go (ev.fn 13 df13 rfl) sc13 (by decide) (FunD.bindsN (ev.fn 13 df13 rfl) fun _ _ _ _ _ _ us hl => match us, hl with | [_, _, _], _ => rfl) chk13 hl w
theorem call14 (ev : Ev G) (hl : args.length = 2) (w : wpSs T (orc G T k) ir14 (endP S Q E) (slots0 2 args) S) : CallP G (k + 1) 14 args S Q E :=
  fnP ev.go (ev.fn 14 df14 rfl) sc14 (by decide) (FunD.bindsN (ev.fn 14 df14 rfl) fun _ _ _ _ _ _ us hl => match us, hl with | [_, _], _ => rfl) chk14 hl w
theorem call15 (ev : Ev G) (hl : args.length = 2) (w : wpSs T (orc G T k) ir15 (endP S Q E) (slots0 3 args) S) : CallP G (k + 1) 15 args S Q E :=
  fnP ev.go (ev.fn 15 df15 rfl) sc15 (by decide) (FunD.bindsN (ev.fn 15 df15 rfl) fun _ _ _ _ _ _ us hl => match us, hl with | [_, _], _ => rfl) chk15 hl w
theorem call16 (ev : Ev G) (hl : args.length = 2) (w : wpSs T (orc G T k) ir16 (endP S Q E) (slots0 3 args) S) : CallP G (k + 1) 16 args S Q E :=
  fnP ev.go (ev.fn 16 df16 rfl) sc16 (by decide) (FunD.bindsN (ev.fn 16 df16 rfl) fun _ _ _ _ _ _ us hl => match us, hl with | [_, _], _ => rfl) chk16 hl w
theorem call17 (ev : Ev G) (hl : args.length = 2) (w : wpSs T (orc G T k) ir17 (endP S Q E) (slots0 2 args) S) : CallP G (k + 1) 17 args S Q E :=
  fnP ev.go (ev.fn 17 df17 rfl) sc17 (by decide) (FunD.bindsN (ev.fn 17 df17 rfl) fun _ _ _ _ _ _ us hl => match us, hl with | [_, _], _ => rfl) chk17 hl w
theorem call18 (ev : Ev G) (hl : args.length = 3) (w : wpSs T (orc G T k) ir18 (endP S Q E) (slots0 10 args) S) : CallP G (k + 1) 18 args S Q E :=
  fnP ev.go (ev.fn 18 df18 rfl) sc18 (by decide) (FunD.bindsN (ev.fn 18 df18 rfl) fun _ _ _ _ _ _ us hl => match us, hl with | [_, _, _], _ => rfl) chk18 hl w
theorem call19 (ev : Ev G) (hl : args.length = 3) (w : wpSs T (orc G T k) ir19 (endP S Q E) (slots0 7 args) S) : CallP G (k + 1) 19 args S Q E :=
  fnP ev.go (ev.fn 19 df19 rfl) sc19 (by decide) (FunD.bindsN (ev.fn 19 df19 rfl) fun _ _ _ _ _ _ us hl => match us, hl with | [_, _, _], _ => rfl) chk19 hl w
theorem call20 (ev : Ev G) (hl : args.length = 2) (w : wpSs T (orc G T k) ir20 (endP S Q E) (slots0 18 args) S) : CallP G (k + 1) 20 args S Q E :=
  fnP ev.go (ev.fn 20 df20 rfl) sc20 (by decide) (FunD.bindsN (ev.fn 20 df20 rfl) fun _ _ _ _ _ _ us hl => match us, hl with | [_, _], _ => rfl) chk20 hl w
theorem call21 (ev : Ev G) (hl : args.length = 2) (w : wpSs T (orc G T k) ir21 (endP S Q E) (slots0 4 args) S) : CallP G (k + 1) 21 args S Q E :=
  fnP ev.go (ev.fn 21 df21 rfl) sc21 (by decide) (FunD.bindsN (ev.fn 21 df21 rfl) fun _ _ _ _ _ _ us hl => match us, hl with | [_, _], _ => rfl) chk21 hl w
theorem call22 (ev : Ev G) (hl : args.length = 3) (w : wpSs T (orc G T k) ir22 (endP S Q E) (slots0 9 args) S) : CallP G (k + 1) 22 args S Q E :=
  fnP ev.go (ev.fn 22 df22 rfl) sc22 (by decide) (FunD.bindsN (ev.fn 22 df22 rfl) fun _ _ _ _ _ _ us hl => match us, hl with | [_, _, _], _ => rfl) chk22 hl w
theorem call23 (ev : Ev G) (hl : args.length = 3) (w : wpSs T (orc G T k) ir23 (endP S Q E) (slots0 5 args) S) : CallP G (k + 1) 23 args S Q E :=
  fnP ev.go (ev.fn 23 df23 rfl) sc23 (by decide) (FunD.bindsN (ev.fn 23 df23 rfl) fun _ _ _ _ _ _ us hl => match us, hl with | [_, _, _], _ => rfl) chk23 hl w
theorem call24 (ev : Ev G) (hl : args.length = 1) (w : wpSs T (orc G T k) ir24 (endP S Q E) (slots0 1 args) S) : CallP G (k + 1) 24 args S Q E :=
  fnP ev.go (ev.fn 24 df24 rfl) sc24 (by decide) (FunD.bindsN (ev.fn 24 df24 rfl) fun _ _ _ _ _ _ us hl => match us, hl with | [_], _ => rfl) chk24 hl w
theorem call25 (ev : Ev G) (hl : args.length = 2) (w : wpSs T (orc G T k) ir25 (endP S Q E) (slots0 8 args) S) : CallP G (k + 1) 25 args S Q E :=
  fnP ev.go (ev.fn 25 df25 rfl) sc25 (by decide) (FunD.bindsN (ev.fn 25 df25 rfl) fun _ _ _ _ _ _ us hl => match us, hl with | [_, _], _ => rfl) chk25 hl w
theorem call26 (ev : Ev G) (hl : args.length = 2) (w : wpSs T (orc G T k) ir26 (endP S Q E) (slots0 7 args) S) : CallP G (k + 1) 26 args S Q E :=
  fnP ev.go (ev.fn 26 df26 rfl) sc26 (by decide) (FunD.bindsN (ev.fn 26 df26 rfl) fun _ _ _ _ _ _ us hl => match us, hl with | [_, _], _ => rfl) chk26 hl w
theorem call27 (ev : Ev G) (hl : args.length = 1) (w : wpSs T (orc G T k) ir27 (endP S Q E) (slots0 2 args) S) : CallP G (k + 1) 27 args S Q E :=
  fnP ev.go (ev.fn 27 df27 rfl) sc27 (by decide) (FunD.bindsN (ev.fn 27 df27 rfl) fun _ _ _ _ _ _ us hl => match us, hl with | [_], _ => rfl) chk27 hl w
theorem call28 (ev : Ev G) (hl : args.length = 1) (w : wpSs T (orc G T k) ir28 (endP S Q E) (slots0 8 args) S) : CallP G (k + 1) 28 args S Q E :=
  fnP ev.go (ev.fn 28 df28 rfl) sc28 (by decide) (FunD.bindsN (ev.fn 28 df28 rfl) fun _ _ _ _ _ _ us hl => match us, hl with | [_], _ => rfl) chk28 hl w
abbrev nx_Sum___init__ : Nat := 0
abbrev ix_Sum___init__ : List IS := ir0
theorem call_Sum___init__ (ev : Ev G) (hl : args.length = 3) (w : wpSs T (orc G T k) ix_Sum___init__ (endP S Q E) (slots0 3 args) S) : CallP G (k + 1) nx_Sum___init__ args S Q E := call0 ev hl w
abbrev nx_Sum_plus : Nat := 1
abbrev ix_Sum_plus : List IS := ir1
theorem call_Sum_plus (ev : Ev G) (hl : args.length = 2) (w : wpSs T (orc G T k) ix_Sum_plus (endP S Q E) (slots0 2 args) S) : CallP G (k + 1) nx_Sum_plus args S Q E := call1 ev hl w
abbrev nx_Sum_times : Nat := 2
abbrev ix_Sum_times : List IS := ir2
theorem call_Sum_times (ev : Ev G) (hl : args.length = 2) (w : wpSs T (orc G T k) ix_Sum_times (endP S Q E) (slots0 4 args) S) : CallP G (k + 1) nx_Sum_times args S Q E := call2 ev hl w
abbrev nx_Sum_less : Nat := 3
abbrev ix_Sum_less : List IS := ir3
theorem call_Sum_less (ev : Ev G) (hl : args.length = 2) (w : wpSs T (orc G T k) ix_Sum_less (endP S Q E) (slots0 2 args) S) : CallP G (k + 1) nx_Sum_less args S Q E := call3 ev hl w
abbrev nx_sum_of : Nat := 4
abbrev ix_sum_of : List IS := ir4
theorem call_sum_of (ev : Ev G) (hl : args.length = 2) (w : wpSs T (orc G T k) ix_sum_of (endP S Q E) (slots0 5 args) S) : CallP G (k + 1) nx_sum_of args S Q E := call4 ev hl w
abbrev nx_is_whole : Nat := 5
abbrev ix_is_whole : List IS := ir5
theorem call_is_whole (ev : Ev G) (hl : args.length = 2) (w : wpSs T (orc G T k) ix_is_whole (endP S Q E) (slots0 2 args) S) : CallP G (k + 1) nx_is_whole args S Q E := call5 ev hl w
abbrev nx_is_row : Nat := 6
abbrev ix_is_row : List IS := ir6
theorem call_is_row (ev : Ev G) (hl : args.length = 2) (w : wpSs T (orc G T k) ix_is_row (endP S Q E) (slots0 2 args) S) : CallP G (k + 1) nx_is_row args S Q E := call6 ev hl w
abbrev nx_is_line : Nat := 7
abbrev ix_is_line : List IS := ir7
theorem call_is_line (ev : Ev G) (hl : args.length = 2) (w : wpSs T (orc G T k) ix_is_line (endP S Q E) (slots0 2 args) S) : CallP G (k + 1) nx_is_line args S Q E := call7 ev hl w
abbrev nx_is_adding : Nat := 8
abbrev ix_is_adding : List IS := ir8
theorem call_is_adding (ev : Ev G) (hl : args.length = 2) (w : wpSs T (orc G T k) ix_is_adding (endP S Q E) (slots0 3 args) S) : CallP G (k + 1) nx_is_adding args S Q E := call8 ev hl w
abbrev nx_is_cutting : Nat := 9
abbrev ix_is_cutting : List IS := ir9
theorem call_is_cutting (ev : Ev G) (hl : args.length = 2) (w : wpSs T (orc G T k) ix_is_cutting (endP S Q E) (slots0 4 args) S) : CallP G (k + 1) nx_is_cutting args S Q E := call9 ev hl w
abbrev nx_line_of : Nat := 10
abbrev ix_line_of : List IS := ir10
theorem call_line_of (ev : Ev G) (hl : args.length = 2) (w : wpSs T (orc G T k) ix_line_of (endP S Q E) (slots0 8 args) S) : CallP G (k + 1) nx_line_of args S Q E := call10 ev hl w
abbrev nx_ends_by : Nat := 11
abbrev ix_ends_by : List IS := ir11
theorem call_ends_by (ev : Ev G) (hl : args.length = 1) (w : wpSs T (orc G T k) ix_ends_by (endP S Q E) (slots0 1 args) S) : CallP G (k + 1) nx_ends_by args S Q E := call11 ev hl w
abbrev nx_is_parting : Nat := 12
abbrev ix_is_parting : List IS := ir12
theorem call_is_parting (ev : Ev G) (hl : args.length = 1) (w : wpSs T (orc G T k) ix_is_parting (endP S Q E) (slots0 1 args) S) : CallP G (k + 1) nx_is_parting args S Q E := call12 ev hl w
abbrev nx_sound : Nat := 13
abbrev ix_sound : List IS := ir13
theorem call_sound (ev : Ev G) (hl : args.length = 3) (w : wpSs T (orc G T k) ix_sound (endP S Q E) (slots0 6 args) S) : CallP G (k + 1) nx_sound args S Q E := call13 ev hl w
abbrev nx_refutes : Nat := 14
abbrev ix_refutes : List IS := ir14
theorem call_refutes (ev : Ev G) (hl : args.length = 2) (w : wpSs T (orc G T k) ix_refutes (endP S Q E) (slots0 2 args) S) : CallP G (k + 1) nx_refutes args S Q E := call14 ev hl w
abbrev nx__law_cell_at : Nat := 15
abbrev ix__law_cell_at : List IS := ir15
theorem call__law_cell_at (ev : Ev G) (hl : args.length = 2) (w : wpSs T (orc G T k) ix__law_cell_at (endP S Q E) (slots0 3 args) S) : CallP G (k + 1) nx__law_cell_at args S Q E := call15 ev hl w
abbrev nx__law_mixed : Nat := 16
abbrev ix__law_mixed : List IS := ir16
theorem call__law_mixed (ev : Ev G) (hl : args.length = 2) (w : wpSs T (orc G T k) ix__law_mixed (endP S Q E) (slots0 3 args) S) : CallP G (k + 1) nx__law_mixed args S Q E := call16 ev hl w
abbrev nx__law_next : Nat := 17
abbrev ix__law_next : List IS := ir17
theorem call__law_next (ev : Ev G) (hl : args.length = 2) (w : wpSs T (orc G T k) ix__law_next (endP S Q E) (slots0 2 args) S) : CallP G (k + 1) nx__law_next args S Q E := call17 ev hl w
abbrev nx__law_sums : Nat := 18
abbrev ix__law_sums : List IS := ir18
theorem call__law_sums (ev : Ev G) (hl : args.length = 3) (w : wpSs T (orc G T k) ix__law_sums (endP S Q E) (slots0 10 args) S) : CallP G (k + 1) nx__law_sums args S Q E := call18 ev hl w
abbrev nx__law_last : Nat := 19
abbrev ix__law_last : List IS := ir19
theorem call__law_last (ev : Ev G) (hl : args.length = 3) (w : wpSs T (orc G T k) ix__law_last (endP S Q E) (slots0 7 args) S) : CallP G (k + 1) nx__law_last args S Q E := call19 ev hl w
abbrev nx__law_built : Nat := 20
abbrev ix__law_built : List IS := ir20
theorem call__law_built (ev : Ev G) (hl : args.length = 2) (w : wpSs T (orc G T k) ix__law_built (endP S Q E) (slots0 18 args) S) : CallP G (k + 1) nx__law_built args S Q E := call20 ev hl w
abbrev nx__law_value : Nat := 21
abbrev ix__law_value : List IS := ir21
theorem call__law_value (ev : Ev G) (hl : args.length = 2) (w : wpSs T (orc G T k) ix__law_value (endP S Q E) (slots0 4 args) S) : CallP G (k + 1) nx__law_value args S Q E := call21 ev hl w
abbrev nx__law_boxes : Nat := 22
abbrev ix__law_boxes : List IS := ir22
theorem call__law_boxes (ev : Ev G) (hl : args.length = 3) (w : wpSs T (orc G T k) ix__law_boxes (endP S Q E) (slots0 9 args) S) : CallP G (k + 1) nx__law_boxes args S Q E := call22 ev hl w
abbrev nx__law_met : Nat := 23
abbrev ix__law_met : List IS := ir23
theorem call__law_met (ev : Ev G) (hl : args.length = 3) (w : wpSs T (orc G T k) ix__law_met (endP S Q E) (slots0 5 args) S) : CallP G (k + 1) nx__law_met args S Q E := call23 ev hl w
abbrev nx__law_told : Nat := 24
abbrev ix__law_told : List IS := ir24
theorem call__law_told (ev : Ev G) (hl : args.length = 1) (w : wpSs T (orc G T k) ix__law_told (endP S Q E) (slots0 1 args) S) : CallP G (k + 1) nx__law_told args S Q E := call24 ev hl w
abbrev nx__law_added : Nat := 25
abbrev ix__law_added : List IS := ir25
theorem call__law_added (ev : Ev G) (hl : args.length = 2) (w : wpSs T (orc G T k) ix__law_added (endP S Q E) (slots0 8 args) S) : CallP G (k + 1) nx__law_added args S Q E := call25 ev hl w
abbrev nx__law_lines_right : Nat := 26
abbrev ix__law_lines_right : List IS := ir26
theorem call__law_lines_right (ev : Ev G) (hl : args.length = 2) (w : wpSs T (orc G T k) ix__law_lines_right (endP S Q E) (slots0 7 args) S) : CallP G (k + 1) nx__law_lines_right args S Q E := call26 ev hl w
abbrev nx__law_listed : Nat := 27
abbrev ix__law_listed : List IS := ir27
theorem call__law_listed (ev : Ev G) (hl : args.length = 1) (w : wpSs T (orc G T k) ix__law_listed (endP S Q E) (slots0 2 args) S) : CallP G (k + 1) nx__law_listed args S Q E := call27 ev hl w
abbrev nx_law : Nat := 28
abbrev ix_law : List IS := ir28
theorem call_law (ev : Ev G) (hl : args.length = 1) (w : wpSs T (orc G T k) ix_law (endP S Q E) (slots0 8 args) S) : CallP G (k + 1) nx_law args S Q E := call28 ev hl w
end
abbrev cx_Sum : Nat := 0
abbrev fx_terms : Nat := 0
abbrev fx_number : Nat := 1
abbrev fx_plus : Nat := 2
abbrev fx_times : Nat := 3
abbrev fx_less : Nat := 4
end K37

set_option maxHeartbeats 1000000
namespace K37
open PySem PySem.Spec PyProof.Rows L2 DL
section
variable {G : Gd} {k : Nat} {S : Store} {Q E : QD} {args : List D}
/-- _law_mixed: a number of at most ten figures -/
theorem mixed (ev : Ev G) {c i : Int} (h : ∀ m : Int, 0 ≤ m → m < 2147483399 → Q (.int m) S) : CallP G (k + 1) nx__law_mixed [.int c, .int i] S Q E := by
  refine call__law_mixed ev rfl ?_
  conv => whnf
  refine ⟨by unfold mulOk; omega, ?_⟩
  conv => whnf
  refine ⟨by unfold mulOk; omega, ?_⟩
  conv => whnf
  refine ⟨by decide, ?_⟩
  conv => whnf
  refine ⟨by unfold mulOk; omega, ?_⟩
  conv => whnf
  refine ⟨by unfold mulOk; omega, ?_⟩
  conv => whnf
  refine ⟨by decide, ?_⟩
  conv => whnf
  exact ⟨_, _, .refl, h _ (Int.emod_nonneg _ (by decide)) (Int.emod_lt_of_pos _ (by decide))⟩
/-- _law_cell_at -/
theorem cellAt (ev : Ev G) {ns : List Int} {i : Int} (hi : 0 ≤ i) (h : ∀ m : Int, 0 ≤ m → m < 2147483399 → Q (.int m) S) : CallP G (k + 2) nx__law_cell_at [DL.script ns, .int i] S Q E := by
  refine call__law_cell_at ev rfl ?_
  conv => whnf
  have fin : ∀ d : D, (∃ c : Int, d = .int c) → CallP G (k + 1) nx__law_mixed [d, .int (300 + i)] S (endP S Q E).rt E := by
    rintro _ ⟨c, rfl⟩
    exact mixed ev fun m h1 h2 => ⟨_, _, .refl, h m h1 h2⟩
  refine iteW_d (fun hl => ?_) (fun hl => ?_)
  · conv => whnf
    obtain ⟨d, h1, h2⟩ := idx_in (xs := ns.map D.int) hi hl
    refine ⟨d, h1, ?_⟩
    conv => whnf
    obtain ⟨c, _, rfl⟩ := List.mem_map.mp h2
    exact fin _ ⟨c, rfl⟩
  · conv => whnf
    exact fin _ ⟨0, rfl⟩
/-- _law_next -/
theorem next (ev : Ev G) {c i n : Int} (hn : 0 < n) (h : ∀ m : Int, 0 ≤ m → m < n → Q (.int m) [.lst [.int c, .int (i + 1)]]) : CallP G (k + 2) nx__law_next [.ref 0, .int n] [.lst [.int c, .int i]] Q E := by
  refine call__law_next ev rfl ?_
  conv => whnf
  refine ⟨_, rfl, ?_⟩
  conv => whnf
  refine ⟨_, rfl, ?_⟩
  conv => whnf
  refine ⟨_, rfl, ?_⟩
  conv => whnf
  refine ⟨_, rfl, ?_⟩
  conv => whnf
  refine mixed ev fun z z0 z1 => ?_
  conv => whnf
  refine ⟨⟨by decide, by decide⟩, ?_⟩
  conv => whnf
  refine ⟨hn, ?_⟩
  conv => whnf
  exact ⟨_, _, .refl, h _ (Int.emod_nonneg _ (by omega)) (Int.emod_lt_of_pos _ hn)⟩
end
end K37

set_option maxHeartbeats 1000000
namespace K37
open PySem PySem.Spec PyProof.Rows L2 DL
section
variable {G : Gd} {k : Nat} {S : Store} {Q E : QD} {args : List D}
/-- _law_next where more cells are -/
theorem nextR (ev : Ev G) {c i n : Int} {R : Store} (hn : 0 < n) (h : ∀ m : Int, 0 ≤ m → m < n → Q (.int m) (.lst [.int c, .int (i + 1)] :: R)) : CallP G (k + 2) nx__law_next [.ref 0, .int n] (.lst [.int c, .int i] :: R) Q E :=
  callP_frm (is := [0]) (args := [.ref 0, .int n]) (by decide) (by intro i hi; simp at hi; subst hi; simp) rfl rfl (next ev hn fun m h0 h1 => ⟨rfl, rfl, h m h0 h1⟩)
abbrev AZ : Tx := [97, 98, 99, 100, 101, 102, 103, 104, 105, 106, 107, 108, 109, 110, 111, 112, 113, 114, 115, 116, 117, 118, 119, 120, 121, 122]
def KL : List Tx := [[104, 101, 108, 112, 101, 114], [97, 110, 115, 119, 101, 114, 115], [110, 101, 101, 100, 115], [103, 105, 118, 101, 115], [101, 110, 100], [108, 101, 116], [100, 105, 118], [109, 111, 100], [112, 117, 116], [114, 111, 119], [97, 116], [105, 102], [101, 108, 115, 101], [119, 104, 105, 108, 101], [104, 111, 108, 100, 115], [102, 97, 108, 108, 115], [99, 97, 108, 108], [99, 108, 97, 105, 109], [97, 110, 100], [111, 114], [110, 111, 116]]
/-- a sign of the letters -/
theorem az_idx {i : Int} (h0 : 0 ≤ i) (h1 : i < 26) : ∃ d, (ixOf AZ.length i).bind (AZ[·]?) = some d ∧ d = 97 + i.toNat := by
  obtain ⟨j, rfl⟩ := Int.eq_ofNat_of_zero_le h0
  have hj : j < 26 := by omega
  refine ⟨97 + j, ?_, rfl⟩
  show (if j < AZ.length then some j else none).bind (AZ[·]?) = _
  rw [if_pos (by simpa using hj)]
  show AZ[j]? = _
  have : ∀ j < 26, AZ[j]? = some (97 + j) := by decide
  exact this j hj
/-- the word of a turn -/
def zw (a : Int) (t : Nat) : Tx := [122, 97 + ((t : Int) % 26).toNat, 97 + ((a + t) % 26).toNat]
theorem zw_inj {a : Int} {s t : Nat} (hs : s < 26) (ht : t < 26) (h : zw a s = zw a t) : s = t := by
  unfold zw at h
  simp at h
  omega
theorem zw_kept (a : Int) (t : Nat) : zw a t ∉ KL := by
  intro h
  unfold zw KL at h
  simp at h
end
end K37

set_option maxHeartbeats 1000000
namespace K37
open PySem PySem.Spec PyProof.Rows L2 DL
section
variable {G : Gd} {k : Nat} {S : Store} {Q E : QD} {args : List D}
/-- Sum.__init__, of a tuple or a list -/
theorem sumInit (ev : Ev G) {x n : D} {ts : List D} (hx : seqOf [.obj cx_Sum [fx_terms] []] x = some ts) (h2 : x = .tup ts ∨ x = .lst ts) (h : Q .non [.obj cx_Sum [fx_terms, fx_number] [.tup ts, n]]) : CallP G (k + 1) nx_Sum___init__ [.ref 0, x, n] [.obj cx_Sum [] []] Q E := by
  refine call_Sum___init__ ev rfl ?_
  rcases h2 with rfl | rfl
  · conv => whnf
    refine ⟨⟨by decide, rfl⟩, ?_⟩
    conv => whnf
    refine ⟨⟨by decide, rfl⟩, ?_⟩
    conv => whnf
    exact ⟨_, _, .refl, h⟩
  · conv => whnf
    refine ⟨⟨by decide, rfl⟩, ?_⟩
    conv => whnf
    refine ⟨⟨by decide, rfl⟩, ?_⟩
    conv => whnf
    exact ⟨_, _, .refl, h⟩
/-- the pairs of a sum -/
def pr (p : Tx × Int) : D := .tup [.str p.1, .int p.2]
def sumD (ps : List (Tx × Int)) (n : Int) : D := .ins cx_Sum [fx_terms, fx_number] [.tup (ps.map pr), .int n]
theorem bels_pr (m : Nat) : ∀ ps : List (Tx × Int), bels m (ps.map pr) = true
  | [] => rfl
  | p :: r => by
    show (bel m (pr p) && bels m (r.map pr)) = true
    rw [bels_pr m r]; rfl
theorem rens_pr (is : List Nat) : ∀ ps : List (Tx × Int), rens is (ps.map pr) = ps.map pr
  | [] => rfl
  | p :: r => by
    show ren is (pr p) :: rens is (r.map pr) = _
    rw [rens_pr is r]; rfl
theorem newSum (ev : Ev G) {x : D} {ps : List (Tx × Int)} {n : Int} (hx : x = .tup (ps.map pr) ∨ x = .lst (ps.map pr)) (hb : belS S.length S = true) (h : Q (sumD ps n) S) : NewP G T (k + 2) cx_Sum [x, .int n] S Q := by
  refine new_frz (f := nx_Sum___init__) (ns := [fx_terms, fx_number]) (fs := [.tup (ps.map pr), .int n]) rfl ?_ ?_ hb ?_ ?_ (fun {Q' E'} h' => sumInit (ts := ps.map pr) ev ?_ hx h') h
  · rcases hx with rfl | rfl
    · show (bels 1 (ps.map pr) && true) = true; rw [bels_pr]; rfl
    · show (bels 1 (ps.map pr) && true) = true; rw [bels_pr]; rfl
  · rcases hx with rfl | rfl
    · show [D.tup (rens [S.length] (ps.map pr)), .int n] = _; rw [rens_pr]
    · show [D.lst (rens [S.length] (ps.map pr)), .int n] = _; rw [rens_pr]
  · show (bels 0 (ps.map pr) && true) = true; rw [bels_pr]; rfl
  · show (bels S.length (ps.map pr) && true) = true; rw [bels_pr]; rfl
  · rcases hx with rfl | rfl <;> rfl
end
end K37

set_option maxHeartbeats 1000000
namespace K37
open PySem PySem.Spec PyProof.Rows L2 DL SA
section
variable {G : Gd} {k : Nat} {S : Store} {Q E : QD} {args : List D}
theorem addI_dp (kv : List (Tx × Int)) (p : Tx × Int) : dp (addI kv p) = putT p.1 (.int (tot p.1 kv + p.2)) (dp kv) := putI_dp _ _ _
theorem bels_dvs (m : Nat) : ∀ kv : List (Tx × Int), bels m (dvs (dp kv)) = true
  | [] => rfl
  | p :: r => by
    show (true && bels m (dvs (dp r))) = true
    rw [bels_dvs m r]; rfl
/-- sum_of -/
theorem sumOf0 (ev : Ev G) {x : D} {l : List (Tx × Int)} {n : Int} (hx : x = .tup (l.map pr) ∨ x = .lst (l.map pr)) (hl : l.length < 64) (h : Q (sumD (gat l) n) []) : CallP G (k + 3) nx_sum_of [x, .int n] [] Q E := by
  have tail : ∀ (s3 s4 : Option D), wpSs T (orc G T (k + 2)) [.ret (.new cx_Sum [.lc true [3] (.nm 3) .e [.bi .sorted true [.var 2]] [.val (.cmp .NotEq (.idx (.var 2) (.var 3)) (.con (.int (0))))] (.tup [.var 3, .idx (.var 2) (.var 3)]), .var 1])] (endP [] Q E) [some x, some (.int n), some (.ref 0), s3, s4] [.dct (dks (dp (gth l))) (dvs (dp (gth l)))] := by
    intro s3 s4
    have nd := gth_nodup l
    conv => whnf
    have es := strsOf_dks (dp (gth l))
    rw [dp_keys] at es
    rw [es]
    conv => whnf
    have hgl := gth_len l
    refine ⟨by rw [List.length_map]; omega, ?_⟩
    conv => whnf
    refine lc_ind (fun its acc S' => S' = [.dct (dks (dp (gth l))) (dvs (dp (gth l)))] ∧ ∃ a b : List Tx, sortT ((gth l).map (·.1)) = a ++ b ∧ its = b.map .str ∧ acc = ((a.filter fun x => decide (tot x l ≠ 0)).map fun x => (x, tot x l)).map pr) ?_ ?_ _ _ _ ⟨rfl, [], _, rfl, rfl, rfl⟩
    · rintro acc S ⟨rfl, dn, rs, e1, e2, rfl⟩
      cases rs with
      | cons a r => cases e2
      | nil =>
        rw [List.append_nil] at e1
        subst e1
        refine ⟨trivial, ?_⟩
        conv => whnf
        exact newSum (k := k) ev (.inr rfl) (by show ((bels 1 (dvs (dp (gth l)))) && true) = true; rw [bels_dvs]; rfl) ⟨_, _, .trim [] [.dct (dks (dp (gth l))) (dvs (dp (gth l)))] rfl (Nat.le_refl _) rfl (by show (bels 0 ([.tup ((gat l).map pr), .int n])) = true; show ((bels 0 ((gat l).map pr)) && true) = true; rw [bels_pr]; rfl) .refl, h⟩
    · rintro y r acc S N1 N2 hN1 hN2 ⟨rfl, dn, rs, e1, e2, rfl⟩
      cases rs with
      | nil => cases e2
      | cons y rs =>
        cases e2
        refine ⟨trivial, ?_⟩
        conv => whnf
        have hm : y ∈ (gth l).map (·.1) := (sortT_perm _).mem_iff.mp (by rw [e1]; simp)
        have hd := dget_tot nd hm
        rw [gth_tot] at hd
        refine ⟨rfl, _, hd, ?_⟩
        conv => whnf
        have hlen := congrArg List.length e1
        have hpl := (sortT_perm ((gth l).map (·.1))).length_eq
        rw [List.length_map] at hpl
        refine iteW_i (fun hb => ?_) (fun hb => ?_)
        · have hb : tot y l ≠ 0 := by simpa using hb
          conv => whnf
          refine ⟨rfl, _, hd, ?_⟩
          conv => whnf
          refine hN1 _ _ ⟨?_, _, _, .refl, rfl, dn ++ [y], rs, by rw [e1]; simp, rfl, ?_⟩
          · rw [List.length_map, List.length_map]
            refine Nat.lt_of_le_of_lt (List.length_filter_le _ _) ?_
            simp only [List.length_append, List.length_cons] at hlen
            omega
          · rw [List.filter_append, List.map_append, List.map_append]
            simp [hb, pr]
        · have hb : tot y l = 0 := by simpa using hb
          refine hN2 _ ⟨rfl, dn ++ [y], rs, by rw [e1]; simp, rfl, ?_⟩
          rw [List.filter_append]
          simp [hb]
  refine call_sum_of ev rfl ?_
  rcases hx with rfl | rfl <;> (
    conv => whnf
    refine for_ind (fun its τ S => ∃ (p r : List (Tx × Int)) (s3 s4 : Option D), l = p ++ r ∧ its = r.map pr ∧ S = [.dct (dks (dp (gth p))) (dvs (dp (gth p)))] ∧ τ = [some _, some (.int n), some (.ref 0), s3, s4]) ?_ ?_ _ _ _ ⟨[], l, none, none, rfl, rfl, rfl, rfl⟩
    · rintro τ S ⟨p, r, s3, s4, e, e2, rfl, rfl⟩
      cases r with
      | cons a r => cases e2
      | nil =>
        rw [List.append_nil] at e
        subst e
        exact ⟨trivial, tail s3 s4⟩
    · rintro x r τ S Nx hN ⟨p, r, s3, s4, e, e2, rfl, rfl⟩
      cases r with
      | nil => cases e2
      | cons q r =>
        cases e2
        refine ⟨trivial, ?_⟩
        conv => whnf
        refine ⟨rfl, ?_⟩
        conv => whnf
        refine ⟨rfl, ?_⟩
        rw [getD_tot (gth_nodup p)]
        conv => whnf
        have lp := congrArg List.length e
        have gl := gth_len p
        simp only [List.length_append, List.length_cons] at lp
        refine ⟨⟨rfl, by unfold dks dp; rw [List.length_map, List.length_map]; omega⟩, ?_⟩
        refine hN _ _ ⟨_, _, .refl, p ++ [q], r, _, _, by rw [e]; simp, rfl, ?_, rfl⟩
        rw [gth_snoc, addI_dp, ← dputK_T (y := .int (tot q.1 (gth p) + q.2)), ← dputV_T]
        rfl)
theorem sumOf (ev : Ev G) {x : D} {l : List (Tx × Int)} {n : Int} (hx : x = .tup (l.map pr) ∨ x = .lst (l.map pr)) (hl : l.length < 64) (h : Q (sumD (gat l) n) S) : CallP G (k + 3) nx_sum_of [x, .int n] S Q E := by
  refine call_data ?_ ?_ (sumOf0 ev hx hl ⟨rfl, rfl, by show Q (.ins cx_Sum [fx_terms, fx_number] [.tup (rens [] ((gat l).map pr)), .int n]) S; rw [rens_pr]; exact h⟩)
  · rcases hx with rfl | rfl <;> (show ((bels 0 (l.map pr)) && true) = true; rw [bels_pr]; rfl)
  · rcases hx with rfl | rfl
    · show [D.tup (rens [] (l.map pr)), .int n] = _; rw [rens_pr]
    · show [D.lst (rens [] (l.map pr)), .int n] = _; rw [rens_pr]
end
end K37

set_option maxHeartbeats 1000000
namespace K37
open PySem PySem.Spec PyProof.Rows L2 DL SA
abbrev Rp := List (Tx × (List (Tx × Int) × Int))
def hd (kvs : Rp) : List (Tx × D) := kvs.map fun p => (p.1, sumD p.2.1 p.2.2)
def lk (x : Tx) : Rp → Option (List (Tx × Int) × Int)
  | [] => none
  | p :: r => if p.1 = x then some p.2 else lk x r
def rp (kvs : Rp) (p : Tx × Int) : List (Tx × Int) := match lk p.1 kvs with
  | some o => o.1.map fun q => (q.1, p.2 * q.2)
  | none => [p]
def rn (kvs : Rp) (p : Tx × Int) : Int := match lk p.1 kvs with
  | some o => p.2 * o.2
  | none => 0
def rps (kvs : Rp) (a : List (Tx × Int)) : List (Tx × Int) := (a.map (rp kvs)).flatten
def rns (kvs : Rp) : List (Tx × Int) → Int
  | [] => 0
  | p :: r => rn kvs p + rns kvs r
theorem rps_snoc (kvs : Rp) (a : List (Tx × Int)) (p : Tx × Int) : rps kvs (a ++ [p]) = rps kvs a ++ rp kvs p := by
  unfold rps
  simp
theorem rns_snoc (kvs : Rp) (p : Tx × Int) : ∀ a : List (Tx × Int), rns kvs (a ++ [p]) = rns kvs a + rn kvs p
  | [] => by simp [rns]
  | q :: a => by
    simp only [List.cons_append, rns, rns_snoc kvs p a]
    omega
theorem hd_get (x : Tx) : ∀ kvs : Rp, getT x (hd kvs) = (lk x kvs).map fun o => sumD o.1 o.2
  | [] => rfl
  | p :: r => by
    show (if _ then _ else _) = _
    unfold lk
    split
    · rfl
    · exact hd_get x r
theorem lk_mem {x : Tx} {o : List (Tx × Int) × Int} : ∀ {kvs : Rp}, lk x kvs = some o → (x, o) ∈ kvs
  | p :: r, h => by
    unfold lk at h
    split at h
    · rename_i e
      cases h
      subst e
      exact List.mem_cons_self
    · exact List.mem_cons_of_mem _ (lk_mem h)
theorem gat_app {a b c : List (Tx × Int)} (h : ∀ x, tot x c = tot x b) : gat (gat a ++ c) = gat (a ++ b) :=
  gat_congr fun x => by rw [tot_append, tot_append, gat_tot, h]
section
variable {G : Gd} {k : Nat} {S : Store} {Q E : QD} {args : List DL.D}
/-- Sum.plus -/
theorem plus (ev : Ev G) {a b : List (Tx × Int)} {m n : Int} (hl : a.length + b.length < 64) (h : Q (sumD (gat (a ++ b)) (m + n)) S) : CallP G (k + 4) nx_Sum_plus [sumD a m, sumD b n] S Q E := by
  refine call_Sum_plus ev rfl ?_
  conv => whnf
  refine ⟨_, rfl, ?_⟩
  conv => whnf
  refine ⟨_, rfl, ?_⟩
  conv => whnf
  refine ⟨by rw [List.length_map, List.length_map]; omega, ?_⟩
  conv => whnf
  refine ⟨_, rfl, ?_⟩
  conv => whnf
  refine ⟨_, rfl, ?_⟩
  conv => whnf
  exact sumOf (k := k) (l := a ++ b) ev (.inl (by rw [List.map_append])) (by rw [List.length_append]; exact hl) ⟨_, _, .refl, h⟩
/-- Sum.times -/
theorem times (ev : Ev G) {a : List (Tx × Int)} {m n : Int} (hm : m.natAbs < 18446744073709551616) (hl : a.length < 64) (h : Q (sumD (gat (a.map fun p => (p.1, m * p.2))) (m * n)) S) : CallP G (k + 4) nx_Sum_times [sumD a n, .int m] S Q E := by
  refine call_Sum_times ev rfl ?_
  conv => whnf
  refine ⟨_, rfl, ?_⟩
  conv => whnf
  refine lc_map pr (fun p => pr (p.1, m * p.2)) a (by omega) trivial ?_ ?_
  · conv => whnf
    refine ⟨_, rfl, ?_⟩
    conv => whnf
    refine ⟨.inl (.inl hm), ?_⟩
    conv => whnf
    refine sumOf (k := k) (l := a.map fun p => (p.1, m * p.2)) ev (.inr (by rw [List.map_map]; rfl)) (by rw [List.length_map]; exact hl) ⟨_, _, .refl, h⟩
  · intro p hp N1 N2 h1
    conv => whnf
    refine ⟨rfl, ?_⟩
    conv => whnf
    refine iteW_t ?_
    conv => whnf
    exact ⟨.inl (.inl hm), h1⟩
/-- Sum.less -/
theorem less (ev : Ev G) {a b : List (Tx × Int)} {m n : Int} (hl : a.length + b.length < 64) (h : Q (sumD (gat (a ++ b.map fun p => (p.1, -1 * p.2))) (m + -1 * n)) S) : CallP G (k + 5) nx_Sum_less [sumD a m, sumD b n] S Q E := by
  refine call_Sum_less ev rfl ?_
  conv => whnf
  refine times (k := k) ev (by decide) (by omega) ?_
  conv => whnf
  have g1 := gat_len (b.map fun p => (p.1, -1 * p.2))
  rw [List.length_map] at g1
  refine plus (k := k) ev (by omega) ?_
  refine ⟨_, _, .refl, ?_⟩
  rw [gat_congr (b := a ++ b.map fun p => (p.1, -1 * p.2)) fun x => by rw [tot_append, tot_append, gat_tot]]
  exact h
end
end K37

set_option maxHeartbeats 1000000
namespace K37
open PySem PySem.Spec PyProof.Rows L2 DL SA
abbrev KV := List (Tx × Int)
abbrev Li := KV × Int
abbrev oD (o : Li) : DL.D := sumD o.1 o.2
/-- the things of it -/
def TH : List Tx := [[63, 48], [63, 49], [63, 50]]
def Kn (ps : KV) : Prop := ∀ p ∈ ps, p.1 ∈ TH
structure Lk (o : Li) : Prop where
  rise : Rise o.1
  kn : Kn o.1
theorem nodup_len {α : Type} [BEq α] [LawfulBEq α] : ∀ {l ws : List α}, l.Nodup → (∀ x ∈ l, x ∈ ws) → l.length ≤ ws.length
  | [], _, _, _ => Nat.zero_le _
  | a :: l, ws, nd, h => by
    rw [List.nodup_cons] at nd
    have h1 := nodup_len (l := l) (ws := ws.erase a) nd.2 fun x hx => by
      have ne : x ≠ a := fun e => nd.1 (e ▸ hx)
      exact (List.mem_erase_of_ne ne).mpr (h x (List.mem_cons_of_mem _ hx))
    have h2 := List.length_erase_of_mem (h a List.mem_cons_self)
    have h3 : 0 < ws.length := List.length_pos_of_mem (h a List.mem_cons_self)
    rw [List.length_cons]
    omega
theorem Kn.len {ps : KV} (nd : (ps.map (·.1)).Nodup) (h : Kn ps) : ps.length ≤ 3 := by
  have := nodup_len nd (ws := TH) fun x hx => by
    obtain ⟨p, h1, rfl⟩ := List.mem_map.mp hx
    exact h p h1
  rw [List.length_map] at this
  exact this
theorem Lk.len {o : Li} (h : Lk o) : o.1.length ≤ 3 := h.kn.len h.rise.nd
theorem Kn.app {a b : KV} (ha : Kn a) (hb : Kn b) : Kn (a ++ b) := fun p hp => (List.mem_append.mp hp).elim (ha p) (hb p)
theorem Kn.gat {a : KV} (h : Kn a) : Kn (gat a) := fun p hp => by
  obtain ⟨q, q1, q2⟩ := List.mem_map.mp (gat_mem hp).1
  rw [← q2]; exact h q q1
theorem Kn.map {a : KV} {f : Int → Int} (h : Kn a) : Kn (a.map fun p => (p.1, f p.2)) := fun p hp => by
  obtain ⟨q, q1, rfl⟩ := List.mem_map.mp hp
  exact h q q1
theorem lk_gat {a : KV} {n : Int} (h : Kn a) : Lk (gat a, n) := ⟨gat_rise a, h.gat⟩
theorem gat_len3 {a : KV} (h : Kn a) : (gat a).length ≤ 3 := (lk_gat (n := 0) h).len
/-! ### objects that a paper may hold -/
inductive Ob : DL.D → Prop where
  | non : Ob .non
  | bl (b : Bool) : Ob (.bl b)
  | int (i : Int) (h : i.natAbs < 18446744073709551616) : Ob (.int i)
  | str (s : Tx) : Ob (.str s)
  | sum {o : Li} (h : Lk o) : Ob (oD o)
  | tup {xs : List DL.D} (h : ∀ x ∈ xs, Ob x) : Ob (.tup xs)
  | lst {xs : List DL.D} (h : ∀ x ∈ xs, Ob x) : Ob (.lst xs)
inductive Atm : DL.D → Prop where
  | non : Atm .non
  | bl (b : Bool) : Atm (.bl b)
  | int (i : Int) : Atm (.int i)
  | str (s : Tx) : Atm (.str s)
def seqD : DL.D → Option (List DL.D)
  | .tup xs => some xs
  | .lst xs => some xs
  | _ => none
def wholeD (l : Int) : DL.D → Bool
  | .int z => decide (l ≤ z)
  | _ => false
def intD : DL.D → Int
  | .int z => z
  | _ => 0
def isS (s : Tx) : DL.D → Bool
  | .str x => decide (x = s)
  | _ => false
def rowD (n : Nat) (x : DL.D) : Bool := match seqD x with
  | some xs => decide (xs.length = n)
  | none => false
theorem Ob.mem {x : DL.D} {xs : List DL.D} (h : Ob x) (e : seqD x = some xs) : ∀ y ∈ xs, Ob y := by
  cases h with
  | tup h => cases e; exact h
  | lst h => cases e; exact h
  | _ => cases e
theorem Ob.sq {x : DL.D} {xs : List DL.D} (e : seqD x = some xs) : x = .tup xs ∨ x = .lst xs := by
  cases x with
  | tup ys => cases e; exact .inl rfl
  | lst ys => cases e; exact .inr rfl
  | _ => cases e
/-! ### what the lines come to -/
def getL (L : List Li) (i : Int) : Li := (L[i.toNat]?).getD ([], 0)
def scl (w : Int) (a : KV) : KV := a.map fun z => (z.1, w * z.2)
def addX (L : List Li) (ps : List (Int × Int)) : KV := (ps.map fun p => scl p.1 (getL L p.2).1).flatten
def addN (L : List Li) : List (Int × Int) → Int
  | [] => 0
  | p :: r => p.1 * (getL L p.2).2 + addN L r
def addL (L : List Li) (ps : List (Int × Int)) : Li := (gat (addX L ps), addN L ps)
def cutX (L : List Li) (l b : Int) : Li := (gat ((getL L l).1.map fun z => (z.1, z.2 / b)), (getL L l).2 / b)
def negL (o : Li) : Li := (gat (o.1.map fun z => (z.1, -z.2)), -o.2 - 1)
def endOk (L : List Li) : Bool := match L.getLast? with
  | none => false
  | some o => o.1.isEmpty && decide (o.2 < 0)
def lineD (L : List Li) (x : DL.D) : Bool := wholeD 0 x && decide (intD x < L.length)
def pairOk (L : List Li) (x : DL.D) : Bool := match seqD x with
  | some [a, b] => wholeD 1 a && lineD L b
  | _ => false
def pairI (x : DL.D) : Int × Int := match seqD x with
  | some [a, b] => (intD a, intD b)
  | _ => (0, 0)
def addOk (L : List Li) (x : DL.D) : Bool := match seqD x with
  | some [h, y] => isS [97, 100, 100] h && (match seqD y with
    | some ps => !ps.isEmpty && ps.all (pairOk L)
    | none => false)
  | _ => false
def addPs (x : DL.D) : List (Int × Int) := match seqD x with
  | some [_, y] => ((seqD y).getD []).map pairI
  | _ => []
def cutOk (L : List Li) (x : DL.D) : Bool := match seqD x with
  | some [h, a, b] => isS [99, 117, 116] h && (lineD L a && (wholeD 1 b && (getL L (intD a)).1.all fun z => decide (z.2 % intD b = 0)))
  | _ => false
def stX (L : List Li) (x : DL.D) : Li := match seqD x with
  | some [_, l, b] => cutX L (intD l) (intD b)
  | _ => addL L (addPs x)
def prE : DL.D → Tx × Int
  | .tup [.str t, .int z] => (t, z)
  | _ => ([], 0)
def liD : DL.D → Option Li
  | .ins _ _ [.tup ts, .int n] => some (ts.map prE, n)
  | _ => none
theorem liD_oD (o : Li) : liD (oD o) = some o := by
  show some ((o.1.map pr).map prE, o.2) = some o
  rw [List.map_map]
  have : (prE ∘ pr : Tx × Int → Tx × Int) = id := rfl
  rw [this, List.map_id]
def parts (x : DL.D) : Option (Li × DL.D × DL.D) := match seqD x with
  | some [h, t, p, q] => match isS [115, 112, 108, 105, 116] h, liD t with
    | true, some o => some (o, p, q)
    | _, _ => none
  | _ => none
/-- the lines of a paper in turn -/
def go (rc : DL.D → List Li → Bool) (few : Bool) : List DL.D → List Li → Bool
  | [], L => endOk L
  | x :: r, L => match addOk L x || cutOk L x with
    | true => go rc few r (L ++ [stX L x])
    | false => match parts x with
      | some (o, p, q) => (r.isEmpty && few) && (rc p (L ++ [o]) && rc q (L ++ [negL o]))
      | none => false
def snd : Nat → DL.D → List Li → Nat → Bool
  | 0, _, _, _ => false
  | d + 1, p, L, s => match seqD p with
    | none => false
    | some xs => go (fun p L => snd d p L (s + 1)) (decide (s < 20)) xs L
/-- the pairs of a line are tuples -/
def Tps (x : DL.D) : Prop := ∀ a y ps, seqD x = some [a, y] → seqD y = some ps → ∀ us, DL.D.lst us ∉ ps
/-- a paper that may be looked at, so deep -/
def Pp : Nat → DL.D → Prop
  | 0, p => Ob p ∧ ∀ xs, seqD p = some xs → xs.length ≤ 40 ∧ ∀ x ∈ xs, (∀ a r, seqD x = some (a :: r) → Atm a) ∧ Tps x ∧ parts x = none
  | d + 1, p => Ob p ∧ ∀ xs, seqD p = some xs → xs.length ≤ 40 ∧ ∀ x ∈ xs, (∀ a r, seqD x = some (a :: r) → Atm a) ∧ Tps x ∧ ∀ o a b, parts x = some (o, a, b) → Pp d a ∧ Pp d b
theorem Pp.ob : ∀ {d : Nat} {p : DL.D}, Pp d p → Ob p
  | 0, _, h => h.1
  | _ + 1, _, h => h.1
theorem addX_kn {L : List Li} (hL : ∀ o ∈ L, Lk o) : ∀ ps : List (Int × Int), Kn (addX L ps)
  | [] => fun p hp => (List.not_mem_nil hp).elim
  | p :: r => by
    have : addX L (p :: r) = scl p.1 (getL L p.2).1 ++ addX L r := by unfold addX; simp
    rw [this]
    refine Kn.app ?_ (addX_kn hL r)
    unfold scl
    refine Kn.map (f := fun z => p.1 * z) ?_
    unfold getL
    cases e : L[p.2.toNat]? with
    | none => exact fun p hp => (List.not_mem_nil hp).elim
    | some o => exact (hL o (List.mem_of_getElem? e)).kn
theorem getL_lk {L : List Li} {i : Int} (hL : ∀ o ∈ L, Lk o) (h0 : 0 ≤ i) (h1 : i < L.length) : Lk (getL L i) ∧ L[i.toNat]? = some (getL L i) := by
  have h2 : i.toNat < L.length := by omega
  have e : L[i.toNat]? = some L[i.toNat] := List.getElem?_eq_getElem h2
  unfold getL
  rw [e]
  exact ⟨hL _ (List.getElem_mem h2), rfl⟩
theorem getL_kn {L : List Li} (hL : ∀ o ∈ L, Lk o) (i : Int) : Kn (getL L i).1 := by
  unfold getL
  cases e : L[i.toNat]? with
  | none => exact fun p hp => (List.not_mem_nil hp).elim
  | some o => exact (hL o (List.mem_of_getElem? e)).kn
theorem stX_lk {L : List Li} (hL : ∀ o ∈ L, Lk o) (x : DL.D) : Lk (stX L x) := by
  unfold stX
  split
  · exact lk_gat (Kn.map (f := fun z => z / _) (getL_kn hL _))
  · exact lk_gat (addX_kn hL _)
theorem negL_lk {o : Li} (h : Lk o) : Lk (negL o) := lk_gat (Kn.map (f := fun z => -z) h.kn)
end K37

set_option maxHeartbeats 1000000
namespace K37
open PySem PySem.Spec PyProof.Rows L2 DL SA
section
variable {G : Gd} {k : Nat} {S : Store} {Q E : QD} {args : List DL.D}
theorem wpSs_nil {T : Tab} {O : Orc} {P : Post} {τ : Sl} {S : Store} (h : P.nx τ S) : wpSs T O [] P τ S := by
  rw [wpSs]
  exact h
/-- is_whole -/
theorem isWhole (ev : Ev G) {x : DL.D} {l : Int} (hx : Ob x) (h : Q (.bl (wholeD l x)) S) : CallP G (k + 1) nx_is_whole [x, .int l] S Q E := by
  refine call_is_whole ev rfl ?_
  cases hx
  all_goals
    ((try conv => whnf); repeat ((first | refine ⟨_, rfl, ?_⟩ | refine ⟨rfl, ?_⟩ | refine ⟨_, ix_head, ?_⟩ | refine ⟨⟨rfl, rfl⟩, ?_⟩ | refine iteW_t ?_ | refine iteW_f ?_ | refine wpSs_nl ?_); (try conv => whnf)))
    exact ⟨_, _, .refl, h⟩
/-- is_row -/
theorem isRow (ev : Ev G) {x : DL.D} {n : Nat} (hx : Ob x) (h : Q (.bl (rowD n x)) S) : CallP G (k + 1) nx_is_row [x, .int n] S Q E := by
  refine call_is_row ev rfl ?_
  have e : ∀ a b : Nat, decide ((a : Int) = (b : Int)) = decide (a = b) := fun a b => decide_eq_decide.mpr (by omega)
  cases hx
  all_goals
    ((try conv => whnf); repeat ((first | refine ⟨_, rfl, ?_⟩ | refine ⟨rfl, ?_⟩ | refine ⟨_, ix_head, ?_⟩ | refine ⟨⟨rfl, rfl⟩, ?_⟩ | refine iteW_t ?_ | refine iteW_f ?_ | refine wpSs_nl ?_); (try conv => whnf)))
    refine ⟨_, _, .refl, ?_⟩
    first
      | exact h
      | (rw [e]; exact h)
/-- is_line -/
theorem isLine (ev : Ev G) {j : Nat} {L : List Li} {x : DL.D} (hS : S[j]? = some (.lst (L.map oD))) (hx : Ob x) (h : Q (.bl (lineD L x)) S) : CallP G (k + 2) nx_is_line [x, .ref j] S Q E := by
  refine call_is_line ev rfl ?_
  ((try conv => whnf); repeat ((first | refine ⟨_, rfl, ?_⟩ | refine ⟨rfl, ?_⟩ | refine ⟨_, ix_head, ?_⟩ | refine ⟨⟨rfl, rfl⟩, ?_⟩ | refine iteW_t ?_ | refine iteW_f ?_ | refine wpSs_nl ?_); (try conv => whnf)))
  refine isWhole (k := k) ev hx ?_
  ((try conv => whnf); repeat ((first | refine ⟨_, rfl, ?_⟩ | refine ⟨rfl, ?_⟩ | refine ⟨_, ix_head, ?_⟩ | refine ⟨⟨rfl, rfl⟩, ?_⟩ | refine iteW_t ?_ | refine iteW_f ?_ | refine wpSs_nl ?_); (try conv => whnf)))
  refine iteW_i (fun hb => ?_) fun hb => ?_
  · cases hx with
    | int z =>
      ((try conv => whnf); repeat ((first | refine ⟨_, rfl, ?_⟩ | refine ⟨rfl, ?_⟩ | refine ⟨_, ix_head, ?_⟩ | refine ⟨⟨rfl, rfl⟩, ?_⟩ | refine iteW_t ?_ | refine iteW_f ?_ | refine wpSs_nl ?_); (try conv => whnf)))
      rw [hS]
      ((try conv => whnf); repeat ((first | refine ⟨_, rfl, ?_⟩ | refine ⟨rfl, ?_⟩ | refine ⟨_, ix_head, ?_⟩ | refine ⟨⟨rfl, rfl⟩, ?_⟩ | refine iteW_t ?_ | refine iteW_f ?_ | refine wpSs_nl ?_); (try conv => whnf)))
      rw [List.length_map]
      refine ⟨_, _, .refl, ?_⟩
      have : lineD L (.int z) = decide (z < L.length) := by unfold lineD; rw [hb]; rfl
      rw [this] at h
      exact h
    | _ => cases hb
  · ((try conv => whnf); repeat ((first | refine ⟨_, rfl, ?_⟩ | refine ⟨rfl, ?_⟩ | refine ⟨_, ix_head, ?_⟩ | refine ⟨⟨rfl, rfl⟩, ?_⟩ | refine iteW_t ?_ | refine iteW_f ?_ | refine wpSs_nl ?_); (try conv => whnf)))
    refine ⟨_, _, .refl, ?_⟩
    have : lineD L x = false := by unfold lineD; rw [hb]; rfl
    rw [← this]
    exact h
theorem row2 {x : DL.D} (h : rowD 2 x = true) : ∃ a b, seqD x = some [a, b] := by
  unfold rowD at h
  cases e : seqD x with
  | none => rw [e] at h; cases h
  | some xs =>
    rw [e] at h
    match xs, of_decide_eq_true h with
    | [a, b], _ => exact ⟨a, b, rfl⟩
theorem row3 {x : DL.D} (h : rowD 3 x = true) : ∃ a b c, seqD x = some [a, b, c] := by
  unfold rowD at h
  cases e : seqD x with
  | none => rw [e] at h; cases h
  | some xs =>
    rw [e] at h
    match xs, of_decide_eq_true h with
    | [a, b, c], _ => exact ⟨a, b, c, rfl⟩
theorem row4 {x : DL.D} (h : rowD 4 x = true) : ∃ a b c d, seqD x = some [a, b, c, d] := by
  unfold rowD at h
  cases e : seqD x with
  | none => rw [e] at h; cases h
  | some xs =>
    rw [e] at h
    match xs, of_decide_eq_true h with
    | [a, b, c, d], _ => exact ⟨a, b, c, d, rfl⟩
theorem add_row {L : List Li} {x : DL.D} (h : rowD 2 x = false) : addOk L x = false := by
  unfold addOk
  unfold rowD at h
  split
  · rename_i e
    rw [e] at h
    cases h
  · rfl
theorem cut_row {L : List Li} {x : DL.D} (h : rowD 3 x = false) : cutOk L x = false := by
  unfold cutOk
  unfold rowD at h
  split
  · rename_i e
    rw [e] at h
    cases h
  · rfl
theorem pair_row {L : List Li} {x : DL.D} (h : rowD 2 x = false) : pairOk L x = false := by
  unfold pairOk
  unfold rowD at h
  split
  · rename_i e
    rw [e] at h
    cases h
  · rfl
/-- is_adding -/
theorem isAdding (ev : Ev G) {j : Nat} {L : List Li} {x : DL.D} (hS : S[j]? = some (.lst (L.map oD))) (hx : Ob x) (hh : ∀ a r, seqD x = some (a :: r) → Atm a) (h : Q (.bl (addOk L x)) S) : CallP G (k + 3) nx_is_adding [x, .ref j] S Q E := by
  cases hr : rowD 2 x with
  | false =>
    refine call_is_adding ev rfl ?_
    ((try conv => whnf); repeat ((first | refine ⟨_, rfl, ?_⟩ | refine ⟨rfl, ?_⟩ | refine ⟨_, ix_head, ?_⟩ | refine ⟨⟨rfl, rfl⟩, ?_⟩ | refine iteW_t ?_ | refine iteW_f ?_ | refine wpSs_nl ?_); (try conv => whnf)))
    refine isRow (n := 2) (k := k + 1) ev hx ?_
    rw [hr]
    ((try conv => whnf); repeat ((first | refine ⟨_, rfl, ?_⟩ | refine ⟨rfl, ?_⟩ | refine ⟨_, ix_head, ?_⟩ | refine ⟨⟨rfl, rfl⟩, ?_⟩ | refine iteW_t ?_ | refine iteW_f ?_ | refine wpSs_nl ?_); (try conv => whnf)))
    rw [add_row hr] at h
    exact ⟨_, _, .refl, h⟩
  | true =>
    obtain ⟨a, y, hs⟩ := row2 hr
    have ha := hh a [y] hs
    have hy : Ob y := hx.mem hs y (by simp)
    have hval : addOk L x = (isS [97, 100, 100] a && (match seqD y with
      | some ps => !ps.isEmpty && ps.all (pairOk L)
      | none => false)) := by unfold addOk; rw [hs] <;> rfl
    rw [hval] at h
    cases ha with
    | str s =>
      rcases Ob.sq hs with rfl | rfl
      all_goals
        refine call_is_adding ev rfl ?_
        ((try conv => whnf); repeat ((first | refine ⟨_, rfl, ?_⟩ | refine ⟨rfl, ?_⟩ | refine ⟨_, ix_head, ?_⟩ | refine ⟨⟨rfl, rfl⟩, ?_⟩ | refine iteW_t ?_ | refine iteW_f ?_ | refine wpSs_nl ?_); (try conv => whnf)))
        refine isRow (n := 2) (k := k + 1) ev hx ?_
        ((try conv => whnf); repeat ((first | refine ⟨_, rfl, ?_⟩ | refine ⟨rfl, ?_⟩ | refine ⟨_, ix_head, ?_⟩ | refine ⟨⟨rfl, rfl⟩, ?_⟩ | refine iteW_t ?_ | refine iteW_f ?_ | refine wpSs_nl ?_); (try conv => whnf)))
        cases hA : isS [97, 100, 100] (.str s) with
        | false =>
          have hA' : decide (s = [97, 100, 100]) = false := hA
          rw [hA, Bool.false_and] at h
          rw [hA']
          ((try conv => whnf); repeat ((first | refine ⟨_, rfl, ?_⟩ | refine ⟨rfl, ?_⟩ | refine ⟨_, ix_head, ?_⟩ | refine ⟨⟨rfl, rfl⟩, ?_⟩ | refine iteW_t ?_ | refine iteW_f ?_ | refine wpSs_nl ?_); (try conv => whnf)))
          exact ⟨_, _, .refl, h⟩
        | true =>
          have hA' : decide (s = [97, 100, 100]) = true := hA
          rw [hA, Bool.true_and] at h
          rw [hA']
          ((try conv => whnf); repeat ((first | refine ⟨_, rfl, ?_⟩ | refine ⟨rfl, ?_⟩ | refine ⟨_, ix_head, ?_⟩ | refine ⟨⟨rfl, rfl⟩, ?_⟩ | refine iteW_t ?_ | refine iteW_f ?_ | refine wpSs_nl ?_); (try conv => whnf)))
          cases hq : seqD y with
          | none =>
            rw [hq] at h
            cases hy
            all_goals first
              | cases hq
              | skip
            all_goals
              ((try conv => whnf); repeat ((first | refine ⟨_, rfl, ?_⟩ | refine ⟨rfl, ?_⟩ | refine ⟨_, ix_head, ?_⟩ | refine ⟨⟨rfl, rfl⟩, ?_⟩ | refine iteW_t ?_ | refine iteW_f ?_ | refine wpSs_nl ?_); (try conv => whnf)))
              exact ⟨_, _, .refl, h⟩
          | some ps =>
            rw [hq] at h
            have hm := hy.mem hq
            rcases Ob.sq hq with rfl | rfl
            all_goals
              ((try conv => whnf); repeat ((first | refine ⟨_, rfl, ?_⟩ | refine ⟨rfl, ?_⟩ | refine ⟨_, ix_head, ?_⟩ | refine ⟨⟨rfl, rfl⟩, ?_⟩ | refine iteW_t ?_ | refine iteW_f ?_ | refine wpSs_nl ?_); (try conv => whnf)))
              refine iteW_d (fun h0 => ?_) fun h0 => ?_
              · have e0 : ps = [] := by
                  cases ps with
                  | nil => rfl
                  | cons a r => simp at h0; omega
                subst e0
                ((try conv => whnf); repeat ((first | refine ⟨_, rfl, ?_⟩ | refine ⟨rfl, ?_⟩ | refine ⟨_, ix_head, ?_⟩ | refine ⟨⟨rfl, rfl⟩, ?_⟩ | refine iteW_t ?_ | refine iteW_f ?_ | refine wpSs_nl ?_); (try conv => whnf)))
                exact ⟨_, _, .refl, h⟩
              · have hne : ps ≠ [] := fun e => h0 (by rw [e]; rfl)
                ((try conv => whnf); repeat ((first | refine ⟨_, rfl, ?_⟩ | refine ⟨rfl, ?_⟩ | refine ⟨_, ix_head, ?_⟩ | refine ⟨⟨rfl, rfl⟩, ?_⟩ | refine iteW_t ?_ | refine iteW_f ?_ | refine wpSs_nl ?_); (try conv => whnf)))
                refine for_ind (fun its τ S' => S' = S ∧ ∃ (pre : List DL.D) (t0 t1 s2 : Option DL.D), ps = pre ++ its ∧ (∀ q ∈ pre, pairOk L q = true) ∧ τ = [t0, some (.ref j), s2]) ?_ ?_ _ _ _ ⟨rfl, [], _, none, none, rfl, fun q hq => absurd hq List.not_mem_nil, rfl⟩
                · rintro τ S' ⟨rfl, pre, t0, t1, s2, e, hp, rfl⟩
                  rw [List.append_nil] at e
                  subst e
                  refine ⟨trivial, ?_⟩
                  ((try conv => whnf); repeat ((first | refine ⟨_, rfl, ?_⟩ | refine ⟨rfl, ?_⟩ | refine ⟨_, ix_head, ?_⟩ | refine ⟨⟨rfl, rfl⟩, ?_⟩ | refine iteW_t ?_ | refine iteW_f ?_ | refine wpSs_nl ?_); (try conv => whnf)))
                  have h1 : (!ps.isEmpty && ps.all (pairOk L)) = true := by
                    rw [Bool.and_eq_true, List.all_eq_true]
                    exact ⟨by cases ps with | nil => exact absurd rfl hne | cons a r => rfl, hp⟩
                  have h : Q (.bl (!ps.isEmpty && ps.all (pairOk L))) S' := h
                  rw [h1] at h
                  exact ⟨_, _, .refl, h⟩
                · rintro q its τ S' Nx hN ⟨rfl, pre, t0, t1, s2, e, hp, rfl⟩
                  have hoq := hm q (by rw [e]; simp)
                  have bad : pairOk L q = false → Q (.bl false) S' := fun hb => by
                    have h1 : (!ps.isEmpty && ps.all (pairOk L)) = false := by
                      have : ps.all (pairOk L) = false := by
                        rw [List.all_eq_false]
                        exact ⟨q, by rw [e]; simp, by rw [hb]; simp⟩
                      rw [this, Bool.and_false]
                    have h : Q (.bl (!ps.isEmpty && ps.all (pairOk L))) S' := h
                    rw [h1] at h
                    exact h
                  refine ⟨trivial, ?_⟩
                  ((try conv => whnf); repeat ((first | refine ⟨_, rfl, ?_⟩ | refine ⟨rfl, ?_⟩ | refine ⟨_, ix_head, ?_⟩ | refine ⟨⟨rfl, rfl⟩, ?_⟩ | refine iteW_t ?_ | refine iteW_f ?_ | refine wpSs_nl ?_); (try conv => whnf)))
                  refine isRow (n := 2) (k := k + 1) ev hoq ?_
                  cases hr2 : rowD 2 q with
                  | false =>
                    ((try conv => whnf); repeat ((first | refine ⟨_, rfl, ?_⟩ | refine ⟨rfl, ?_⟩ | refine ⟨_, ix_head, ?_⟩ | refine ⟨⟨rfl, rfl⟩, ?_⟩ | refine iteW_t ?_ | refine iteW_f ?_ | refine wpSs_nl ?_); (try conv => whnf)))
                    exact ⟨_, _, .refl, bad (pair_row hr2)⟩
                  | true =>
                    obtain ⟨u, v, hs2⟩ := row2 hr2
                    have hu := hoq.mem hs2 u (by simp)
                    have hv := hoq.mem hs2 v (by simp)
                    have e2 : pairOk L q = (wholeD 1 u && lineD L v) := by unfold pairOk; rw [hs2]
                    rcases Ob.sq hs2 with rfl | rfl
                    all_goals
                      ((try conv => whnf); repeat ((first | refine ⟨_, rfl, ?_⟩ | refine ⟨rfl, ?_⟩ | refine ⟨_, ix_head, ?_⟩ | refine ⟨⟨rfl, rfl⟩, ?_⟩ | refine iteW_t ?_ | refine iteW_f ?_ | refine wpSs_nl ?_); (try conv => whnf)))
                      refine isWhole (k := k + 1) ev hu ?_
                      cases hw : wholeD 1 u with
                      | false =>
                        ((try conv => whnf); repeat ((first | refine ⟨_, rfl, ?_⟩ | refine ⟨rfl, ?_⟩ | refine ⟨_, ix_head, ?_⟩ | refine ⟨⟨rfl, rfl⟩, ?_⟩ | refine iteW_t ?_ | refine iteW_f ?_ | refine wpSs_nl ?_); (try conv => whnf)))
                        exact ⟨_, _, .refl, bad (by rw [e2, hw]; rfl)⟩
                      | true =>
                        ((try conv => whnf); repeat ((first | refine ⟨_, rfl, ?_⟩ | refine ⟨rfl, ?_⟩ | refine ⟨_, ix_head, ?_⟩ | refine ⟨⟨rfl, rfl⟩, ?_⟩ | refine iteW_t ?_ | refine iteW_f ?_ | refine wpSs_nl ?_); (try conv => whnf)))
                        refine isLine (k := k) ev hS hv ?_
                        cases hw2 : lineD L v with
                        | false =>
                          ((try conv => whnf); repeat ((first | refine ⟨_, rfl, ?_⟩ | refine ⟨rfl, ?_⟩ | refine ⟨_, ix_head, ?_⟩ | refine ⟨⟨rfl, rfl⟩, ?_⟩ | refine iteW_t ?_ | refine iteW_f ?_ | refine wpSs_nl ?_); (try conv => whnf)))
                          exact ⟨_, _, .refl, bad (by rw [e2, hw, hw2]; rfl)⟩
                        | true =>
                          ((try conv => whnf); repeat ((first | refine ⟨_, rfl, ?_⟩ | refine ⟨rfl, ?_⟩ | refine ⟨_, ix_head, ?_⟩ | refine ⟨⟨rfl, rfl⟩, ?_⟩ | refine iteW_t ?_ | refine iteW_f ?_ | refine wpSs_nl ?_); (try conv => whnf)))
                          refine hN _ _ ⟨_, _, .refl, rfl, pre ++ [_], _, none, _, by rw [e, List.append_assoc]; rfl, fun z hz => ?_, rfl⟩
                          rcases List.mem_append.mp hz with hz | hz
                          · exact hp z hz
                          · rw [List.mem_singleton.mp hz, e2, hw, hw2]; rfl
    | _ =>
      rcases Ob.sq hs with rfl | rfl
      all_goals
        refine call_is_adding ev rfl ?_
        ((try conv => whnf); repeat ((first | refine ⟨_, rfl, ?_⟩ | refine ⟨rfl, ?_⟩ | refine ⟨_, ix_head, ?_⟩ | refine ⟨⟨rfl, rfl⟩, ?_⟩ | refine iteW_t ?_ | refine iteW_f ?_ | refine wpSs_nl ?_); (try conv => whnf)))
        refine isRow (n := 2) (k := k + 1) ev hx ?_
        ((try conv => whnf); repeat ((first | refine ⟨_, rfl, ?_⟩ | refine ⟨rfl, ?_⟩ | refine ⟨_, ix_head, ?_⟩ | refine ⟨⟨rfl, rfl⟩, ?_⟩ | refine iteW_t ?_ | refine iteW_f ?_ | refine wpSs_nl ?_); (try conv => whnf)))
        refine ⟨⟨rfl, rfl, Nat.zero_le _⟩, ?_⟩
        ((try conv => whnf); repeat ((first | refine ⟨_, rfl, ?_⟩ | refine ⟨rfl, ?_⟩ | refine ⟨_, ix_head, ?_⟩ | refine ⟨⟨rfl, rfl⟩, ?_⟩ | refine iteW_t ?_ | refine iteW_f ?_ | refine wpSs_nl ?_); (try conv => whnf)))
        exact ⟨_, _, .refl, h⟩
end
end K37

set_option maxHeartbeats 1000000
namespace K37
open PySem PySem.Spec PyProof.Rows L2 DL SA
theorem lineD_int {L : List Li} {x : DL.D} (h : lineD L x = true) : ∃ z : Int, x = .int z ∧ 0 ≤ z ∧ z < L.length := by
  unfold lineD at h
  rw [Bool.and_eq_true] at h
  cases x with
  | int z => exact ⟨z, rfl, of_decide_eq_true h.1, of_decide_eq_true h.2⟩
  | _ => exact absurd h.1 Bool.false_ne_true
theorem wholeD_int {l : Int} {x : DL.D} (h : wholeD l x = true) : ∃ z : Int, x = .int z ∧ l ≤ z := by
  cases x with
  | int z => exact ⟨z, rfl, of_decide_eq_true h⟩
  | _ => cases h
section
variable {G : Gd} {k : Nat} {S : Store} {Q E : QD} {args : List DL.D}
/-- is_cutting -/
theorem isCutting (ev : Ev G) {j : Nat} {L : List Li} {x : DL.D} (hS : S[j]? = some (.lst (L.map oD))) (hL : ∀ o ∈ L, Lk o) (hx : Ob x) (hh : ∀ a r, seqD x = some (a :: r) → Atm a) (h : Q (.bl (cutOk L x)) S) : CallP G (k + 3) nx_is_cutting [x, .ref j] S Q E := by
  cases hr : rowD 3 x with
  | false =>
    refine call_is_cutting ev rfl ?_
    ((try conv => whnf); repeat ((first | refine ⟨_, rfl, ?_⟩ | refine ⟨rfl, ?_⟩ | refine ⟨_, ix_head, ?_⟩ | refine ⟨⟨rfl, rfl⟩, ?_⟩ | refine iteW_t ?_ | refine iteW_f ?_ | refine wpSs_nl ?_); (try conv => whnf)))
    refine isRow (n := 3) (k := k + 1) ev hx ?_
    rw [hr]
    ((try conv => whnf); repeat ((first | refine ⟨_, rfl, ?_⟩ | refine ⟨rfl, ?_⟩ | refine ⟨_, ix_head, ?_⟩ | refine ⟨⟨rfl, rfl⟩, ?_⟩ | refine iteW_t ?_ | refine iteW_f ?_ | refine wpSs_nl ?_); (try conv => whnf)))
    rw [cut_row hr] at h
    exact ⟨_, _, .refl, h⟩
  | true =>
    obtain ⟨a, y, w, hs⟩ := row3 hr
    have ha := hh a _ hs
    have hy : Ob y := hx.mem hs y (by simp)
    have hw : Ob w := hx.mem hs w (by simp)
    have hval : cutOk L x = (isS [99, 117, 116] a && (lineD L y && (wholeD 1 w && (getL L (intD y)).1.all fun z => decide (z.2 % intD w = 0)))) := by unfold cutOk; rw [hs]
    rw [hval] at h
    cases ha with
    | str s =>
      rcases Ob.sq hs with rfl | rfl
      all_goals
        refine call_is_cutting ev rfl ?_
        ((try conv => whnf); repeat ((first | refine ⟨_, rfl, ?_⟩ | refine ⟨rfl, ?_⟩ | refine ⟨_, ix_head, ?_⟩ | refine ⟨⟨rfl, rfl⟩, ?_⟩ | refine iteW_t ?_ | refine iteW_f ?_ | refine wpSs_nl ?_); (try conv => whnf)))
        refine isRow (n := 3) (k := k + 1) ev hx ?_
        ((try conv => whnf); repeat ((first | refine ⟨_, rfl, ?_⟩ | refine ⟨rfl, ?_⟩ | refine ⟨_, ix_head, ?_⟩ | refine ⟨⟨rfl, rfl⟩, ?_⟩ | refine iteW_t ?_ | refine iteW_f ?_ | refine wpSs_nl ?_); (try conv => whnf)))
        cases hA : isS [99, 117, 116] (.str s) with
        | false =>
          have hA' : decide (s = [99, 117, 116]) = false := hA
          rw [hA, Bool.false_and] at h
          rw [hA']
          ((try conv => whnf); repeat ((first | refine ⟨_, rfl, ?_⟩ | refine ⟨rfl, ?_⟩ | refine ⟨_, ix_head, ?_⟩ | refine ⟨⟨rfl, rfl⟩, ?_⟩ | refine iteW_t ?_ | refine iteW_f ?_ | refine wpSs_nl ?_); (try conv => whnf)))
          exact ⟨_, _, .refl, h⟩
        | true =>
          have hA' : decide (s = [99, 117, 116]) = true := hA
          rw [hA, Bool.true_and] at h
          rw [hA']
          ((try conv => whnf); repeat ((first | refine ⟨_, rfl, ?_⟩ | refine ⟨rfl, ?_⟩ | refine ⟨_, ix_head, ?_⟩ | refine ⟨⟨rfl, rfl⟩, ?_⟩ | refine iteW_t ?_ | refine iteW_f ?_ | refine wpSs_nl ?_); (try conv => whnf)))
          refine isLine (k := k) ev hS hy ?_
          cases hl : lineD L y with
          | false =>
            ((try conv => whnf); repeat ((first | refine ⟨_, rfl, ?_⟩ | refine ⟨rfl, ?_⟩ | refine ⟨_, ix_head, ?_⟩ | refine ⟨⟨rfl, rfl⟩, ?_⟩ | refine iteW_t ?_ | refine iteW_f ?_ | refine wpSs_nl ?_); (try conv => whnf)))
            rw [hl] at h
            exact ⟨_, _, .refl, h⟩
          | true =>
            rw [hl, Bool.true_and] at h
            ((try conv => whnf); repeat ((first | refine ⟨_, rfl, ?_⟩ | refine ⟨rfl, ?_⟩ | refine ⟨_, ix_head, ?_⟩ | refine ⟨⟨rfl, rfl⟩, ?_⟩ | refine iteW_t ?_ | refine iteW_f ?_ | refine wpSs_nl ?_); (try conv => whnf)))
            refine isWhole (k := k + 1) ev hw ?_
            cases hv : wholeD 1 w with
            | false =>
              ((try conv => whnf); repeat ((first | refine ⟨_, rfl, ?_⟩ | refine ⟨rfl, ?_⟩ | refine ⟨_, ix_head, ?_⟩ | refine ⟨⟨rfl, rfl⟩, ?_⟩ | refine iteW_t ?_ | refine iteW_f ?_ | refine wpSs_nl ?_); (try conv => whnf)))
              rw [hv] at h
              exact ⟨_, _, .refl, h⟩
            | true =>
              rw [hv, Bool.true_and] at h
              obtain ⟨l, rfl, l0, l1⟩ := lineD_int hl
              obtain ⟨b, rfl, b1⟩ := wholeD_int hv
              obtain ⟨lk, hg⟩ := getL_lk hL l0 l1
              ((try conv => whnf); repeat ((first | refine ⟨_, rfl, ?_⟩ | refine ⟨rfl, ?_⟩ | refine ⟨_, ix_head, ?_⟩ | refine ⟨⟨rfl, rfl⟩, ?_⟩ | refine iteW_t ?_ | refine iteW_f ?_ | refine wpSs_nl ?_); (try conv => whnf)))
              rw [hS]
              ((try conv => whnf); repeat ((first | refine ⟨_, rfl, ?_⟩ | refine ⟨rfl, ?_⟩ | refine ⟨_, ix_head, ?_⟩ | refine ⟨⟨rfl, rfl⟩, ?_⟩ | refine iteW_t ?_ | refine iteW_f ?_ | refine wpSs_nl ?_); (try conv => whnf)))
              refine ⟨oD (getL L l), ?_, ?_⟩
              · exact ix_map oD l0 hg
              ((try conv => whnf); repeat ((first | refine ⟨_, rfl, ?_⟩ | refine ⟨rfl, ?_⟩ | refine ⟨_, ix_head, ?_⟩ | refine ⟨⟨rfl, rfl⟩, ?_⟩ | refine iteW_t ?_ | refine iteW_f ?_ | refine wpSs_nl ?_); (try conv => whnf)))
              refine for_at pr (getL L l).1 (fun p τ S' => S' = S ∧ (∀ q ∈ p, q.2 % b = 0) ∧ ∃ t0 s2 s3, τ = [some t0, some (.ref j), s2, s3] ∧ (seqD t0 = some [.str s, .int l, .int b] ∧ (t0 = .tup [.str s, .int l, .int b] ∨ t0 = .lst [.str s, .int l, .int b]))) ⟨rfl, by simp, _, none, none, rfl, rfl, by first | exact .inl rfl | exact .inr rfl⟩ ?_ ?_
              · rintro τ S' ⟨rfl, hp, t0, s2, s3, rfl, -⟩
                have h1 : ((getL L l).1.all fun z => decide (z.2 % b = 0)) = true := by
                  rw [List.all_eq_true]
                  exact fun q hq => decide_eq_true (hp q hq)
                have h : Q (.bl ((getL L l).1.all fun z => decide (z.2 % b = 0))) S' := h
                rw [h1] at h
                refine ⟨trivial, ?_⟩
                ((try conv => whnf); repeat ((first | refine ⟨_, rfl, ?_⟩ | refine ⟨rfl, ?_⟩ | refine ⟨_, ix_head, ?_⟩ | refine ⟨⟨rfl, rfl⟩, ?_⟩ | refine iteW_t ?_ | refine iteW_f ?_ | refine wpSs_nl ?_); (try conv => whnf)))
                exact ⟨_, _, .refl, h⟩
              · rintro p q r τ S' Nx e hN ⟨rfl, hp, t0, s2, s3, rfl, ht, ht2⟩
                rcases ht2 with rfl | rfl
                all_goals
                  refine ⟨trivial, ?_⟩
                  ((try conv => whnf); repeat ((first | refine ⟨_, rfl, ?_⟩ | refine ⟨rfl, ?_⟩ | refine ⟨_, ix_head, ?_⟩ | refine ⟨⟨rfl, rfl⟩, ?_⟩ | refine iteW_t ?_ | refine iteW_f ?_ | refine wpSs_nl ?_); (try conv => whnf)))
                  refine ⟨by omega, ?_⟩
                  ((try conv => whnf); repeat ((first | refine ⟨_, rfl, ?_⟩ | refine ⟨rfl, ?_⟩ | refine ⟨_, ix_head, ?_⟩ | refine ⟨⟨rfl, rfl⟩, ?_⟩ | refine iteW_t ?_ | refine iteW_f ?_ | refine wpSs_nl ?_); (try conv => whnf)))
                  refine iteW_i (fun hb => ?_) fun hb => ?_
                  · have hne : ¬ q.2 % b = 0 := by simpa using hb
                    have h1 : ((getL L l).1.all fun z => decide (z.2 % b = 0)) = false := by
                      rw [List.all_eq_false]
                      exact ⟨q, by rw [e]; simp, by simpa using hne⟩
                    have h : Q (.bl ((getL L l).1.all fun z => decide (z.2 % b = 0))) S' := h
                    rw [h1] at h
                    ((try conv => whnf); repeat ((first | refine ⟨_, rfl, ?_⟩ | refine ⟨rfl, ?_⟩ | refine ⟨_, ix_head, ?_⟩ | refine ⟨⟨rfl, rfl⟩, ?_⟩ | refine iteW_t ?_ | refine iteW_f ?_ | refine wpSs_nl ?_); (try conv => whnf)))
                    exact ⟨_, _, .refl, h⟩
                  · have he : q.2 % b = 0 := by simpa using hb
                    ((try conv => whnf); repeat ((first | refine ⟨_, rfl, ?_⟩ | refine ⟨rfl, ?_⟩ | refine ⟨_, ix_head, ?_⟩ | refine ⟨⟨rfl, rfl⟩, ?_⟩ | refine iteW_t ?_ | refine iteW_f ?_ | refine wpSs_nl ?_); (try conv => whnf)))
                    refine hN _ _ ⟨_, _, .refl, rfl, fun z hz => ?_, _, some (.str q.1), some (.int q.2), rfl, rfl, by first | exact .inl rfl | exact .inr rfl⟩
                    rcases List.mem_append.mp hz with hz | hz
                    · exact hp z hz
                    · rw [List.mem_singleton.mp hz]; exact he
    | _ =>
      rcases Ob.sq hs with rfl | rfl
      all_goals
        refine call_is_cutting ev rfl ?_
        ((try conv => whnf); repeat ((first | refine ⟨_, rfl, ?_⟩ | refine ⟨rfl, ?_⟩ | refine ⟨_, ix_head, ?_⟩ | refine ⟨⟨rfl, rfl⟩, ?_⟩ | refine iteW_t ?_ | refine iteW_f ?_ | refine wpSs_nl ?_); (try conv => whnf)))
        refine isRow (n := 3) (k := k + 1) ev hx ?_
        ((try conv => whnf); repeat ((first | refine ⟨_, rfl, ?_⟩ | refine ⟨rfl, ?_⟩ | refine ⟨_, ix_head, ?_⟩ | refine ⟨⟨rfl, rfl⟩, ?_⟩ | refine iteW_t ?_ | refine iteW_f ?_ | refine wpSs_nl ?_); (try conv => whnf)))
        refine ⟨⟨rfl, rfl, Nat.zero_le _⟩, ?_⟩
        ((try conv => whnf); repeat ((first | refine ⟨_, rfl, ?_⟩ | refine ⟨rfl, ?_⟩ | refine ⟨_, ix_head, ?_⟩ | refine ⟨⟨rfl, rfl⟩, ?_⟩ | refine iteW_t ?_ | refine iteW_f ?_ | refine wpSs_nl ?_); (try conv => whnf)))
        exact ⟨_, _, .refl, h⟩
theorem parts_row {x : DL.D} (h : rowD 4 x = false) : parts x = none := by
  unfold parts
  unfold rowD at h
  split
  · rename_i e
    rw [e] at h
    cases h
  · rfl
theorem liD_ob {x : DL.D} (h : Ob x) : (∃ o, x = oD o ∧ Lk o) ∨ liD x = none := by
  cases h with
  | sum h => exact .inl ⟨_, rfl, h⟩
  | _ => exact .inr rfl
/-- is_parting -/
theorem isParting (ev : Ev G) {x : DL.D} (hx : Ob x) (hh : ∀ a r, seqD x = some (a :: r) → Atm a) (h : Q (.bl (parts x).isSome) S) : CallP G (k + 2) nx_is_parting [x] S Q E := by
  cases hr : rowD 4 x with
  | false =>
    refine call_is_parting ev rfl ?_
    ((try conv => whnf); repeat ((first | refine ⟨_, rfl, ?_⟩ | refine ⟨rfl, ?_⟩ | refine ⟨_, ix_head, ?_⟩ | refine ⟨⟨rfl, rfl⟩, ?_⟩ | refine iteW_t ?_ | refine iteW_f ?_ | refine wpSs_nl ?_); (try conv => whnf)))
    refine isRow (n := 4) (k := k) ev hx ?_
    rw [hr]
    ((try conv => whnf); repeat ((first | refine ⟨_, rfl, ?_⟩ | refine ⟨rfl, ?_⟩ | refine ⟨_, ix_head, ?_⟩ | refine ⟨⟨rfl, rfl⟩, ?_⟩ | refine iteW_t ?_ | refine iteW_f ?_ | refine wpSs_nl ?_); (try conv => whnf)))
    rw [parts_row hr] at h
    exact ⟨_, _, .refl, h⟩
  | true =>
    obtain ⟨a, t, p, q, hs⟩ := row4 hr
    have ha := hh a _ hs
    have ht : Ob t := hx.mem hs t (by simp)
    have hval : parts x = (match isS [115, 112, 108, 105, 116] a, liD t with
      | true, some o => some (o, p, q)
      | _, _ => none) := by unfold parts; rw [hs] <;> rfl
    rw [hval] at h
    cases ha with
    | str s =>
      rcases Ob.sq hs with rfl | rfl
      all_goals
        refine call_is_parting ev rfl ?_
        ((try conv => whnf); repeat ((first | refine ⟨_, rfl, ?_⟩ | refine ⟨rfl, ?_⟩ | refine ⟨_, ix_head, ?_⟩ | refine ⟨⟨rfl, rfl⟩, ?_⟩ | refine iteW_t ?_ | refine iteW_f ?_ | refine wpSs_nl ?_); (try conv => whnf)))
        refine isRow (n := 4) (k := k) ev hx ?_
        ((try conv => whnf); repeat ((first | refine ⟨_, rfl, ?_⟩ | refine ⟨rfl, ?_⟩ | refine ⟨_, ix_head, ?_⟩ | refine ⟨⟨rfl, rfl⟩, ?_⟩ | refine iteW_t ?_ | refine iteW_f ?_ | refine wpSs_nl ?_); (try conv => whnf)))
        cases hA : isS [115, 112, 108, 105, 116] (.str s) with
        | false =>
          have hA' : decide (s = [115, 112, 108, 105, 116]) = false := hA
          rw [hA] at h
          rw [hA']
          ((try conv => whnf); repeat ((first | refine ⟨_, rfl, ?_⟩ | refine ⟨rfl, ?_⟩ | refine ⟨_, ix_head, ?_⟩ | refine ⟨⟨rfl, rfl⟩, ?_⟩ | refine iteW_t ?_ | refine iteW_f ?_ | refine wpSs_nl ?_); (try conv => whnf)))
          exact ⟨_, _, .refl, h⟩
        | true =>
          have hA' : decide (s = [115, 112, 108, 105, 116]) = true := hA
          rw [hA] at h
          rw [hA']
          cases ht with
          | sum hk =>
            ((try conv => whnf); repeat ((first | refine ⟨_, rfl, ?_⟩ | refine ⟨rfl, ?_⟩ | refine ⟨_, ix_head, ?_⟩ | refine ⟨⟨rfl, rfl⟩, ?_⟩ | refine iteW_t ?_ | refine iteW_f ?_ | refine wpSs_nl ?_); (try conv => whnf)))
            exact ⟨_, _, .refl, h⟩
          | _ =>
            ((try conv => whnf); repeat ((first | refine ⟨_, rfl, ?_⟩ | refine ⟨rfl, ?_⟩ | refine ⟨_, ix_head, ?_⟩ | refine ⟨⟨rfl, rfl⟩, ?_⟩ | refine iteW_t ?_ | refine iteW_f ?_ | refine wpSs_nl ?_); (try conv => whnf)))
            exact ⟨_, _, .refl, h⟩
    | _ =>
      rcases Ob.sq hs with rfl | rfl
      all_goals
        refine call_is_parting ev rfl ?_
        ((try conv => whnf); repeat ((first | refine ⟨_, rfl, ?_⟩ | refine ⟨rfl, ?_⟩ | refine ⟨_, ix_head, ?_⟩ | refine ⟨⟨rfl, rfl⟩, ?_⟩ | refine iteW_t ?_ | refine iteW_f ?_ | refine wpSs_nl ?_); (try conv => whnf)))
        refine isRow (n := 4) (k := k) ev hx ?_
        ((try conv => whnf); repeat ((first | refine ⟨_, rfl, ?_⟩ | refine ⟨rfl, ?_⟩ | refine ⟨_, ix_head, ?_⟩ | refine ⟨⟨rfl, rfl⟩, ?_⟩ | refine iteW_t ?_ | refine iteW_f ?_ | refine wpSs_nl ?_); (try conv => whnf)))
        refine ⟨⟨rfl, rfl, Nat.zero_le _⟩, ?_⟩
        ((try conv => whnf); repeat ((first | refine ⟨_, rfl, ?_⟩ | refine ⟨rfl, ?_⟩ | refine ⟨_, ix_head, ?_⟩ | refine ⟨⟨rfl, rfl⟩, ?_⟩ | refine iteW_t ?_ | refine iteW_f ?_ | refine wpSs_nl ?_); (try conv => whnf)))
        exact ⟨_, _, .refl, h⟩
end
end K37

set_option maxHeartbeats 1000000
namespace K37
open PySem PySem.Spec PyProof.Rows L2 DL SA
theorem addX_snoc (L : List Li) (a : List (Int × Int)) (q : Int × Int) : addX L (a ++ [q]) = addX L a ++ scl q.1 (getL L q.2).1 := by
  unfold addX
  simp
theorem addN_snoc (L : List Li) (q : Int × Int) : ∀ a : List (Int × Int), addN L (a ++ [q]) = addN L a + q.1 * (getL L q.2).2
  | [] => by simp [addN]
  | p :: a => by
    simp only [List.cons_append, addN, addN_snoc L q a]
    omega
theorem gat_app2 (a b : KV) : gat (gat a ++ gat b) = gat (a ++ b) := gat_congr fun x => by rw [tot_append, tot_append, gat_tot, gat_tot]
theorem eqD_nil (a : KV) : eqD (.tup (a.map pr)) (.tup []) = a.isEmpty := by cases a <;> rfl
theorem isPys_pr : ∀ ps : KV, isPys (ps.map pr) = true
  | [] => rfl
  | p :: r => by
    show (true && isPys (r.map pr)) = true
    rw [isPys_pr r]; rfl
theorem deps_pr : ∀ ps : KV, deps (ps.map pr) ≤ 1
  | [] => by decide
  | p :: r => by
    show max 1 (deps (r.map pr)) ≤ 1
    have := deps_pr r
    omega
theorem isS_eq {s : Tx} {x : DL.D} (h : isS s x = true) : x = .str s := by
  cases x with
  | str z => rw [of_decide_eq_true h]
  | _ => cases h
theorem cutOk_iff {L : List Li} {x : DL.D} (h : cutOk L x = true) : ∃ l b : Int, (x = .tup [.str [99, 117, 116], .int l, .int b] ∨ x = .lst [.str [99, 117, 116], .int l, .int b]) ∧ 0 ≤ l ∧ l < L.length ∧ 1 ≤ b ∧ stX L x = cutX L l b := by
  have h0 := h
  unfold cutOk at h
  split at h
  · rename_i c y w e
    rw [Bool.and_eq_true, Bool.and_eq_true, Bool.and_eq_true] at h
    obtain ⟨h1, h2, h3, -⟩ := h
    cases isS_eq h1
    obtain ⟨l, rfl, l0, l1⟩ := lineD_int h2
    obtain ⟨b, rfl, b1⟩ := wholeD_int h3
    refine ⟨l, b, Ob.sq e, l0, l1, b1, ?_⟩
    unfold stX
    rw [e]
    rfl
  · cases h
theorem addOk_iff {L : List Li} {x : DL.D} (h : addOk L x = true) : ∃ y ps, (x = .tup [.str [97, 100, 100], y] ∨ x = .lst [.str [97, 100, 100], y]) ∧ seqD y = some ps ∧ (∀ q ∈ ps, pairOk L q = true) ∧ stX L x = addL L (ps.map pairI) := by
  unfold addOk at h
  split at h
  · rename_i c y e
    rw [Bool.and_eq_true] at h
    obtain ⟨h1, h2⟩ := h
    cases isS_eq h1
    split at h2
    · rename_i ps e2
      rw [Bool.and_eq_true, List.all_eq_true] at h2
      refine ⟨y, ps, Ob.sq e, e2, h2.2, ?_⟩
      unfold stX
      rw [e]
      show addL L (addPs x) = _
      unfold addPs
      rw [e]
      show addL L (((seqD y).getD []).map pairI) = _
      rw [e2]; rfl
    · cases h2
  · cases h
theorem pairOk_iff {L : List Li} {q : DL.D} (h : pairOk L q = true) : ∃ w l : Int, (q = .tup [.int w, .int l] ∨ q = .lst [.int w, .int l]) ∧ 1 ≤ w ∧ 0 ≤ l ∧ l < L.length ∧ pairI q = (w, l) := by
  unfold pairOk at h
  split at h
  · rename_i a b e
    rw [Bool.and_eq_true] at h
    obtain ⟨w, rfl, w1⟩ := wholeD_int h.1
    obtain ⟨l, rfl, l0, l1⟩ := lineD_int h.2
    refine ⟨w, l, Ob.sq e, w1, l0, l1, ?_⟩
    unfold pairI
    rw [e]; rfl
  · cases h
theorem Ob.i {i : Int} (h : Ob (.int i)) : i.natAbs < 18446744073709551616 := by
  cases h with
  | int _ h => exact h
section
variable {G : Gd} {k : Nat} {S : Store} {Q E : QD} {args : List DL.D}
/-- line_of, of lines in a cell or in data -/
theorem lineCut (ev : Ev G) {L : List Li} {x ls : DL.D} (hS : (∃ j, ls = .ref j ∧ S[j]? = some (.lst (L.map oD))) ∨ ls = .lst (L.map oD)) (hL : ∀ o ∈ L, Lk o) (hx : Ob x) (hc : cutOk L x = true) (h : Q (oD (stX L x)) S) : CallP G (k + 5) nx_line_of [ls, x] S Q E := by
  obtain ⟨l, b, hxe, l0, l1, b1, he⟩ := cutOk_iff hc
  rw [he] at h
  obtain ⟨lk, hg⟩ := getL_lk hL l0 l1
  have hlen := lk.len
  have hb : b.natAbs < 18446744073709551616 := by
    rcases hxe with rfl | rfl
    · exact (hx.mem rfl (.int b) (by simp)).i
    · exact (hx.mem rfl (.int b) (by simp)).i
  have hb2 : 0 < b ∧ b.natAbs.log2 < 9000 := by
    refine ⟨by omega, ?_⟩
    have : b.natAbs.log2 < 64 := (Nat.log2_lt (by omega)).mpr hb
    omega
  have h' : Q (sumD (gat ((getL L l).1.map fun z => (z.1, z.2 / b))) ((getL L l).2 / b)) S := h
  rcases hxe with rfl | rfl <;> rcases hS with ⟨j, rfl, hS⟩ | rfl
  all_goals
    refine call_line_of ev rfl ?_
    ((try conv => whnf); repeat ((first | refine ⟨_, rfl, ?_⟩ | refine ⟨rfl, ?_⟩ | refine ⟨_, ix_head, ?_⟩ | refine ⟨⟨rfl, rfl⟩, ?_⟩ | refine iteW_t ?_ | refine iteW_f ?_ | refine wpSs_nl ?_); (try conv => whnf)))
    try rw [hS]
    ((try conv => whnf); repeat ((first | refine ⟨_, rfl, ?_⟩ | refine ⟨rfl, ?_⟩ | refine ⟨_, ix_head, ?_⟩ | refine ⟨⟨rfl, rfl⟩, ?_⟩ | refine iteW_t ?_ | refine iteW_f ?_ | refine wpSs_nl ?_); (try conv => whnf)))
    refine ⟨oD (getL L l), ix_map oD l0 hg, ?_⟩
    ((try conv => whnf); repeat ((first | refine ⟨_, rfl, ?_⟩ | refine ⟨rfl, ?_⟩ | refine ⟨_, ix_head, ?_⟩ | refine ⟨⟨rfl, rfl⟩, ?_⟩ | refine iteW_t ?_ | refine iteW_f ?_ | refine wpSs_nl ?_); (try conv => whnf)))
    refine lc_map pr (fun z => pr (z.1, z.2 / b)) (getL L l).1 (by omega) ?_ ?_ ?_
    · trivial
    · ((try conv => whnf); repeat ((first | refine ⟨_, rfl, ?_⟩ | refine ⟨rfl, ?_⟩ | refine ⟨_, ix_head, ?_⟩ | refine ⟨⟨rfl, rfl⟩, ?_⟩ | refine iteW_t ?_ | refine iteW_f ?_ | refine wpSs_nl ?_); (try conv => whnf)))
      refine ⟨hb2, ?_⟩
      ((try conv => whnf); repeat ((first | refine ⟨_, rfl, ?_⟩ | refine ⟨rfl, ?_⟩ | refine ⟨_, ix_head, ?_⟩ | refine ⟨⟨rfl, rfl⟩, ?_⟩ | refine iteW_t ?_ | refine iteW_f ?_ | refine wpSs_nl ?_); (try conv => whnf)))
      exact sumOf (k := k + 1) (l := (getL L l).1.map fun z => (z.1, z.2 / b)) ev (.inr (by rw [List.map_map]; rfl)) (by rw [List.length_map]; omega) ⟨_, _, .refl, h'⟩
    · intro z hz N1 N2 h1
      ((try conv => whnf); repeat ((first | refine ⟨_, rfl, ?_⟩ | refine ⟨rfl, ?_⟩ | refine ⟨_, ix_head, ?_⟩ | refine ⟨⟨rfl, rfl⟩, ?_⟩ | refine iteW_t ?_ | refine iteW_f ?_ | refine wpSs_nl ?_); (try conv => whnf)))
      exact ⟨hb2, h1⟩
theorem lineAdd (ev : Ev G) {L : List Li} {x ls : DL.D} (hS : (∃ j, ls = .ref j ∧ S[j]? = some (.lst (L.map oD))) ∨ ls = .lst (L.map oD)) (hL : ∀ o ∈ L, Lk o) (hx : Ob x) (ht : Tps x) (hc : addOk L x = true) (h : Q (oD (stX L x)) S) : CallP G (k + 5) nx_line_of [ls, x] S Q E := by
  obtain ⟨y, ps, hxe, hy, hp, he⟩ := addOk_iff hc
  rw [he] at h
  have hoy : Ob y := by
    rcases hxe with rfl | rfl
    · exact hx.mem rfl y (by simp)
    · exact hx.mem rfl y (by simp)
  have hoq := hoy.mem hy
  have htp : ∀ us, DL.D.lst us ∉ ps := fun us => by
    rcases hxe with rfl | rfl
    · exact ht _ y ps rfl hy us
    · exact ht _ y ps rfl hy us
  rcases hxe with rfl | rfl <;> rcases hS with ⟨j, rfl, hS⟩ | rfl <;> rcases Ob.sq hy with rfl | rfl
  all_goals
    refine call_line_of ev rfl ?_
    ((try conv => whnf); repeat ((first | refine ⟨_, rfl, ?_⟩ | refine ⟨rfl, ?_⟩ | refine ⟨_, ix_head, ?_⟩ | refine ⟨⟨rfl, rfl⟩, ?_⟩ | refine iteW_t ?_ | refine iteW_f ?_ | refine wpSs_nl ?_); (try conv => whnf)))
    refine sumOf (k := k + 1) (l := []) ev (.inl rfl) (by decide) ?_
    ((try conv => whnf); repeat ((first | refine ⟨_, rfl, ?_⟩ | refine ⟨rfl, ?_⟩ | refine ⟨_, ix_head, ?_⟩ | refine ⟨⟨rfl, rfl⟩, ?_⟩ | refine iteW_t ?_ | refine iteW_f ?_ | refine wpSs_nl ?_); (try conv => whnf)))
    refine for_ind (fun its τ S' => S' = S ∧ ∃ (pre : List DL.D) (s3 s4 s5 s6 s7 : Option DL.D), ps = pre ++ its ∧ τ = [some _, some _, some (sumD (gat (addX L (pre.map pairI))) (addN L (pre.map pairI))), s3, s4, s5, s6, s7]) ?_ ?_ _ _ _ ⟨rfl, [], none, none, none, none, none, rfl, rfl⟩
    · rintro τ S' ⟨rfl, pre, s3, s4, s5, s6, s7, e, rfl⟩
      rw [List.append_nil] at e
      subst e
      refine ⟨trivial, ?_⟩
      ((try conv => whnf); repeat ((first | refine ⟨_, rfl, ?_⟩ | refine ⟨rfl, ?_⟩ | refine ⟨_, ix_head, ?_⟩ | refine ⟨⟨rfl, rfl⟩, ?_⟩ | refine iteW_t ?_ | refine iteW_f ?_ | refine wpSs_nl ?_); (try conv => whnf)))
      exact ⟨_, _, .refl, h⟩
    · rintro q its τ S' Nx hN ⟨rfl, pre, s3, s4, s5, s6, s7, e, rfl⟩
      have hqm : q ∈ ps := by rw [e]; simp
      obtain ⟨w, l, hq, w1, l0, l1, hpi⟩ := pairOk_iff (hp q hqm)
      have hob := hoq q hqm
      have hw : w.natAbs < 18446744073709551616 := by
        rcases hq with rfl | rfl
        · exact (hob.mem rfl (.int w) (by simp)).i
        · exact (hob.mem rfl (.int w) (by simp)).i
      obtain ⟨lk, hg⟩ := getL_lk hL l0 l1
      have hlen := lk.len
      have g1 := gat_len3 (addX_kn hL (pre.map pairI))
      rcases hq with rfl | rfl
      · refine ⟨trivial, ?_⟩
        ((try conv => whnf); repeat ((first | refine ⟨_, rfl, ?_⟩ | refine ⟨rfl, ?_⟩ | refine ⟨_, ix_head, ?_⟩ | refine ⟨⟨rfl, rfl⟩, ?_⟩ | refine iteW_t ?_ | refine iteW_f ?_ | refine wpSs_nl ?_); (try conv => whnf)))
        try rw [hS]
        ((try conv => whnf); repeat ((first | refine ⟨_, rfl, ?_⟩ | refine ⟨rfl, ?_⟩ | refine ⟨_, ix_head, ?_⟩ | refine ⟨⟨rfl, rfl⟩, ?_⟩ | refine iteW_t ?_ | refine iteW_f ?_ | refine wpSs_nl ?_); (try conv => whnf)))
        refine ⟨oD (getL L l), ix_map oD l0 hg, ?_⟩
        ((try conv => whnf); repeat ((first | refine ⟨_, rfl, ?_⟩ | refine ⟨rfl, ?_⟩ | refine ⟨_, ix_head, ?_⟩ | refine ⟨⟨rfl, rfl⟩, ?_⟩ | refine iteW_t ?_ | refine iteW_f ?_ | refine wpSs_nl ?_); (try conv => whnf)))
        refine times (k := k) ev hw (by omega) ?_
        ((try conv => whnf); repeat ((first | refine ⟨_, rfl, ?_⟩ | refine ⟨rfl, ?_⟩ | refine ⟨_, ix_head, ?_⟩ | refine ⟨⟨rfl, rfl⟩, ?_⟩ | refine iteW_t ?_ | refine iteW_f ?_ | refine wpSs_nl ?_); (try conv => whnf)))
        have g2 := gat_len ((getL L l).1.map fun z => (z.1, w * z.2))
        rw [List.length_map] at g2
        refine plus (k := k) ev (by omega) ?_
        ((try conv => whnf); repeat ((first | refine ⟨_, rfl, ?_⟩ | refine ⟨rfl, ?_⟩ | refine ⟨_, ix_head, ?_⟩ | refine ⟨⟨rfl, rfl⟩, ?_⟩ | refine iteW_t ?_ | refine iteW_f ?_ | refine wpSs_nl ?_); (try conv => whnf)))
        refine hN _ _ ⟨_, _, .refl, rfl, pre ++ [_], s3, some (.int w), some (.int l), s6, s7, by rw [e, List.append_assoc]; rfl, ?_⟩
        rw [gat_app2, List.map_append, List.map_singleton, addX_snoc, addN_snoc, hpi]
        rfl
      · exact absurd hqm (htp _)
/-- ends_by -/
theorem endsBy (ev : Ev G) {j : Nat} {L : List Li} (hS : S[j]? = some (.lst (L.map oD))) (h : Q (.bl (endOk L)) S) : CallP G (k + 1) nx_ends_by [.ref j] S Q E := by
  refine call_ends_by ev rfl ?_
  conv => whnf
  rw [snap_ref hS]
  conv => whnf
  refine iteW_i (fun hb => ?_) (fun hb => ?_)
  · have hne : L ≠ [] := fun e => by rw [e] at hb; exact absurd hb (by decide)
    have hlen : 0 < L.length := List.length_pos_iff.mpr hne
    obtain ⟨o, ho⟩ : ∃ o, L.getLast? = some o := ⟨L.getLast hne, List.getLast?_eq_getLast hne⟩
    have hix : (ixOf (L.map oD).length (-1)).bind ((L.map oD)[·]?) = some (oD o) := by
      rw [List.length_map]
      show (if 0 < L.length then some (L.length - 1 - 0) else none).bind _ = _
      rw [if_pos hlen]
      show (L.map oD)[L.length - 1 - 0]? = _
      rw [List.getElem?_map, Nat.sub_zero, ← List.getLast?_eq_getElem?, ho]
      rfl
    have he : endOk L = (o.1.isEmpty && decide (o.2 < 0)) := by unfold endOk; rw [ho]
    conv => whnf
    rw [hS]
    conv => whnf
    refine ⟨_, hix, ?_⟩
    conv => whnf
    repeat (refine ⟨_, rfl, ?_⟩; conv => whnf)
    refine iteW_i (fun hb2 => ?_) (fun hb2 => ?_)
    · have hb2 : (o.1.map pr).isEmpty = true := hb2
      rw [List.isEmpty_map] at hb2
      conv => whnf
      rw [hS]
      conv => whnf
      refine ⟨_, hix, ?_⟩
      conv => whnf
      repeat (refine ⟨_, rfl, ?_⟩; conv => whnf)
      rw [he, hb2] at h
      exact ⟨_, _, .refl, h⟩
    · have hb2 : (o.1.map pr).isEmpty = false := hb2
      rw [List.isEmpty_map] at hb2
      rw [he, hb2] at h
      exact ⟨_, _, .refl, h⟩
  · have he : L = [] := by cases L with | nil => rfl | cons a r => exact absurd hb (by simp)
    subst he
    exact ⟨_, _, .refl, h⟩
end
end K37

set_option maxHeartbeats 1000000
namespace K37
open PySem PySem.Spec PyProof.Rows L2 DL SA
theorem bels_prs (n : Nat) (o : Li) : bel n (oD o) = true := by
  show (bels n (o.1.map pr) && (true && true)) = true
  rw [bels_pr]; rfl
theorem ren_oD (is : List Nat) (o : Li) : ren is (oD o) = oD o := by
  show D.ins _ _ [.tup (rens is (o.1.map pr)), .int o.2] = _
  rw [rens_pr]; rfl
theorem bels_oD (n : Nat) : ∀ L : List Li, bels n (L.map oD) = true
  | [] => rfl
  | o :: r => by
    show (bel n (oD o) && bels n (r.map oD)) = true
    rw [bels_prs, bels_oD n r]; rfl
theorem rens_oD (is : List Nat) : ∀ L : List Li, rens is (L.map oD) = L.map oD
  | [] => rfl
  | o :: r => by
    show ren is (oD o) :: rens is (r.map oD) = _
    rw [ren_oD, rens_oD is r]; rfl
theorem bels_of {n : Nat} : ∀ {xs : List DL.D}, (∀ x ∈ xs, bel n x = true) → bels n xs = true
  | [], _ => rfl
  | x :: r, h => by
    show (bel n x && bels n r) = true
    rw [h x (by simp), bels_of fun y hy => h y (List.mem_cons_of_mem _ hy)]; rfl
theorem rens_of {is : List Nat} : ∀ {xs : List DL.D}, (∀ x ∈ xs, ren is x = x) → rens is xs = xs
  | [], _ => rfl
  | x :: r, h => by
    show ren is x :: rens is r = _
    rw [h x (by simp), rens_of fun y hy => h y (List.mem_cons_of_mem _ hy)]
theorem bel_ob (n : Nat) {x : DL.D} (h : Ob x) : bel n x = true := by
  induction h with
  | sum h => exact bels_prs n _
  | tup h ih => exact bels_of ih
  | lst h ih => exact bels_of ih
  | _ => rfl
theorem ren_ob (is : List Nat) {x : DL.D} (h : Ob x) : ren is x = x := by
  induction h with
  | sum h => exact ren_oD is _
  | tup h ih => exact congrArg D.tup (rens_of ih)
  | lst h ih => exact congrArg D.lst (rens_of ih)
  | _ => rfl
theorem enumD_cons (n : Nat) (x : DL.D) (r : List DL.D) : enumD n (x :: r) = .tup [.int n, x] :: enumD (n + 1) r := rfl
theorem neg_eq (o : Li) : (gat (gat (o.1.map fun p => (p.1, -1 * p.2)) ++ gat []), -1 * o.2 + -1) = negL o := by
  unfold negL
  rw [gat_app2, List.append_nil]
  have e : (o.1.map fun p => (p.1, -1 * p.2)) = o.1.map fun z => (z.1, -z.2) := by
    apply List.map_congr_left
    intro p _
    rw [Int.neg_mul, Int.one_mul]
  rw [e]
  congr 1
  omega
theorem neg_eq' (o : Li) : sumD (gat (gat (o.1.map fun p => (p.1, -1 * p.2)) ++ gat [])) (-1 * o.2 + -1) = oD (negL o) := congrArg oD (neg_eq o)
theorem parts_sq {x : DL.D} {o : Li} {p q : DL.D} (hx : Ob x) (h : parts x = some (o, p, q)) : (x = .tup [.str [115, 112, 108, 105, 116], oD o, p, q] ∨ x = .lst [.str [115, 112, 108, 105, 116], oD o, p, q]) ∧ Lk o := by
  unfold parts at h
  split at h
  · rename_i a t p' q' e
    split at h
    · rename_i o' h1 h2
      cases h
      have ht : Ob t := hx.mem e t (by simp)
      cases isS_eq h1
      rcases liD_ob ht with ⟨o2, rfl, hk⟩ | hn
      · rw [liD_oD] at h2
        cases h2
        exact ⟨Ob.sq e, hk⟩
      · rw [hn] at h2; cases h2
    · cases h
  · cases h
/-- what the sub-papers come to -/
def PpS (d : Nat) (p : DL.D) : Prop := match d with
  | 0 => False
  | e + 1 => Pp e p
theorem Pp.ln {d : Nat} {p : DL.D} {xs : List DL.D} (h : Pp d p) (e : seqD p = some xs) : xs.length ≤ 40 ∧ ∀ x ∈ xs, (∀ a r, seqD x = some (a :: r) → Atm a) ∧ Tps x ∧ ∀ o a b, parts x = some (o, a, b) → PpS d a ∧ PpS d b := by
  cases d with
  | zero => exact ⟨(h.2 xs e).1, fun x hx => ⟨((h.2 xs e).2 x hx).1, ((h.2 xs e).2 x hx).2.1, fun o a b hp => by rw [((h.2 xs e).2 x hx).2.2] at hp; cases hp⟩⟩
  | succ d => exact h.2 xs e
section
variable {G : Gd} {k : Nat} {S : Store} {Q E : QD} {args : List DL.D}
/-- a split's two sides -/
theorem split12 (ev : Ev G) {d : Nat} {kk : Nat} (ih : ∀ {S : Store} {Q E : QD} {p : DL.D} {L : List Li} {s : Nat}, Pp d p → (∀ o ∈ L, Lk o) → L.length + 41 * (d + 1) ≤ 2000 → Q (.bl (snd (d + 1) p L s)) S → CallP G (kk + 8) nx_sound [.lst (L.map oD), p, .int s] S Q E)
    {o : Li} {p q x : DL.D} {L : List Li} {s : Nat} {P : Post} {x1 : DL.D} {s3 s5 : Option DL.D} (hx : x = .tup [.str [115, 112, 108, 105, 116], oD o, p, q] ∨ x = .lst [.str [115, 112, 108, 105, 116], oD o, p, q]) (ho : Lk o) (hp : Pp d p) (hq : Pp d q) (hL : ∀ o ∈ L, Lk o) (hlen : L.length + 1 + 41 * (d + 1) ≤ 2000)
    (h : P.rt (.bl (snd (d + 1) p (L ++ [o]) (s + 1) && snd (d + 1) q (L ++ [negL o]) (s + 1))) [.lst (L.map oD)]) :
    wpSs T (orc G T (kk + 8)) [.set 5 (.meth (.meth (.idx (.var 4) (.con (.int (1)))) fx_times [.neg (.con (.int (1)))]) fx_plus [.call nx_sum_of [.tup [], .neg (.con (.int (1)))]]),
        .ret (.and_ (.call nx_sound [.bin .Add true (.var 0) (.lst true [.idx (.var 4) (.con (.int (1)))]), .idx (.var 4) (.con (.int (2))), .bin .Add true (.var 2) (.con (.int (1)))]) (.call nx_sound [.bin .Add true (.var 0) (.lst true [.var 5]), .idx (.var 4) (.con (.int (3))), .bin .Add true (.var 2) (.con (.int (1)))]))] P
      [some (.ref 0), some x1, some (.int s), s3, some x, s5] [.lst (L.map oD)] := by
  have lt := ho.len
  have ll : (L.map oD).length = L.length := List.length_map _
  have e1 : L.map oD ++ [oD o] = (L ++ [o]).map oD := by simp
  have e2 : L.map oD ++ [oD (negL o)] = (L ++ [negL o]).map oD := by simp
  have g1 := gat_len (o.1.map fun p => (p.1, -1 * p.2))
  rw [List.length_map] at g1
  have hm : ∀ o' : Li, Lk o' → ∀ z ∈ L ++ [o'], Lk z := fun o' h' z hz => by
    rcases List.mem_append.mp hz with hz | hz
    · exact hL z hz
    · rw [List.mem_singleton.mp hz]; exact h'
  rcases hx with rfl | rfl
  all_goals
    ((try conv => whnf); repeat ((first | refine ⟨_, rfl, ?_⟩ | refine ⟨rfl, ?_⟩ | refine ⟨_, ix_head, ?_⟩ | refine ⟨⟨rfl, rfl⟩, ?_⟩ | refine iteW_t ?_ | refine iteW_f ?_ | refine wpSs_nl ?_); (try conv => whnf)))
    refine times (k := kk + 4) (a := o.1) (n := o.2) ev (by decide) (by omega) ?_
    ((try conv => whnf); repeat ((first | refine ⟨_, rfl, ?_⟩ | refine ⟨rfl, ?_⟩ | refine ⟨_, ix_head, ?_⟩ | refine ⟨⟨rfl, rfl⟩, ?_⟩ | refine iteW_t ?_ | refine iteW_f ?_ | refine wpSs_nl ?_); (try conv => whnf)))
    refine sumOf (k := kk + 5) (l := []) ev (.inl rfl) (by decide) ?_
    ((try conv => whnf); repeat ((first | refine ⟨_, rfl, ?_⟩ | refine ⟨rfl, ?_⟩ | refine ⟨_, ix_head, ?_⟩ | refine ⟨⟨rfl, rfl⟩, ?_⟩ | refine iteW_t ?_ | refine iteW_f ?_ | refine wpSs_nl ?_); (try conv => whnf)))
    refine plus (k := kk + 4) ev (by show _ + 0 < 64; omega) ?_
    rw [neg_eq' o]
    ((try conv => whnf); repeat ((first | refine ⟨_, rfl, ?_⟩ | refine ⟨rfl, ?_⟩ | refine ⟨_, ix_head, ?_⟩ | refine ⟨⟨rfl, rfl⟩, ?_⟩ | refine iteW_t ?_ | refine iteW_f ?_ | refine wpSs_nl ?_); (try conv => whnf)))
    refine ⟨by show (L.map oD).length + 1 ≤ 16777216; omega, ?_⟩
    rw [e1]
    ((try conv => whnf); repeat ((first | refine ⟨_, rfl, ?_⟩ | refine ⟨rfl, ?_⟩ | refine ⟨_, ix_head, ?_⟩ | refine ⟨⟨rfl, rfl⟩, ?_⟩ | refine iteW_t ?_ | refine iteW_f ?_ | refine wpSs_nl ?_); (try conv => whnf)))
    refine ih (s := s + 1) (p := p) (L := L ++ [o]) hp (hm o ho) (by rw [List.length_append]; exact hlen) ?_
    ((try conv => whnf); repeat ((first | refine ⟨_, rfl, ?_⟩ | refine ⟨rfl, ?_⟩ | refine ⟨_, ix_head, ?_⟩ | refine ⟨⟨rfl, rfl⟩, ?_⟩ | refine iteW_t ?_ | refine iteW_f ?_ | refine wpSs_nl ?_); (try conv => whnf)))
    refine iteW_i (fun hb => ?_) (fun hb => ?_)
    · rw [hb, Bool.true_and] at h
      ((try conv => whnf); repeat ((first | refine ⟨_, rfl, ?_⟩ | refine ⟨rfl, ?_⟩ | refine ⟨_, ix_head, ?_⟩ | refine ⟨⟨rfl, rfl⟩, ?_⟩ | refine iteW_t ?_ | refine iteW_f ?_ | refine wpSs_nl ?_); (try conv => whnf)))
      refine ⟨by show (L.map oD).length + 1 ≤ 16777216; omega, ?_⟩
      rw [e2]
      ((try conv => whnf); repeat ((first | refine ⟨_, rfl, ?_⟩ | refine ⟨rfl, ?_⟩ | refine ⟨_, ix_head, ?_⟩ | refine ⟨⟨rfl, rfl⟩, ?_⟩ | refine iteW_t ?_ | refine iteW_f ?_ | refine wpSs_nl ?_); (try conv => whnf)))
      exact ih (s := s + 1) (p := q) (L := L ++ [negL o]) hq (hm _ (negL_lk ho)) (by rw [List.length_append]; exact hlen) h
    · rw [hb, Bool.false_and] at h
      exact h
/-- sound, where nothing else is -/
theorem sound0 (ev : Ev G) {d : Nat} (ih : ∀ e, d = e + 1 → ∀ {S : Store} {Q E : QD} {p : DL.D} {L : List Li} {s : Nat}, Pp e p → (∀ o ∈ L, Lk o) → L.length + 41 * (e + 1) ≤ 2000 → Q (.bl (snd (e + 1) p L s)) S → CallP G (k + 8) nx_sound [.lst (L.map oD), p, .int s] S Q E)
    {p ls : DL.D} {L : List Li} {s : Nat} (hls : ls = .lst (L.map oD) ∨ ls = .tup (L.map oD)) (hp : Pp d p) (hL : ∀ o ∈ L, Lk o) (hlen : L.length + 41 * (d + 1) ≤ 2000) (h : Q (.bl (snd (d + 1) p L s)) []) : CallP G (k + 9) nx_sound [ls, p, .int s] [] Q E := by
  cases hsq : seqD p with
  | none =>
    have h : Q (.bl false) [] := by
      unfold snd at h
      rw [hsq] at h
      exact h
    have hob := hp.ob
    refine call_sound ev rfl ?_
    cases hob
    all_goals first
      | cases hsq
      | skip
    all_goals
      ((try conv => whnf); repeat ((first | refine ⟨_, rfl, ?_⟩ | refine ⟨rfl, ?_⟩ | refine ⟨_, ix_head, ?_⟩ | refine ⟨⟨rfl, rfl⟩, ?_⟩ | refine iteW_t ?_ | refine iteW_f ?_ | refine wpSs_nl ?_); (try conv => whnf)))
      exact ⟨_, _, .refl, h⟩
  | some xs =>
    obtain ⟨hxl, hxs⟩ := hp.ln hsq
    have hob := hp.ob.mem hsq
    have hsn : snd (d + 1) p L s = go (fun p L => snd d p L (s + 1)) (decide (s < 20)) xs L := by conv => lhs; unfold snd; rw [hsq]
    rw [hsn] at h
    rcases Ob.sq hsq with rfl | rfl <;> rcases hls with rfl | rfl
    all_goals
      refine call_sound ev rfl ?_
      ((try conv => whnf); repeat ((first | refine ⟨_, rfl, ?_⟩ | refine ⟨rfl, ?_⟩ | refine ⟨_, ix_head, ?_⟩ | refine ⟨⟨rfl, rfl⟩, ?_⟩ | refine iteW_t ?_ | refine iteW_f ?_ | refine wpSs_nl ?_); (try conv => whnf)))
      refine for_ind (fun its τ S => ∃ (pre r : List DL.D) (L' : List Li) (s3 s4 s5 : Option DL.D), xs = pre ++ r ∧ its = enumD pre.length r ∧ S = [.lst (L'.map oD)] ∧ go (fun p L => snd d p L (s + 1)) (decide (s < 20)) r L' = go (fun p L => snd d p L (s + 1)) (decide (s < 20)) xs L ∧ (∀ o ∈ L', Lk o) ∧ L'.length = L.length + pre.length ∧
        τ = [some (.ref 0), some _, some (.int s), s3, s4, s5]) ?_ ?_ _ _ _ ⟨[], xs, L, none, none, none, rfl, rfl, rfl, rfl, hL, rfl, rfl⟩
      · rintro τ S ⟨pre, r, L', s3, s4, s5, e, e2, rfl, hg, hL', hl', rfl⟩
        cases r with
        | cons a r => cases e2
        | nil =>
          refine ⟨trivial, ?_⟩
          ((try conv => whnf); repeat ((first | refine ⟨_, rfl, ?_⟩ | refine ⟨rfl, ?_⟩ | refine ⟨_, ix_head, ?_⟩ | refine ⟨⟨rfl, rfl⟩, ?_⟩ | refine iteW_t ?_ | refine iteW_f ?_ | refine wpSs_nl ?_); (try conv => whnf)))
          refine endsBy (k := k + 7) (j := 0) (L := L') ev rfl ?_
          refine ⟨_, _, .trim [] _ rfl (Nat.le_refl _) rfl rfl .refl, ?_⟩
          rw [← hg] at h
          exact h
      · rintro y r' τ S Nx hN ⟨pre, r, L', s3, s4, s5, e, e2, rfl, hg, hL', hl', rfl⟩
        cases r with
        | nil => cases e2
        | cons x r =>
          cases e2
          have el := congrArg List.length e
          simp only [List.length_append, List.length_cons] at el
          have hxm : x ∈ xs := by rw [e]; simp
          have hx := hob x hxm
          obtain ⟨hh, htp, hpt⟩ := hxs x hxm
          rw [← hg] at h
          have hnext : ∀ o : Li, Lk o → ∀ z ∈ L' ++ [o], Lk z := fun o ho z hz => by
            rcases List.mem_append.mp hz with hz | hz
            · exact hL' z hz
            · rw [List.mem_singleton.mp hz]; exact ho
          have step : (addOk L' x || cutOk L' x) = true → go (fun p L => snd d p L (s + 1)) (decide (s < 20)) (x :: r) L' = go (fun p L => snd d p L (s + 1)) (decide (s < 20)) r (L' ++ [stX L' x]) := fun h1 => by
            conv => lhs; unfold go; rw [h1]
          have fin : ∀ {b : Bool}, go (fun p L => snd d p L (s + 1)) (decide (s < 20)) (x :: r) L' = b → Q (.bl b) [] := fun e3 => by rw [← e3]; exact h
          refine ⟨trivial, ?_⟩
          ((try conv => whnf); repeat ((first | refine ⟨_, rfl, ?_⟩ | refine ⟨rfl, ?_⟩ | refine ⟨_, ix_head, ?_⟩ | refine ⟨⟨rfl, rfl⟩, ?_⟩ | refine iteW_t ?_ | refine iteW_f ?_ | refine wpSs_nl ?_); (try conv => whnf)))
          refine isAdding (k := k + 5) (j := 0) (L := L') ev rfl hx hh ?_
          cases ha : addOk L' x with
          | true =>
            ((try conv => whnf); repeat ((first | refine ⟨_, rfl, ?_⟩ | refine ⟨rfl, ?_⟩ | refine ⟨_, ix_head, ?_⟩ | refine ⟨⟨rfl, rfl⟩, ?_⟩ | refine iteW_t ?_ | refine iteW_f ?_ | refine wpSs_nl ?_); (try conv => whnf)))
            refine lineAdd (k := k + 3) (S := [.lst (L'.map oD)]) (L := L') ev (.inl ⟨0, rfl, rfl⟩) hL' hx htp ha ?_
            ((try conv => whnf); repeat ((first | refine ⟨_, rfl, ?_⟩ | refine ⟨rfl, ?_⟩ | refine ⟨_, ix_head, ?_⟩ | refine ⟨⟨rfl, rfl⟩, ?_⟩ | refine iteW_t ?_ | refine iteW_f ?_ | refine wpSs_nl ?_); (try conv => whnf)))
            refine ⟨by rw [List.length_map]; omega, ?_⟩
            refine hN _ _ ⟨_, _, .refl, pre ++ [x], r, L' ++ [stX L' x], some (.int pre.length), some x, s5, by rw [e]; simp, by rw [List.length_append]; rfl, by rw [List.map_append]; rfl, ?_, hnext _ (stX_lk hL' x), by rw [List.length_append, List.length_append, hl']; rfl, rfl⟩
            rw [← step (by rw [ha]; rfl)]
            exact hg
          | false =>
            ((try conv => whnf); repeat ((first | refine ⟨_, rfl, ?_⟩ | refine ⟨rfl, ?_⟩ | refine ⟨_, ix_head, ?_⟩ | refine ⟨⟨rfl, rfl⟩, ?_⟩ | refine iteW_t ?_ | refine iteW_f ?_ | refine wpSs_nl ?_); (try conv => whnf)))
            refine isCutting (k := k + 5) (j := 0) (L := L') ev rfl hL' hx hh ?_
            cases hc : cutOk L' x with
            | true =>
              ((try conv => whnf); repeat ((first | refine ⟨_, rfl, ?_⟩ | refine ⟨rfl, ?_⟩ | refine ⟨_, ix_head, ?_⟩ | refine ⟨⟨rfl, rfl⟩, ?_⟩ | refine iteW_t ?_ | refine iteW_f ?_ | refine wpSs_nl ?_); (try conv => whnf)))
              refine lineCut (k := k + 3) (S := [.lst (L'.map oD)]) (L := L') ev (.inl ⟨0, rfl, rfl⟩) hL' hx hc ?_
              ((try conv => whnf); repeat ((first | refine ⟨_, rfl, ?_⟩ | refine ⟨rfl, ?_⟩ | refine ⟨_, ix_head, ?_⟩ | refine ⟨⟨rfl, rfl⟩, ?_⟩ | refine iteW_t ?_ | refine iteW_f ?_ | refine wpSs_nl ?_); (try conv => whnf)))
              refine ⟨by rw [List.length_map]; omega, ?_⟩
              refine hN _ _ ⟨_, _, .refl, pre ++ [x], r, L' ++ [stX L' x], some (.int pre.length), some x, s5, by rw [e]; simp, by rw [List.length_append]; rfl, by rw [List.map_append]; rfl, ?_, hnext _ (stX_lk hL' x), by rw [List.length_append, List.length_append, hl']; rfl, rfl⟩
              rw [← step (by rw [hc, Bool.or_true])]
              exact hg
            | false =>
              have hgo : go (fun p L => snd d p L (s + 1)) (decide (s < 20)) (x :: r) L' = (match parts x with
                | some (o, p, q) => (r.isEmpty && decide (s < 20)) && (snd d p (L' ++ [o]) (s + 1) && snd d q (L' ++ [negL o]) (s + 1))
                | none => false) := by
                conv => lhs; unfold go; rw [ha, hc]
                rfl
              ((try conv => whnf); repeat ((first | refine ⟨_, rfl, ?_⟩ | refine ⟨rfl, ?_⟩ | refine ⟨_, ix_head, ?_⟩ | refine ⟨⟨rfl, rfl⟩, ?_⟩ | refine iteW_t ?_ | refine iteW_f ?_ | refine wpSs_nl ?_); (try conv => whnf)))
              refine isParting (k := k + 6) ev hx hh ?_
              cases hpa : parts x with
              | none =>
                ((try conv => whnf); repeat ((first | refine ⟨_, rfl, ?_⟩ | refine ⟨rfl, ?_⟩ | refine ⟨_, ix_head, ?_⟩ | refine ⟨⟨rfl, rfl⟩, ?_⟩ | refine iteW_t ?_ | refine iteW_f ?_ | refine wpSs_nl ?_); (try conv => whnf)))
                exact ⟨_, _, .trim [] _ rfl (Nat.le_refl _) rfl rfl .refl, fin (by rw [hgo, hpa])⟩
              | some t =>
                obtain ⟨o, p2, q2⟩ := t
                rw [hpa] at hgo
                obtain ⟨hxe, ho⟩ := parts_sq hx hpa
                ((try conv => whnf); repeat ((first | refine ⟨_, rfl, ?_⟩ | refine ⟨rfl, ?_⟩ | refine ⟨_, ix_head, ?_⟩ | refine ⟨⟨rfl, rfl⟩, ?_⟩ | refine iteW_t ?_ | refine iteW_f ?_ | refine wpSs_nl ?_); (try conv => whnf)))
                refine iteW_i (fun hpl => ?_) (fun hpl => ?_)
                · have hr : r = [] := by
                    have : (pre.length : Int) = (xs.length : Int) - 1 := by simpa using hpl
                    cases r with
                    | nil => rfl
                    | cons a r => simp only [List.length_cons] at el; omega
                  ((try conv => whnf); repeat ((first | refine ⟨_, rfl, ?_⟩ | refine ⟨rfl, ?_⟩ | refine ⟨_, ix_head, ?_⟩ | refine ⟨⟨rfl, rfl⟩, ?_⟩ | refine iteW_t ?_ | refine iteW_f ?_ | refine wpSs_nl ?_); (try conv => whnf)))
                  refine iteW_i (fun hf => ?_) (fun hf => ?_)
                  · have hf : (s : Int) < 20 := by simpa using hf
                    have hf : s < 20 := by omega
                    cases d with
                    | zero => exact ((hpt o p2 q2 hpa).1).elim
                    | succ e' =>
                      obtain ⟨hp2, hq2⟩ := hpt o p2 q2 hpa
                      subst hr
                      refine split12 (kk := k) ev (ih e' rfl) hxe ho hp2 hq2 hL' (by omega) ?_
                      refine ⟨_, _, .trim [] _ rfl (Nat.le_refl _) rfl rfl .refl, ?_⟩
                      exact fin (by rw [hgo, decide_eq_true hf]; rfl)
                  · have hf : ¬ (s : Int) < 20 := by simpa using hf
                    have hf : ¬ s < 20 := by omega
                    ((try conv => whnf); repeat ((first | refine ⟨_, rfl, ?_⟩ | refine ⟨rfl, ?_⟩ | refine ⟨_, ix_head, ?_⟩ | refine ⟨⟨rfl, rfl⟩, ?_⟩ | refine iteW_t ?_ | refine iteW_f ?_ | refine wpSs_nl ?_); (try conv => whnf)))
                    exact ⟨_, _, .trim [] _ rfl (Nat.le_refl _) rfl rfl .refl, fin (by rw [hgo, decide_eq_false hf, Bool.and_false]; rfl)⟩
                · ((try conv => whnf); repeat ((first | refine ⟨_, rfl, ?_⟩ | refine ⟨rfl, ?_⟩ | refine ⟨_, ix_head, ?_⟩ | refine ⟨⟨rfl, rfl⟩, ?_⟩ | refine iteW_t ?_ | refine iteW_f ?_ | refine wpSs_nl ?_); (try conv => whnf)))
                  refine ⟨_, _, .trim [] _ rfl (Nat.le_refl _) rfl rfl .refl, fin ?_⟩
                  have hr : r ≠ [] := by
                    intro hr
                    subst hr
                    have : ¬ (pre.length : Int) = (xs.length : Int) - 1 := by simpa using hpl
                    simp only [List.length_nil] at el
                    omega
                  rw [hgo]
                  cases r with
                  | nil => exact absurd rfl hr
                  | cons a r => rfl
/-- sound -/
theorem sound (ev : Ev G) : ∀ (d : Nat) {S : Store} {Q E : QD} {p ls : DL.D} {L : List Li} {s : Nat}, (ls = .lst (L.map oD) ∨ ls = .tup (L.map oD)) → Pp d p → (∀ o ∈ L, Lk o) → L.length + 41 * (d + 1) ≤ 2000 → Q (.bl (snd (d + 1) p L s)) S → CallP G (k + d + 9) nx_sound [ls, p, .int s] S Q E
  | d, S, Q, E, p, ls, L, s, hls, hp, hL, hlen, h => by
    refine call_data ?_ ?_ (sound0 (k := k + d) ev (fun e he => ?_) hls hp hL hlen ⟨rfl, rfl, h⟩)
    · have e1 : bel 0 ls = true := by
        rcases hls with rfl | rfl
        · exact bels_oD 0 L
        · exact bels_oD 0 L
      show (bel 0 ls && (bel 0 p && (true && true))) = true
      rw [e1, bel_ob 0 hp.ob]; rfl
    · have e1 : ren [] ls = ls := by
        rcases hls with rfl | rfl
        · exact congrArg D.lst (rens_oD _ L)
        · exact congrArg D.tup (rens_oD _ L)
      show [ren [] ls, ren [] p, .int s] = _
      rw [e1, ren_ob _ hp.ob]
    · intro S Q E p L s h1 h2 h3 h4
      subst he
      exact callP_mono (sound ev e (.inl rfl) h1 h2 h3 h4) (by omega)
theorem refutes (ev : Ev G) {d : Nat} {p ls : DL.D} {L : List Li} (hls : ls = .lst (L.map oD) ∨ ls = .tup (L.map oD)) (hp : Pp d p) (hL : ∀ o ∈ L, Lk o) (hlen : L.length + 41 * (d + 1) ≤ 2000) (h : Q (.bl (snd (d + 1) p L 0)) S) : CallP G (k + d + 10) nx_refutes [ls, p] S Q E := by
  refine call_refutes ev rfl ?_
  ((try conv => whnf); repeat ((first | refine ⟨_, rfl, ?_⟩ | refine ⟨rfl, ?_⟩ | refine ⟨_, ix_head, ?_⟩ | refine ⟨⟨rfl, rfl⟩, ?_⟩ | refine iteW_t ?_ | refine iteW_f ?_ | refine wpSs_nl ?_); (try conv => whnf)))
  exact sound (k := k) (s := 0) ev d hls hp hL hlen ⟨_, _, .refl, h⟩
end
end K37

set_option maxHeartbeats 1000000
namespace K37
open PySem PySem.Spec PyProof.Rows L2 DL SA
/-! ### what is drawn -/
abbrev dC (c i : Int) : Cell := .lst [.int c, .int i]
abbrev Tri := Li × Int × Int
def tD (t : Tri) : DL.D := .tup [oD t.1, .int t.2.1, .int t.2.2]
structure gT (t : Tri) : Prop where
  lk : Lk t.1
  dv : t.2.1 = 1 ∨ t.2.1 = 2 ∨ t.2.1 = 3 ∨ t.2.1 = 5
  r0 : 0 ≤ t.2.2
  r1 : t.2.2 < t.2.1
/-- what goes with adding, and with gathering -/
structure Lin (f : KV → Int) : Prop where
  nil : f [] = 0
  app : ∀ a b, f (a ++ b) = f a + f b
  scl : ∀ w a, f (scl w a) = w * f a
  gat : ∀ a, f (SA.gat a) = f a
theorem lin_tot (x : Tx) : Lin (tot x) := ⟨rfl, tot_append x, fun w a => tot_map x (fun z => w * z) (fun a b => Int.mul_add _ _ _) (Int.mul_zero _) a, gat_tot x⟩
theorem wsum_scl (v : Tx → Int) (w : Int) : ∀ a : KV, wsum v (scl w a) = w * wsum v a
  | [] => by show (0 : Int) = w * 0; rw [Int.mul_zero]
  | p :: a => by
    show w * p.2 * v p.1 + wsum v (scl w a) = w * (p.2 * v p.1 + wsum v a)
    rw [wsum_scl v w a, Int.mul_add, Int.mul_assoc]
theorem lin_wsum (v : Tx → Int) : Lin (wsum v) := ⟨rfl, wsum_append v, wsum_scl v, gat_wsum v⟩
theorem tot_ext {a b : KV} (ra : Rise a) (rb : Rise b) (h : ∀ f, Lin f → f a = f b) : a = b := ra.one rb fun x => h _ (lin_tot x)
/-- weights times what the sums are -/
def dot (g : Li → Int) : List Int → List Tri → Int
  | w :: ws, t :: ts => w * g t.1 + dot g ws ts
  | _, _ => 0
theorem dot_snoc (g : Li → Int) (w : Int) (t : Tri) : ∀ {ws : List Int} {ts : List Tri}, ws.length = ts.length → dot g (ws ++ [w]) (ts ++ [t]) = dot g ws ts + w * g t.1
  | [], [], _ => by show w * g t.1 + 0 = 0 + w * g t.1; omega
  | u :: ws, s :: ts, h => by
    show u * g s.1 + dot g (ws ++ [w]) (ts ++ [t]) = u * g s.1 + dot g ws ts + w * g t.1
    rw [dot_snoc g w t (by simpa using h)]
    omega
theorem bels_tD (n : Nat) : ∀ ts : List Tri, bels n (ts.map tD) = true
  | [] => rfl
  | t :: r => by
    show ((bel n (oD t.1) && (true && (true && true))) && bels n (r.map tD)) = true
    rw [bels_prs, bels_tD n r]; rfl
theorem rens_tD (is : List Nat) : ∀ ts : List Tri, rens is (ts.map tD) = ts.map tD
  | [] => rfl
  | t :: r => by
    show D.tup [ren is (oD t.1), .int t.2.1, .int t.2.2] :: rens is (r.map tD) = _
    rw [ren_oD, rens_tD is r]; rfl
section
variable {G : Gd} {k : Nat} {S : Store} {Q E : QD} {args : List DL.D}
theorem drawn (ev : Ev G) {c i n : Int} {R : Store} (hn : 0 < n) (h : ∀ m : Int, 0 ≤ m → m < n → Q (.int m) (dC c (i + 1) :: R)) : CallP G (k + 2) nx__law_next [.ref 0, .int n] (dC c i :: R) Q E := nextR ev hn h
/-- _law_sums -/
theorem lawSums (ev : Ev G) {c i : Int} {th : List Tx} {many : Nat} (hm : many ≤ 3) (hth : ∀ x ∈ th, x ∈ TH) (hl : th.length ≤ 3) (h : ∀ (ts : List Tri) (i' : Int), ts.length = many → (∀ t ∈ ts, gT t) → (∀ t ∈ ts, ∀ q ∈ t.1.1, q.1 ∈ th) → Q (.lst (ts.map tD)) [dC c i']) : CallP G (k + 4) nx__law_sums [.ref 0, .lst (th.map .str), .int many] [dC c i] Q E := by
  refine call__law_sums ev rfl ?_
  ((try conv => whnf); repeat ((first | refine ⟨_, rfl, ?_⟩ | refine ⟨rfl, ?_⟩ | refine ⟨_, ix_head, ?_⟩ | refine ⟨⟨rfl, rfl⟩, ?_⟩ | refine iteW_t ?_ | refine iteW_f ?_ | refine wpSs_nl ?_); (try conv => whnf)))
  refine ⟨⟨by decide, by decide⟩, ?_⟩
  ((try conv => whnf); repeat ((first | refine ⟨_, rfl, ?_⟩ | refine ⟨rfl, ?_⟩ | refine ⟨_, ix_head, ?_⟩ | refine ⟨⟨rfl, rfl⟩, ?_⟩ | refine iteW_t ?_ | refine iteW_f ?_ | refine wpSs_nl ?_); (try conv => whnf)))
  refine drawn (R := [.lst []]) ev (by decide) fun q q0 q1 => ?_
  obtain ⟨far, h1, -⟩ := idx_map (α := Int) (f := .int) (xs := [1, 10 ^ 25]) (i := q) q0 q1
  ((try conv => whnf); repeat ((first | refine ⟨_, rfl, ?_⟩ | refine ⟨rfl, ?_⟩ | refine ⟨_, ix_head, ?_⟩ | refine ⟨⟨rfl, rfl⟩, ?_⟩ | refine iteW_t ?_ | refine iteW_f ?_ | refine wpSs_nl ?_); (try conv => whnf)))
  refine ⟨_, h1, ?_⟩
  ((try conv => whnf); repeat ((first | refine ⟨_, rfl, ?_⟩ | refine ⟨rfl, ?_⟩ | refine ⟨_, ix_head, ?_⟩ | refine ⟨⟨rfl, rfl⟩, ?_⟩ | refine iteW_t ?_ | refine iteW_f ?_ | refine wpSs_nl ?_); (try conv => whnf)))
  rw [Int.toNat_natCast]
  refine ⟨⟨by omega, by omega⟩, ?_⟩
  refine for_rng many (fun n τ S => ∃ (ts : List Tri) (i' : Int) (s5 s6 s7 s8 s9 : Option DL.D), ts.length = n ∧ (∀ t ∈ ts, gT t) ∧ (∀ t ∈ ts, ∀ q ∈ t.1.1, q.1 ∈ th) ∧ S = [dC c i', .lst (ts.map tD)] ∧ τ = [some (.ref 0), some (.lst (th.map .str)), some (.int many), some (.ref 1), some (.int far), s5, s6, s7, s8, s9]) ⟨[], _, none, none, none, none, none, rfl, fun _ h => absurd h List.not_mem_nil, fun _ h => absurd h List.not_mem_nil, rfl, rfl⟩ ?_ ?_
  · rintro τ S ⟨ts, i', s5, s6, s7, s8, s9, hl, hp, hq, rfl, rfl⟩
    refine ⟨trivial, ?_⟩
    ((try conv => whnf); repeat ((first | refine ⟨_, rfl, ?_⟩ | refine ⟨rfl, ?_⟩ | refine ⟨_, ix_head, ?_⟩ | refine ⟨⟨rfl, rfl⟩, ?_⟩ | refine iteW_t ?_ | refine iteW_f ?_ | refine wpSs_nl ?_); (try conv => whnf)))
    exact ⟨_, _, .frz 1 (.lst (ts.map tD)) (.lst (ts.map tD)) rfl rfl (.trim [dC c i'] [.dead] rfl (Nat.le_refl _) rfl (bels_tD 1 ts) .refl), h ts i' hl hp hq⟩
  · rintro n τ S Nx hn hN ⟨ts, i', s5, s6, s7, s8, s9, hl2, hp, hqq, rfl, rfl⟩
    refine ⟨trivial, ?_⟩
    ((try conv => whnf); repeat ((first | refine ⟨_, rfl, ?_⟩ | refine ⟨rfl, ?_⟩ | refine ⟨_, ix_head, ?_⟩ | refine ⟨⟨rfl, rfl⟩, ?_⟩ | refine iteW_t ?_ | refine iteW_f ?_ | refine wpSs_nl ?_); (try conv => whnf)))
    refine lc_at D.str th (fun p acc S' => ∃ (ps : KV) (i2 : Int), acc = ps.map pr ∧ ps.map (·.1) = p ∧ S' = [dC c i2, .lst (ts.map tD)]) ⟨[], i', rfl, rfl, rfl⟩ (by omega) ?_ ?_ ?_
    · rintro acc S' ⟨ps, i2, rfl, hps, rfl⟩
      refine ⟨trivial, ?_⟩
      have hkn : Kn ps := fun z hz => hth _ (by rw [← hps]; exact List.mem_map.mpr ⟨z, hz, rfl⟩)
      have hpl : ps.length ≤ 3 := by rw [← hps, List.length_map] at hl; exact hl
      ((try conv => whnf); repeat ((first | refine ⟨_, rfl, ?_⟩ | refine ⟨rfl, ?_⟩ | refine ⟨_, ix_head, ?_⟩ | refine ⟨⟨rfl, rfl⟩, ?_⟩ | refine iteW_t ?_ | refine iteW_f ?_ | refine wpSs_nl ?_); (try conv => whnf)))
      refine drawn (R := [.lst (ts.map tD)]) ev (by decide) fun u u0 u1 => ?_
      obtain ⟨b, h2, hb⟩ := idx_map (α := Int) (f := .int) (xs := [1, 1, 2, 3, 5]) (i := u) u0 u1
      have hb : b = 1 ∨ b = 2 ∨ b = 3 ∨ b = 5 := by
        simp only [List.mem_cons, List.not_mem_nil, or_false] at hb
        omega
      ((try conv => whnf); repeat ((first | refine ⟨_, rfl, ?_⟩ | refine ⟨rfl, ?_⟩ | refine ⟨_, ix_head, ?_⟩ | refine ⟨⟨rfl, rfl⟩, ?_⟩ | refine iteW_t ?_ | refine iteW_f ?_ | refine wpSs_nl ?_); (try conv => whnf)))
      refine ⟨_, h2, ?_⟩
      ((try conv => whnf); repeat ((first | refine ⟨_, rfl, ?_⟩ | refine ⟨rfl, ?_⟩ | refine ⟨_, ix_head, ?_⟩ | refine ⟨⟨rfl, rfl⟩, ?_⟩ | refine iteW_t ?_ | refine iteW_f ?_ | refine wpSs_nl ?_); (try conv => whnf)))
      refine drawn (R := [.lst (ts.map tD)]) ev (by decide) fun v v0 v1 => ?_
      ((try conv => whnf); repeat ((first | refine ⟨_, rfl, ?_⟩ | refine ⟨rfl, ?_⟩ | refine ⟨_, ix_head, ?_⟩ | refine ⟨⟨rfl, rfl⟩, ?_⟩ | refine iteW_t ?_ | refine iteW_f ?_ | refine wpSs_nl ?_); (try conv => whnf)))
      refine ⟨.inl (.inl (by omega)), ?_⟩
      ((try conv => whnf); repeat ((first | refine ⟨_, rfl, ?_⟩ | refine ⟨rfl, ?_⟩ | refine ⟨_, ix_head, ?_⟩ | refine ⟨⟨rfl, rfl⟩, ?_⟩ | refine iteW_t ?_ | refine iteW_f ?_ | refine wpSs_nl ?_); (try conv => whnf)))
      refine ⟨⟨by decide, by decide⟩, ?_⟩
      ((try conv => whnf); repeat ((first | refine ⟨_, rfl, ?_⟩ | refine ⟨rfl, ?_⟩ | refine ⟨_, ix_head, ?_⟩ | refine ⟨⟨rfl, rfl⟩, ?_⟩ | refine iteW_t ?_ | refine iteW_f ?_ | refine wpSs_nl ?_); (try conv => whnf)))
      refine drawn (R := [.lst (ts.map tD)]) ev (by decide) fun w w0 w1 => ?_
      ((try conv => whnf); repeat ((first | refine ⟨_, rfl, ?_⟩ | refine ⟨rfl, ?_⟩ | refine ⟨_, ix_head, ?_⟩ | refine ⟨⟨rfl, rfl⟩, ?_⟩ | refine iteW_t ?_ | refine iteW_f ?_ | refine wpSs_nl ?_); (try conv => whnf)))
      refine ⟨.inl (.inr (by omega)), ?_⟩
      ((try conv => whnf); repeat ((first | refine ⟨_, rfl, ?_⟩ | refine ⟨rfl, ?_⟩ | refine ⟨_, ix_head, ?_⟩ | refine ⟨⟨rfl, rfl⟩, ?_⟩ | refine iteW_t ?_ | refine iteW_f ?_ | refine wpSs_nl ?_); (try conv => whnf)))
      refine sumOf (k := k) (l := ps) ev (.inr rfl) (by omega) ?_
      ((try conv => whnf); repeat ((first | refine ⟨_, rfl, ?_⟩ | refine ⟨rfl, ?_⟩ | refine ⟨_, ix_head, ?_⟩ | refine ⟨⟨rfl, rfl⟩, ?_⟩ | refine iteW_t ?_ | refine iteW_f ?_ | refine wpSs_nl ?_); (try conv => whnf)))
      refine drawn (R := [.lst (ts.map tD)]) ev (by omega) fun r r0 r1 => ?_
      ((try conv => whnf); repeat ((first | refine ⟨_, rfl, ?_⟩ | refine ⟨rfl, ?_⟩ | refine ⟨_, ix_head, ?_⟩ | refine ⟨⟨rfl, rfl⟩, ?_⟩ | refine iteW_t ?_ | refine iteW_f ?_ | refine wpSs_nl ?_); (try conv => whnf)))
      refine ⟨by rw [List.length_map]; omega, ?_⟩
      refine hN _ _ ⟨_, _, .refl, ts ++ [((gat ps, _), b, r)], _, _, _, _, _, _, by rw [List.length_append, hl2]; rfl, ?_, ?_, by rw [List.map_append]; rfl, rfl⟩
      · intro t ht
        rcases List.mem_append.mp ht with ht | ht
        · exact hp t ht
        · rw [List.mem_singleton.mp ht]
          exact ⟨lk_gat hkn, hb, r0, r1⟩
      · intro t ht
        rcases List.mem_append.mp ht with ht | ht
        · exact hqq t ht
        · rw [List.mem_singleton.mp ht]
          intro z hz
          rw [← hps]
          exact (gat_mem hz).1
    · rintro p acc S' ⟨ps, i2, rfl, rfl, rfl⟩
      rw [List.length_map, List.length_map]
      exact Nat.le_refl _
    · rintro p a r acc S' N1 N2 e hN1 hN2 ⟨ps, i2, rfl, hps, rfl⟩
      refine ⟨trivial, ?_⟩
      ((try conv => whnf); repeat ((first | refine ⟨_, rfl, ?_⟩ | refine ⟨rfl, ?_⟩ | refine ⟨_, ix_head, ?_⟩ | refine ⟨⟨rfl, rfl⟩, ?_⟩ | refine iteW_t ?_ | refine iteW_f ?_ | refine wpSs_nl ?_); (try conv => whnf)))
      refine drawn (R := [.lst (ts.map tD)]) ev (by decide) fun u u0 u1 => ?_
      obtain ⟨b, h2, hb⟩ := idx_map (α := Int) (f := .int) (xs := [1, -1, 0, 2, -3]) (i := u) u0 u1
      have hb : b.natAbs ≤ 3 := by
        simp only [List.mem_cons, List.not_mem_nil, or_false] at hb
        omega
      ((try conv => whnf); repeat ((first | refine ⟨_, rfl, ?_⟩ | refine ⟨rfl, ?_⟩ | refine ⟨_, ix_head, ?_⟩ | refine ⟨⟨rfl, rfl⟩, ?_⟩ | refine iteW_t ?_ | refine iteW_f ?_ | refine wpSs_nl ?_); (try conv => whnf)))
      refine ⟨_, h2, ?_⟩
      ((try conv => whnf); repeat ((first | refine ⟨_, rfl, ?_⟩ | refine ⟨rfl, ?_⟩ | refine ⟨_, ix_head, ?_⟩ | refine ⟨⟨rfl, rfl⟩, ?_⟩ | refine iteW_t ?_ | refine iteW_f ?_ | refine wpSs_nl ?_); (try conv => whnf)))
      refine ⟨.inl (.inl (by omega)), ?_⟩
      ((try conv => whnf); repeat ((first | refine ⟨_, rfl, ?_⟩ | refine ⟨rfl, ?_⟩ | refine ⟨_, ix_head, ?_⟩ | refine ⟨⟨rfl, rfl⟩, ?_⟩ | refine iteW_t ?_ | refine iteW_f ?_ | refine wpSs_nl ?_); (try conv => whnf)))
      exact hN1 _ _ ⟨_, _, .refl, ps ++ [(a, b * far)], _, by rw [List.map_append]; rfl, by rw [List.map_append, hps]; rfl, rfl⟩
/-- _law_last -/
theorem lawLast (ev : Ev G) {c i : Int} {ts : List Tri} {o : Li} {R : Store} (hl : ts.length ≤ 3) (ht : ∀ t ∈ ts, gT t) (ho : Lk o) (h : ∀ (f : Li) (ws : List Int) (j i' : Int), ws.length = ts.length → (∀ w ∈ ws, 1 ≤ w ∧ w ≤ 3) → 0 ≤ j → Lk f → (∀ g, Lin g → g f.1 = - g o.1 - dot (fun t => g t.1) ws ts) → f.2 = -1 - j - o.2 - dot (·.2) ws ts → Q (.tup [oD f, .lst (ws.map .int)]) (dC c i' :: R)) : CallP G (k + 6) nx__law_last [.ref 0, .lst (ts.map tD), oD o] (dC c i :: R) Q E := by
  refine call__law_last ev rfl ?_
  ((try conv => whnf); repeat ((first | refine ⟨_, rfl, ?_⟩ | refine ⟨rfl, ?_⟩ | refine ⟨_, ix_head, ?_⟩ | refine ⟨⟨rfl, rfl⟩, ?_⟩ | refine iteW_t ?_ | refine iteW_f ?_ | refine wpSs_nl ?_); (try conv => whnf)))
  refine lc_at tD ts (fun p acc S' => ∃ (ws : List Int) (i2 : Int), acc = ws.map .int ∧ ws.length = p.length ∧ (∀ w ∈ ws, 1 ≤ w ∧ w ≤ 3) ∧ S' = dC c i2 :: R) ⟨[], i, rfl, rfl, fun _ h => absurd h List.not_mem_nil, rfl⟩ (by omega) ?_ ?_ ?_
  · rintro acc S' ⟨ws, i2, rfl, hws, hw, rfl⟩
    refine ⟨trivial, ?_⟩
    ((try conv => whnf); repeat ((first | refine ⟨_, rfl, ?_⟩ | refine ⟨rfl, ?_⟩ | refine ⟨_, ix_head, ?_⟩ | refine ⟨⟨rfl, rfl⟩, ?_⟩ | refine iteW_t ?_ | refine iteW_f ?_ | refine wpSs_nl ?_); (try conv => whnf)))
    refine drawn (R := R) ev (by decide) fun j j0 j1 => ?_
    ((try conv => whnf); repeat ((first | refine ⟨_, rfl, ?_⟩ | refine ⟨rfl, ?_⟩ | refine ⟨_, ix_head, ?_⟩ | refine ⟨⟨rfl, rfl⟩, ?_⟩ | refine iteW_t ?_ | refine iteW_f ?_ | refine wpSs_nl ?_); (try conv => whnf)))
    refine sumOf (k := k + 2) (l := []) ev (.inl rfl) (by decide) ?_
    ((try conv => whnf); repeat ((first | refine ⟨_, rfl, ?_⟩ | refine ⟨rfl, ?_⟩ | refine ⟨_, ix_head, ?_⟩ | refine ⟨⟨rfl, rfl⟩, ?_⟩ | refine iteW_t ?_ | refine iteW_f ?_ | refine wpSs_nl ?_); (try conv => whnf)))
    have lo := ho.len
    refine less (k := k) ev (by show 0 + _ < 64; omega) ?_
    ((try conv => whnf); repeat ((first | refine ⟨_, rfl, ?_⟩ | refine ⟨rfl, ?_⟩ | refine ⟨_, ix_head, ?_⟩ | refine ⟨⟨rfl, rfl⟩, ?_⟩ | refine iteW_t ?_ | refine iteW_f ?_ | refine wpSs_nl ?_); (try conv => whnf)))
    rw [List.length_map]
    refine ⟨⟨by omega, by omega⟩, ?_⟩
    refine for_rng ts.length (fun n τ S => ∃ (f : Li) (s5 s6 : Option DL.D), Lk f ∧ (∀ g, Lin g → g f.1 = - g o.1 - dot (fun t => g t.1) (ws.take n) (ts.take n)) ∧ f.2 = -1 - j - o.2 - dot (·.2) (ws.take n) (ts.take n) ∧ S = dC c (i2 + 1) :: R ∧ τ = [some (.ref 0), some (.lst (ts.map tD)), some (oD o), some (.lst (ws.map .int)), some (oD f), s5, s6]) ⟨(gat (gat [] ++ scl (-1) o.1), -1 - j + -1 * o.2), none, none, lk_gat (ho.kn.map (f := fun z => -1 * z)), ?_, ?_, rfl, rfl⟩ ?_ ?_
    · intro g hg
      show g (gat (gat [] ++ scl (-1) o.1)) = - g o.1 - 0
      rw [hg.gat, hg.app, hg.gat, hg.nil, hg.scl]
      omega
    · show -1 - j + -1 * o.2 = -1 - j - o.2 - 0
      omega
    · rintro τ S ⟨f, s5, s6, hf, hg, hn, rfl, rfl⟩
      refine ⟨trivial, ?_⟩
      ((try conv => whnf); repeat ((first | refine ⟨_, rfl, ?_⟩ | refine ⟨rfl, ?_⟩ | refine ⟨_, ix_head, ?_⟩ | refine ⟨⟨rfl, rfl⟩, ?_⟩ | refine iteW_t ?_ | refine iteW_f ?_ | refine wpSs_nl ?_); (try conv => whnf)))
      rw [← hws, List.take_length, hws, List.take_length] at hn
      refine ⟨_, _, .refl, h f ws j _ hws hw j0 hf (fun g hl => ?_) hn⟩
      have := hg g hl
      rw [← hws, List.take_length, hws, List.take_length] at this
      exact this
    · rintro n τ S Nx hn hN ⟨f, s5, s6, hf, hg, hnn, rfl, rfl⟩
      refine ⟨trivial, ?_⟩
      have e1 : ts[n]? = some ts[n] := List.getElem?_eq_getElem hn
      have hn2 : n < ws.length := by omega
      have e2 : ws[n]? = some ws[n] := List.getElem?_eq_getElem hn2
      have w3 := hw _ (List.getElem_mem hn2)
      have t3 := ht _ (List.getElem_mem hn)
      ((try conv => whnf); repeat ((first | refine ⟨_, rfl, ?_⟩ | refine ⟨rfl, ?_⟩ | refine ⟨_, ix_head, ?_⟩ | refine ⟨⟨rfl, rfl⟩, ?_⟩ | refine iteW_t ?_ | refine iteW_f ?_ | refine wpSs_nl ?_); (try conv => whnf)))
      refine ⟨_, ix_map tD (by omega) (by rw [Int.toNat_natCast]; exact e1), ?_⟩
      ((try conv => whnf); repeat ((first | refine ⟨_, rfl, ?_⟩ | refine ⟨rfl, ?_⟩ | refine ⟨_, ix_head, ?_⟩ | refine ⟨⟨rfl, rfl⟩, ?_⟩ | refine iteW_t ?_ | refine iteW_f ?_ | refine wpSs_nl ?_); (try conv => whnf)))
      refine ⟨_, ix_map DL.D.int (by omega) (by rw [Int.toNat_natCast]; exact e2), ?_⟩
      ((try conv => whnf); repeat ((first | refine ⟨_, rfl, ?_⟩ | refine ⟨rfl, ?_⟩ | refine ⟨_, ix_head, ?_⟩ | refine ⟨⟨rfl, rfl⟩, ?_⟩ | refine iteW_t ?_ | refine iteW_f ?_ | refine wpSs_nl ?_); (try conv => whnf)))
      have lt := t3.lk.len
      refine times (k := k + 1) ev (by omega) (by omega) ?_
      ((try conv => whnf); repeat ((first | refine ⟨_, rfl, ?_⟩ | refine ⟨rfl, ?_⟩ | refine ⟨_, ix_head, ?_⟩ | refine ⟨⟨rfl, rfl⟩, ?_⟩ | refine iteW_t ?_ | refine iteW_f ?_ | refine wpSs_nl ?_); (try conv => whnf)))
      have lf := hf.len
      have g1 : (SA.gat (ts[n].1.1.map fun p => (p.1, ws[n] * p.2))).length ≤ 3 := (lk_gat (n := 0) (t3.lk.kn.map (f := fun z => ws[n] * z))).len
      refine less (k := k) ev (by show f.1.length + (gat _).length < 64; omega) ?_
      ((try conv => whnf); repeat ((first | refine ⟨_, rfl, ?_⟩ | refine ⟨rfl, ?_⟩ | refine ⟨_, ix_head, ?_⟩ | refine ⟨⟨rfl, rfl⟩, ?_⟩ | refine iteW_t ?_ | refine iteW_f ?_ | refine wpSs_nl ?_); (try conv => whnf)))
      refine hN _ _ ⟨_, _, .refl, (gat (f.1 ++ scl (-1) (gat (scl ws[n] ts[n].1.1))), f.2 + -1 * (ws[n] * ts[n].1.2)), _, s6, lk_gat (hf.kn.app ((t3.lk.kn.map (f := fun z => ws[n] * z)).gat.map (f := fun z => -1 * z))), fun g hl => ?_, ?_, rfl, rfl⟩
      · have := hg g hl
        show g (gat (f.1 ++ scl (-1) (gat (scl ws[n] ts[n].1.1)))) = _
        rw [hl.gat, hl.app, hl.scl, hl.gat, hl.scl, this, List.take_succ_eq_append_getElem hn, List.take_succ_eq_append_getElem hn2, dot_snoc _ _ _ (by rw [List.length_take, List.length_take]; omega)]
        omega
      · show f.2 + -1 * (ws[n] * ts[n].1.2) = _
        rw [hnn, List.take_succ_eq_append_getElem hn, List.take_succ_eq_append_getElem hn2, dot_snoc _ _ _ (by rw [List.length_take, List.length_take]; omega)]
        omega
  · rintro p acc S' ⟨ws, i2, rfl, hws, hw, rfl⟩
    rw [List.length_map, hws]
    exact Nat.le_refl _
  · rintro p a r acc S' N1 N2 e hN1 hN2 ⟨ws, i2, rfl, hws, hw, rfl⟩
    refine ⟨trivial, ?_⟩
    ((try conv => whnf); repeat ((first | refine ⟨_, rfl, ?_⟩ | refine ⟨rfl, ?_⟩ | refine ⟨_, ix_head, ?_⟩ | refine ⟨⟨rfl, rfl⟩, ?_⟩ | refine iteW_t ?_ | refine iteW_f ?_ | refine wpSs_nl ?_); (try conv => whnf)))
    refine drawn (R := R) ev (by decide) fun u u0 u1 => ?_
    ((try conv => whnf); repeat ((first | refine ⟨_, rfl, ?_⟩ | refine ⟨rfl, ?_⟩ | refine ⟨_, ix_head, ?_⟩ | refine ⟨⟨rfl, rfl⟩, ?_⟩ | refine iteW_t ?_ | refine iteW_f ?_ | refine wpSs_nl ?_); (try conv => whnf)))
    refine hN1 _ _ ⟨_, _, .refl, ws ++ [1 + u], _, by rw [List.map_append]; rfl, by rw [List.length_append, List.length_append, hws]; rfl, ?_, rfl⟩
    intro w hw'
    rcases List.mem_append.mp hw' with h' | h'
    · exact hw w h'
    · rw [List.mem_singleton.mp h']; omega
end
end K37

set_option maxHeartbeats 1000000
namespace K37
open PySem PySem.Spec PyProof.Rows L2 DL SA
/-! ### the plain law: what is built refutes -/
theorem gat_nil : SA.gat ([] : KV) = [] := by decide
theorem gat_self {a : KV} (r : Rise a) : SA.gat a = a := r.gat fun _ => rfl
/-- a case's sum made of a drawn one -/
def csL (t : Tri) : Li := (scl t.2.1 t.1.1, t.2.1 * t.1.2 + t.2.2)
theorem scl_keys (w : Int) (a : KV) : (scl w a).map (·.1) = a.map (·.1) := by
  unfold scl
  rw [List.map_map]; rfl
theorem scl_rise {a : KV} {w : Int} (r : Rise a) (h : w ≠ 0) : Rise (scl w a) := by
  refine ⟨by rw [scl_keys]; exact r.srt, by rw [scl_keys]; exact r.nd, fun p hp => ?_⟩
  obtain ⟨q, hq, rfl⟩ := List.mem_map.mp hp
  exact Int.mul_ne_zero h (r.nz q hq)
theorem csL_lk {t : Tri} (h : gT t) : Lk (csL t) := ⟨scl_rise h.lk.rise (by have := h.dv; omega), h.lk.kn.map (f := fun z => t.2.1 * z)⟩
def dotP (g : Li → Int) (L : List Li) : List (Int × Int) → Int
  | [] => 0
  | p :: r => p.1 * g (getL L p.2) + dotP g L r
theorem dotP_app (g : Li → Int) (L : List Li) : ∀ a b : List (Int × Int), dotP g L (a ++ b) = dotP g L a + dotP g L b
  | [], b => by show _ = 0 + _; rw [Int.zero_add]; rfl
  | p :: a, b => by
    show _ + dotP g L (a ++ b) = _ + _ + _
    rw [dotP_app g L a b]; omega
theorem addN_dot (L : List Li) : ∀ ps : List (Int × Int), addN L ps = dotP (·.2) L ps
  | [] => rfl
  | p :: r => by unfold addN dotP; rw [addN_dot L r]
theorem addX_lin {g : KV → Int} (hg : Lin g) (L : List Li) : ∀ ps : List (Int × Int), g (addX L ps) = dotP (fun o => g o.1) L ps
  | [] => hg.nil
  | p :: r => by
    have : addX L (p :: r) = scl p.1 (getL L p.2).1 ++ addX L r := by unfold addX; simp
    rw [this, hg.app, hg.scl, addX_lin hg L r]; rfl
/-- the places of the drawn sums among the lines -/
def plOk (L : List Li) : List Int → List Tri → Prop
  | l :: pl, t :: ts => (0 ≤ l ∧ l < L.length ∧ getL L l = t.1) ∧ plOk L pl ts
  | [], [] => True
  | _, _ => False
theorem getL_app {L M : List Li} {l : Int} (h0 : 0 ≤ l) (h1 : l < L.length) : getL (L ++ M) l = getL L l := by
  unfold getL
  rw [List.getElem?_append_left (by omega)]
theorem plOk.len {L : List Li} : ∀ {pl : List Int} {ts : List Tri}, plOk L pl ts → pl.length = ts.length
  | [], [], _ => rfl
  | _ :: _, _ :: _, h => by rw [List.length_cons, List.length_cons, h.2.len]
  | [], _ :: _, h => h.elim
  | _ :: _, [], h => h.elim
theorem plOk.app {L M : List Li} : ∀ {pl : List Int} {ts : List Tri}, plOk L pl ts → plOk (L ++ M) pl ts
  | [], [], _ => trivial
  | _ :: _, _ :: _, h => ⟨⟨h.1.1, by have := h.1.2.1; rw [List.length_append]; omega, by rw [getL_app h.1.1 h.1.2.1]; exact h.1.2.2⟩, h.2.app⟩
  | [], _ :: _, h => h.elim
  | _ :: _, [], h => h.elim
theorem plOk.snoc {L : List Li} {l : Int} {t : Tri} (hl : 0 ≤ l ∧ l < L.length ∧ getL L l = t.1) : ∀ {pl : List Int} {ts : List Tri}, plOk L pl ts → plOk L (pl ++ [l]) (ts ++ [t])
  | [], [], _ => ⟨hl, trivial⟩
  | _ :: _, _ :: _, h => ⟨h.1, h.2.snoc hl⟩
  | [], _ :: _, h => h.elim
  | _ :: _, [], h => h.elim
theorem dot_zip (g : Li → Int) {L : List Li} : ∀ {ws pl : List Int} {ts : List Tri}, ws.length = ts.length → plOk L pl ts → dotP g L (ws.zip pl) = dot g ws ts
  | [], _, [], _, _ => rfl
  | w :: ws, l :: pl, t :: ts, h, hp => by
    show w * g (getL L l) + dotP g L (ws.zip pl) = w * g t.1 + dot g ws ts
    rw [hp.1.2.2, dot_zip g (by simpa using h) hp.2]
  | w :: ws, [], t :: ts, _, hp => hp.elim
  | [], _, t :: ts, h, _ => by simp at h
  | w :: ws, _, [], h, _ => by simp at h
theorem zip_ok {L : List Li} : ∀ {ws pl : List Int} {ts : List Tri}, (∀ w ∈ ws, 1 ≤ w ∧ w ≤ 3) → plOk L pl ts → ∀ q ∈ ws.zip pl, (1 ≤ q.1 ∧ q.1 ≤ 3) ∧ 0 ≤ q.2 ∧ q.2 < L.length
  | [], _, _, _, _, q, hq => absurd hq List.not_mem_nil
  | w :: ws, [], _, _, _, q, hq => absurd hq List.not_mem_nil
  | w :: ws, l :: pl, [], _, hp, q, hq => hp.elim
  | w :: ws, l :: pl, t :: ts, hw, hp, q, hq => by
    rcases List.mem_cons.mp hq with rfl | hq
    · exact ⟨hw w (by simp), hp.1.1, hp.1.2.1⟩
    · exact zip_ok (fun z hz => hw z (List.mem_cons_of_mem _ hz)) hp.2 q hq
/-- an end, and its weights -/
abbrev En := Li × List Int
structure gE (ts : List Tri) (o : Li) (e : En) : Prop where
  len : e.2.length = ts.length
  w : ∀ w ∈ e.2, 1 ≤ w ∧ w ≤ 3
  lk : Lk e.1
  g : ∀ g, Lin g → g e.1.1 = - g o.1 - dot (fun t => g t.1) e.2 ts
  n : ∃ j, 0 ≤ j ∧ e.1.2 = -1 - j - o.2 - dot (·.2) e.2 ts
def moreOf (b : Bool) (p : Li) (k : Nat) : Li := match b with
  | false => ([], 0)
  | true => if k = 0 then p else negL p
theorem lin_neg {g : KV → Int} (hg : Lin g) (o : Li) : g (negL o).1 = - g o.1 := by
  unfold negL
  show g (SA.gat (o.1.map fun z => (z.1, -z.2))) = _
  rw [hg.gat]
  have : (o.1.map fun z => (z.1, -z.2)) = scl (-1) o.1 := by
    unfold scl
    apply List.map_congr_left
    intro p _
    rw [Int.neg_mul, Int.one_mul]
  rw [this, hg.scl]
  omega
/-- the pairs of a last line -/
def pairsOf (b : Bool) (n N k : Nat) (e : En) (pl : List Int) : List (Int × Int) := e.2.zip pl ++ ([((1 : Int), ((n + k : Nat) : Int))] : List (Int × Int)) ++ (match b with
  | true => [(1, (N : Int))]
  | false => [])
theorem rise_nil : Rise [] := gat_nil ▸ gat_rise []
theorem end_ok {ts : List Tri} {o : Li} {e : En} {L : List Li} {pl : List Int} {ps : List (Int × Int)} (he : gE ts o e) (hpl : plOk L pl ts) (h : ∀ g : Li → Int, g ([], 0) = 0 → dotP g L ps = dotP g L (e.2.zip pl) + g e.1 + g o) : endOk (L ++ [addL L ps]) = true := by
  have e1 : gat (addX L ps) = [] := by
    refine (gat_rise _).one rise_nil fun x => ?_
    rw [gat_tot, addX_lin (lin_tot x), h _ rfl, dot_zip _ he.len hpl, he.g _ (lin_tot x)]
    show _ = (0 : Int)
    omega
  have e2 : addN L ps < 0 := by
    obtain ⟨j, j0, hj⟩ := he.n
    rw [addN_dot, h _ rfl, dot_zip _ he.len hpl, hj]
    omega
  unfold endOk
  rw [List.getLast?_concat]
  show ((gat (addX L ps)).isEmpty && decide (addN L ps < 0)) = true
  rw [e1, decide_eq_true e2]; rfl
theorem dot_pos {f g : Li → Int} : ∀ {ws : List Int} {ts : List Tri}, (∀ w ∈ ws, 1 ≤ w ∧ w ≤ 3) → (∀ t ∈ ts, 0 ≤ f t.1 + g t.1) → 0 ≤ dot f ws ts + dot g ws ts
  | [], _, _, _ => by unfold dot; decide
  | w :: ws, [], _, _ => by unfold dot; decide
  | w :: ws, t :: ts, hw, ht => by
    have h1 := dot_pos (fun z hz => hw z (List.mem_cons_of_mem _ hz)) fun s hs => ht s (List.mem_cons_of_mem _ hs)
    have h2 := Int.mul_nonneg (show (0 : Int) ≤ w by have := hw w (by simp); omega) (ht t (by simp))
    rw [Int.mul_add] at h2
    unfold dot
    omega
/-- no numbers meet what is built -/
theorem none_meet {ts : List Tri} {p : Li} {b : Bool} {es : List En} (ht : ∀ t ∈ ts, gT t) (hl : es.length = if b then 2 else 1) (he : ∀ (k : Nat) e, es[k]? = some e → gE ts (moreOf b p k) e) (v : Tx → Int) : ∃ o ∈ ts.map csL ++ es.map (·.1), wsum v o.1 + o.2 < 0 := by
  refine Classical.byContradiction fun hc => ?_
  have hc : ∀ o ∈ ts.map csL ++ es.map (·.1), 0 ≤ wsum v o.1 + o.2 := fun o ho => by
    refine Classical.byContradiction fun h => hc ⟨o, ho, by omega⟩
  have hs : ∀ t ∈ ts, 0 ≤ wsum v t.1.1 + t.1.2 := fun t h => by
    have h1 := hc (csL t) (List.mem_append_left _ (List.mem_map.mpr ⟨t, h, rfl⟩))
    have h2 := ht t h
    have h3 := h2.dv
    have h4 := h2.r1
    unfold csL at h1
    rw [wsum_scl] at h1
    rcases h3 with h3 | h3 | h3 | h3 <;> rw [h3] at h1 h4 <;> omega
  have hE : ∀ (k : Nat) e, es[k]? = some e → wsum v (moreOf b p k).1 + (moreOf b p k).2 ≤ -1 := fun k e h => by
    have h1 := hc e.1 (List.mem_append_right _ (List.mem_map.mpr ⟨e, List.mem_of_getElem? h, rfl⟩))
    have h2 := he k e h
    obtain ⟨j, j0, hj⟩ := h2.n
    have h3 := dot_pos (f := fun t => wsum v t.1) (g := (·.2)) h2.w hs
    rw [h2.g _ (lin_wsum v), hj] at h1
    omega
  cases b with
  | false =>
    have hl : es.length = 1 := hl
    have := hE 0 es[0] (List.getElem?_eq_getElem (by omega))
    have : (0 : Int) + 0 ≤ -1 := this
    omega
  | true =>
    have hl : es.length = 2 := hl
    have h0 := hE 0 es[0] (List.getElem?_eq_getElem (by omega))
    have h1 := hE 1 es[1] (List.getElem?_eq_getElem (by omega))
    have h0 : wsum v p.1 + p.2 ≤ -1 := h0
    have h1 : wsum v (negL p).1 + (negL p).2 ≤ -1 := h1
    rw [lin_neg (lin_wsum v)] at h1
    have : (negL p).2 = -p.2 - 1 := rfl
    omega
/-! ### the lines that cut -/
abbrev Ct := Nat × Tri
def ctD (q : Ct) : DL.D := .tup [.str [99, 117, 116], .int q.1, .int q.2.2.1]
structure ctOk (C : List Li) (q : Ct) : Prop where
  at' : C[q.1]? = some (csL q.2)
  ok : gT q.2
  gt : 1 < q.2.2.1
theorem getL_at {L : List Li} {n : Nat} {o : Li} (h : L[n]? = some o) : getL L (n : Int) = o := by
  unfold getL
  rw [Int.toNat_natCast, h]; rfl
theorem ct_cut {C M : List Li} {q : Ct} (h : ctOk C q) : cutOk (C ++ M) (ctD q) = true := by
  have hlt := (List.getElem?_eq_some_iff.mp h.at').1
  have e : getL (C ++ M) (q.1 : Int) = csL q.2 := getL_at (by rw [List.getElem?_append_left hlt]; exact h.at')
  show (true && (lineD (C ++ M) (.int q.1) && (wholeD 1 (.int q.2.2.1) && (getL (C ++ M) (q.1 : Int)).1.all fun z => decide (z.2 % q.2.2.1 = 0)))) = true
  rw [e]
  have h1 : lineD (C ++ M) (.int q.1) = true := by
    show (decide ((0 : Int) ≤ q.1) && decide ((q.1 : Int) < (C ++ M).length)) = true
    rw [decide_eq_true (by omega), decide_eq_true (by rw [List.length_append]; omega)]; rfl
  have h2 : wholeD 1 (.int q.2.2.1) = true := decide_eq_true (by have := h.gt; omega)
  rw [h1, h2, Bool.true_and, Bool.true_and, Bool.true_and, List.all_eq_true]
  intro z hz
  obtain ⟨y, hy, rfl⟩ := List.mem_map.mp hz
  exact decide_eq_true (Int.mul_emod_right _ _)
theorem ct_stX {C M : List Li} {q : Ct} (h : ctOk C q) : stX (C ++ M) (ctD q) = q.2.1 := by
  have hlt := (List.getElem?_eq_some_iff.mp h.at').1
  have e : getL (C ++ M) (q.1 : Int) = csL q.2 := getL_at (by rw [List.getElem?_append_left hlt]; exact h.at')
  have hb := h.gt
  have hr0 := h.ok.r0
  have hr1 := h.ok.r1
  show cutX (C ++ M) (q.1 : Int) q.2.2.1 = q.2.1
  unfold cutX
  rw [e]
  have e1 : ((csL q.2).1.map fun z => (z.1, z.2 / q.2.2.1)) = q.2.1.1 := by
    show (scl q.2.2.1 q.2.1.1).map _ = _
    unfold scl
    rw [List.map_map]
    conv => rhs; rw [← List.map_id q.2.1.1]
    apply List.map_congr_left
    intro p _
    show (p.1, q.2.2.1 * p.2 / q.2.2.1) = p
    rw [Int.mul_ediv_cancel_left _ (by omega)]
  have e2 : (csL q.2).2 / q.2.2.1 = q.2.1.2 := by
    show (q.2.2.1 * q.2.1.2 + q.2.2.2) / q.2.2.1 = _
    rw [Int.add_comm, Int.add_mul_ediv_left _ _ (by omega), Int.ediv_eq_zero_of_lt hr0 hr1, Int.zero_add]
  rw [e1, e2, gat_self h.ok.lk.rise]
theorem go_cuts {rc : DL.D → List Li → Bool} {few : Bool} {r : List DL.D} {C : List Li} : ∀ (cl : List Ct) (M : List Li), (∀ q ∈ cl, ctOk C q) → go rc few (cl.map ctD ++ r) (C ++ M) = go rc few r (C ++ (M ++ cl.map (·.2.1)))
  | [], M, _ => by rw [List.map_nil, List.map_nil, List.append_nil]; rfl
  | q :: cl, M, h => by
    have h1 := h q (by simp)
    show go rc few (ctD q :: (cl.map ctD ++ r)) (C ++ M) = _
    conv => lhs; unfold go; rw [ct_cut h1, Bool.or_true]
    show go rc few (cl.map ctD ++ r) (C ++ M ++ [stX (C ++ M) (ctD q)]) = _
    rw [ct_stX h1, List.append_assoc, go_cuts cl (M ++ [q.2.1]) fun z hz => h z (List.mem_cons_of_mem _ hz), List.append_assoc]
    rfl
/-- the line that adds up -/
abbrev prI (p : Int × Int) : DL.D := .tup [.int p.1, .int p.2]
def adD (ps : List (Int × Int)) : DL.D := .tup [.str [97, 100, 100], .tup (ps.map prI)]
theorem ad_ps (ps : List (Int × Int)) : addPs (adD ps) = ps := by
  show (ps.map prI).map pairI = ps
  rw [List.map_map]
  exact List.map_id _
theorem ad_ok {L : List Li} {ps : List (Int × Int)} (h0 : ps ≠ []) (h : ∀ q ∈ ps, 1 ≤ q.1 ∧ 0 ≤ q.2 ∧ q.2 < L.length) : addOk L (adD ps) = true := by
  show (true && (!(ps.map prI).isEmpty && (ps.map prI).all (pairOk L))) = true
  rw [Bool.true_and, Bool.and_eq_true, List.all_eq_true]
  refine ⟨by cases ps with | nil => exact absurd rfl h0 | cons a r => rfl, fun x hx => ?_⟩
  obtain ⟨q, hq, rfl⟩ := List.mem_map.mp hx
  obtain ⟨h1, h2, h3⟩ := h q hq
  show (decide (1 ≤ q.1) && (decide (0 ≤ q.2) && decide (q.2 < L.length))) = true
  rw [decide_eq_true h1, decide_eq_true h2, decide_eq_true h3]; rfl
theorem ad_stX (L : List Li) (ps : List (Int × Int)) : stX L (adD ps) = addL L ps := by
  show addL L (addPs (adD ps)) = _
  rw [ad_ps]
theorem go_ad {rc : DL.D → List Li → Bool} {few : Bool} {L : List Li} {ps : List (Int × Int)} (h0 : ps ≠ []) (h : ∀ q ∈ ps, 1 ≤ q.1 ∧ 0 ≤ q.2 ∧ q.2 < L.length) (he : endOk (L ++ [addL L ps]) = true) : go rc few [adD ps] L = true := by
  unfold go
  rw [ad_ok h0 h, Bool.true_or, ad_stX]
  exact he
/-- all pairs of an end's line, where its lines lie -/
theorem pairs_all {ts : List Tri} {o : Li} {e : En} {L : List Li} {pl : List Int} {b : Bool} {n N k : Nat} (he : gE ts o e) (hpl : plOk L pl ts) (hb : b = false → o = ([], 0)) (hn : L[n + k]? = some e.1) (hN : b = true → L[N]? = some o) : (∀ g : Li → Int, g ([], 0) = 0 → dotP g L (pairsOf b n N k e pl) = dotP g L (e.2.zip pl) + g e.1 + g o) ∧ (∀ q ∈ pairsOf b n N k e pl, (1 ≤ q.1 ∧ q.1 ≤ 3) ∧ 0 ≤ q.2 ∧ q.2 < L.length) ∧ pairsOf b n N k e pl ≠ [] := by
  have hlt := (List.getElem?_eq_some_iff.mp hn).1
  refine ⟨fun g g0 => ?_, fun q hq => ?_, ?_⟩
  · unfold pairsOf
    rw [dotP_app, dotP_app]
    have e1 : dotP g L [(1, ((n + k : Nat) : Int))] = g e.1 := by
      show 1 * g (getL L ((n + k : Nat) : Int)) + 0 = _
      rw [getL_at hn, Int.one_mul, Int.add_zero]
    rw [e1]
    cases b with
    | false =>
      rw [hb rfl, g0]
      show _ + (0 : Int) = _ + (0 : Int)
      rfl
    | true =>
      have : dotP g L [(1, (N : Int))] = g o := by
        show 1 * g (getL L (N : Int)) + 0 = _
        rw [getL_at (hN rfl), Int.one_mul, Int.add_zero]
      show _ + dotP g L [(1, (N : Int))] = _
      rw [this]
  · unfold pairsOf at hq
    rcases List.mem_append.mp hq with hq | hq
    · rcases List.mem_append.mp hq with hq | hq
      · exact zip_ok he.w hpl q hq
      · rw [List.mem_singleton.mp hq]
        exact ⟨⟨(by decide : (1 : Int) ≤ 1), (by decide : (1 : Int) ≤ 3)⟩, by show (0 : Int) ≤ ((n + k : Nat) : Int); omega, by show ((n + k : Nat) : Int) < L.length; omega⟩
    · cases b with
      | false => exact absurd hq List.not_mem_nil
      | true =>
        have hlt2 := (List.getElem?_eq_some_iff.mp (hN rfl)).1
        rw [List.mem_singleton.mp hq]
        exact ⟨⟨(by decide : (1 : Int) ≤ 1), (by decide : (1 : Int) ≤ 3)⟩, by show (0 : Int) ≤ (N : Int); omega, by show (N : Int) < L.length; omega⟩
  · unfold pairsOf
    simp
end K37

set_option maxHeartbeats 1000000
namespace K37
open PySem PySem.Spec PyProof.Rows L2 DL SA
def lsD : DL.D → DL.D
  | .tup ys => .lst ys
  | x => x
theorem lsD_seq (x : DL.D) : seqD (lsD x) = seqD x := by cases x <;> rfl
theorem lsD_ob {x : DL.D} (h : Ob x) : Ob (lsD x) := by
  cases h with
  | tup h => exact .lst h
  | non => exact .non
  | bl b => exact .bl b
  | int i h => exact .int i h
  | str s => exact .str s
  | sum h => exact .sum h
  | lst h => exact .lst h
theorem addOk_ls (L : List Li) (x : DL.D) : addOk L (lsD x) = addOk L x := by unfold addOk; rw [lsD_seq]
theorem cutOk_ls (L : List Li) (x : DL.D) : cutOk L (lsD x) = cutOk L x := by unfold cutOk; rw [lsD_seq]
theorem parts_ls (x : DL.D) : parts (lsD x) = parts x := by unfold parts; rw [lsD_seq]
theorem stX_ls (L : List Li) (x : DL.D) : stX L (lsD x) = stX L x := by
  unfold stX addPs
  rw [lsD_seq]
theorem go_ls {rc : DL.D → List Li → Bool} {few : Bool} : ∀ (xs : List DL.D) (L : List Li), go rc few (xs.map lsD) L = go rc few xs L
  | [], _ => rfl
  | x :: r, L => by
    show go rc few (lsD x :: r.map lsD) L = _
    unfold go
    rw [addOk_ls, cutOk_ls, parts_ls, stX_ls, go_ls r, List.isEmpty_map]
theorem pp_ls {d : Nat} {xs : List DL.D} (h : Pp d (.tup xs)) : Pp d (.lst (xs.map lsD)) := by
  have ob : Ob (.lst (xs.map lsD)) := .lst fun y hy => by
    obtain ⟨x, hx, rfl⟩ := List.mem_map.mp hy
    exact lsD_ob (h.ob.mem rfl x hx)
  cases d with
  | zero =>
    refine ⟨ob, fun ys e => ?_⟩
    cases e
    refine ⟨by rw [List.length_map]; exact (h.2 xs rfl).1, fun y hy => ?_⟩
    obtain ⟨x, hx, rfl⟩ := List.mem_map.mp hy
    obtain ⟨h1, h2, h3⟩ := (h.2 xs rfl).2 x hx
    exact ⟨by rw [lsD_seq]; exact h1, by unfold Tps; rw [lsD_seq]; exact h2, by rw [parts_ls]; exact h3⟩
  | succ d =>
    refine ⟨ob, fun ys e => ?_⟩
    cases e
    refine ⟨by rw [List.length_map]; exact (h.2 xs rfl).1, fun y hy => ?_⟩
    obtain ⟨x, hx, rfl⟩ := List.mem_map.mp hy
    obtain ⟨h1, h2, h3⟩ := (h.2 xs rfl).2 x hx
    exact ⟨by rw [lsD_seq]; exact h1, by unfold Tps; rw [lsD_seq]; exact h2, by rw [parts_ls]; exact h3⟩
/-- a case, and its paper's lines -/
structure Good (cs : List Li) (xs : List DL.D) : Prop where
  lk : ∀ o ∈ cs, Lk o
  cl : cs.length ≤ 5
  xl : xs.length ≤ 4
  pp : Pp 1 (.tup xs)
  sd : snd 2 (.tup xs) cs 0 = true
  nm : ∀ v : Tx → Int, ∃ o ∈ cs, wsum v o.1 + o.2 < 0
  tu : ∀ x ∈ xs, ∃ ys, x = .tup ys
  sh : ∀ x ∈ xs, (addPs x).length ≤ 10
theorem pairs_len {ts : List Tri} {o : Li} {e : En} {b : Bool} {n N k : Nat} {pl : List Int} (he : gE ts o e) (hn : ts.length ≤ 3) : (pairsOf b n N k e pl).length ≤ 10 := by
  have h1 := he.len
  have h2 : (e.2.zip pl).length ≤ 3 := by rw [List.length_zip]; omega
  unfold pairsOf
  rw [List.length_append, List.length_append]
  cases b with
  | false => show _ + 1 + 0 ≤ 10; omega
  | true => show _ + 1 + 1 ≤ 10; omega
def splD (p : Li) (a b : List (Int × Int)) : DL.D := .tup [.str [115, 112, 108, 105, 116], oD p, .tup [adD a], .tup [adD b]]
theorem ob_int {z : Int} (h0 : 0 ≤ z) (h1 : z ≤ 100) : Ob (.int z) := .int z (by omega)
theorem ad_ob {ps : List (Int × Int)} (h : ∀ q ∈ ps, (1 ≤ q.1 ∧ q.1 ≤ 3) ∧ 0 ≤ q.2 ∧ q.2 ≤ 100) : Ob (adD ps) := .tup fun x hx => by
  rcases List.mem_cons.mp hx with rfl | hx
  · exact .str _
  · rw [List.mem_singleton.mp hx]
    refine .tup fun y hy => ?_
    obtain ⟨q, hq, rfl⟩ := List.mem_map.mp hy
    obtain ⟨h1, h2, h3⟩ := h q hq
    refine .tup fun z hz => ?_
    rcases List.mem_cons.mp hz with rfl | hz
    · exact ob_int (by omega) (by omega)
    · rw [List.mem_singleton.mp hz]; exact ob_int h2 h3
theorem ad_ln (ps : List (Int × Int)) : (∀ a r, seqD (adD ps) = some (a :: r) → Atm a) ∧ Tps (adD ps) ∧ parts (adD ps) = none := by
  refine ⟨fun a r e => ?_, fun a y qs e e2 us hm => ?_, rfl⟩
  · cases e; exact .str _
  · cases e
    cases e2
    obtain ⟨q, _, hq⟩ := List.mem_map.mp hm
    cases hq
theorem ct_ob {C : List Li} {q : Ct} (h : ctOk C q) (hC : C.length ≤ 100) : Ob (ctD q) := .tup fun x hx => by
  have hlt := (List.getElem?_eq_some_iff.mp h.at').1
  have hd := h.ok.dv
  have hg := h.gt
  rcases List.mem_cons.mp hx with rfl | hx
  · exact .str _
  · rcases List.mem_cons.mp hx with rfl | hx
    · exact ob_int (by omega) (by omega)
    · rw [List.mem_singleton.mp hx]; exact ob_int (by omega) (by omega)
theorem ct_ln (q : Ct) : (∀ a r, seqD (ctD q) = some (a :: r) → Atm a) ∧ Tps (ctD q) ∧ parts (ctD q) = none := by
  refine ⟨fun a r e => ?_, fun a y qs e => ?_, rfl⟩
  · cases e; exact .str _
  · cases e
theorem ad_pp0 {ps : List (Int × Int)} (h : ∀ q ∈ ps, (1 ≤ q.1 ∧ q.1 ≤ 3) ∧ 0 ≤ q.2 ∧ q.2 ≤ 100) : Pp 0 (.tup [adD ps]) := by
  refine ⟨.tup fun x hx => by rw [List.mem_singleton.mp hx]; exact ad_ob h, fun xs e => ?_⟩
  cases e
  exact ⟨by show 1 ≤ 40; decide, fun x hx => by rw [List.mem_singleton.mp hx]; exact ad_ln ps⟩
/-- all that is drawn of a case and its paper, without a split -/
theorem good_plain {ts : List Tri} {e : En} {cl : List Ct} {pl : List Int} {N : Nat} (ht : ∀ t ∈ ts, gT t) (hn : ts.length ≤ 3) (he : gE ts ([], 0) e) (hc : ∀ q ∈ cl, ctOk (ts.map csL ++ [e.1]) q) (hcl : cl.length ≤ 3) (hpl : plOk (ts.map csL ++ [e.1] ++ cl.map (·.2.1)) pl ts) : Good (ts.map csL ++ [e.1]) (cl.map ctD ++ [adD (pairsOf false ts.length N 0 e pl)]) := by
  have hl1 : (ts.map csL ++ [e.1] ++ cl.map (·.2.1)).length ≤ 100 := by
    rw [List.length_append, List.length_append, List.length_map, List.length_map]
    show ts.length + 1 + _ ≤ _
    omega
  have hat : (ts.map csL ++ [e.1] ++ cl.map (·.2.1))[ts.length + 0]? = some e.1 := by
    rw [List.append_assoc, List.getElem?_append_right (by rw [List.length_map]; omega), List.length_map]
    simp
  obtain ⟨p1, p2, p3⟩ := pairs_all (b := false) (N := N) he hpl (fun _ => rfl) hat (fun h => by cases h)
  have hps : ∀ q ∈ pairsOf false ts.length N 0 e pl, (1 ≤ q.1 ∧ q.1 ≤ 3) ∧ 0 ≤ q.2 ∧ q.2 ≤ 100 := fun q hq => ⟨(p2 q hq).1, (p2 q hq).2.1, by have := (p2 q hq).2.2; omega⟩
  refine ⟨fun o ho => ?_, ?_, ?_, ⟨.tup fun x hx => ?_, fun xs ex => ?_⟩, ?_, ?_, fun x hx => ?_, fun x hx => ?_⟩
  · rcases List.mem_append.mp ho with ho | ho
    · obtain ⟨t, h1, rfl⟩ := List.mem_map.mp ho
      exact csL_lk (ht t h1)
    · rw [List.mem_singleton.mp ho]; exact he.lk
  · rw [List.length_append, List.length_map]
    show ts.length + 1 ≤ 5
    omega
  · rw [List.length_append, List.length_map]
    show cl.length + 1 ≤ 4
    omega
  · rcases List.mem_append.mp hx with hx | hx
    · obtain ⟨q, h1, rfl⟩ := List.mem_map.mp hx
      exact ct_ob (hc q h1) (by rw [List.length_append] at hl1; omega)
    · rw [List.mem_singleton.mp hx]; exact ad_ob hps
  · cases ex
    refine ⟨by rw [List.length_append, List.length_map]; show cl.length + 1 ≤ 40; omega, fun x hx => ?_⟩
    rcases List.mem_append.mp hx with hx | hx
    · obtain ⟨q, h1, rfl⟩ := List.mem_map.mp hx
      exact ⟨(ct_ln q).1, (ct_ln q).2.1, fun o a b h => by rw [(ct_ln q).2.2] at h; cases h⟩
    · rw [List.mem_singleton.mp hx]
      exact ⟨(ad_ln _).1, (ad_ln _).2.1, fun o a b h => by rw [(ad_ln _).2.2] at h; cases h⟩
  · show go _ _ (cl.map ctD ++ [adD _]) _ = true
    have := go_cuts (rc := fun p L => snd 1 p L (0 + 1)) (few := decide (0 < 20)) (r := [adD (pairsOf false ts.length N 0 e pl)]) cl [] hc
    rw [List.append_nil] at this
    rw [this, List.nil_append]
    exact go_ad p3 (fun q hq => ⟨(p2 q hq).1.1, (p2 q hq).2.1, (p2 q hq).2.2⟩) (end_ok he hpl p1)
  · exact none_meet (p := ([], 0)) (b := false) (es := [e]) ht rfl fun k e' h => by
      cases k with
      | zero => cases h; exact he
      | succ k => cases h
  · rcases List.mem_append.mp hx with hx | hx
    · obtain ⟨q, h1, rfl⟩ := List.mem_map.mp hx
      exact ⟨_, rfl⟩
    · rw [List.mem_singleton.mp hx]; exact ⟨_, rfl⟩
  · rcases List.mem_append.mp hx with hx | hx
    · obtain ⟨q, h1, rfl⟩ := List.mem_map.mp hx
      exact Nat.zero_le _
    · rw [List.mem_singleton.mp hx, ad_ps]; exact pairs_len he hn
/-- the same, with a split -/
theorem good_parted {ts : List Tri} {p : Li} {e0 e1 : En} {cl : List Ct} {pl : List Int} {N : Nat} (ht : ∀ t ∈ ts, gT t) (hn : ts.length ≤ 3) (hp : Lk p) (he0 : gE ts p e0) (he1 : gE ts (negL p) e1) (hc : ∀ q ∈ cl, ctOk (ts.map csL ++ [e0.1, e1.1]) q) (hcl : cl.length ≤ 3) (hpl : plOk (ts.map csL ++ [e0.1, e1.1] ++ cl.map (·.2.1)) pl ts) (hN : N = (ts.map csL ++ [e0.1, e1.1]).length + cl.length) : Good (ts.map csL ++ [e0.1, e1.1]) (cl.map ctD ++ [splD p (pairsOf true ts.length N 0 e0 pl) (pairsOf true ts.length N 1 e1 pl)]) := by
  have hl1 : (ts.map csL ++ [e0.1, e1.1] ++ cl.map (·.2.1)).length ≤ 99 := by
    rw [List.length_append, List.length_append, List.length_map, List.length_map]
    show ts.length + 2 + _ ≤ _
    omega
  have hlN : (ts.map csL ++ [e0.1, e1.1] ++ cl.map (·.2.1)).length = N := by rw [hN, List.length_append, List.length_map (as := cl)]
  have hat : ∀ (k : Nat) (o e : Li), (([e0.1, e1.1] : List Li)[k]? = some e) → (ts.map csL ++ [e0.1, e1.1] ++ cl.map (·.2.1) ++ [o])[ts.length + k]? = some e := fun k o e h => by
    have hk := (List.getElem?_eq_some_iff.mp h).1
    rw [List.append_assoc, List.append_assoc, List.getElem?_append_right (by rw [List.length_map]; omega), List.length_map, Nat.add_sub_cancel_left, List.getElem?_append_left hk]
    exact h
  have hatN : ∀ o : Li, (ts.map csL ++ [e0.1, e1.1] ++ cl.map (·.2.1) ++ [o])[N]? = some o := fun o => by
    rw [← hlN, List.getElem?_append_right (Nat.le_refl _), Nat.sub_self]; rfl
  obtain ⟨p1, p2, p3⟩ := pairs_all (b := true) (N := N) (n := ts.length) (k := 0) he0 (hpl.app (M := [p])) (fun h => by cases h) (hat 0 p e0.1 rfl) (fun _ => hatN p)
  obtain ⟨q1, q2, q3⟩ := pairs_all (b := true) (N := N) (n := ts.length) (k := 1) he1 (hpl.app (M := [negL p])) (fun h => by cases h) (hat 1 (negL p) e1.1 rfl) (fun _ => hatN (negL p))
  have hps : ∀ q ∈ pairsOf true ts.length N 0 e0 pl, (1 ≤ q.1 ∧ q.1 ≤ 3) ∧ 0 ≤ q.2 ∧ q.2 ≤ 100 := fun q hq => ⟨(p2 q hq).1, (p2 q hq).2.1, by have := (p2 q hq).2.2; rw [List.length_append] at this; simp at this; simp at hl1; omega⟩
  have hqs : ∀ q ∈ pairsOf true ts.length N 1 e1 pl, (1 ≤ q.1 ∧ q.1 ≤ 3) ∧ 0 ≤ q.2 ∧ q.2 ≤ 100 := fun q hq => ⟨(q2 q hq).1, (q2 q hq).2.1, by have := (q2 q hq).2.2; rw [List.length_append] at this; simp at this; simp at hl1; omega⟩
  have obs : Ob (splD p (pairsOf true ts.length N 0 e0 pl) (pairsOf true ts.length N 1 e1 pl)) := .tup fun x hx => by
    rcases List.mem_cons.mp hx with rfl | hx
    · exact .str _
    · rcases List.mem_cons.mp hx with rfl | hx
      · exact .sum hp
      · rcases List.mem_cons.mp hx with rfl | hx
        · exact (ad_pp0 hps).ob
        · rw [List.mem_singleton.mp hx]; exact (ad_pp0 hqs).ob
  have pas : parts (splD p (pairsOf true ts.length N 0 e0 pl) (pairsOf true ts.length N 1 e1 pl)) = some (p, .tup [adD (pairsOf true ts.length N 0 e0 pl)], .tup [adD (pairsOf true ts.length N 1 e1 pl)]) := by
    show (match liD (oD p) with
      | some o => some (o, _, _)
      | _ => none) = _
    rw [liD_oD]
  refine ⟨fun o ho => ?_, ?_, ?_, ⟨.tup fun x hx => ?_, fun xs ex => ?_⟩, ?_, ?_, fun x hx => ?_, fun x hx => ?_⟩
  · rcases List.mem_append.mp ho with ho | ho
    · obtain ⟨t, h1, rfl⟩ := List.mem_map.mp ho
      exact csL_lk (ht t h1)
    · rcases List.mem_cons.mp ho with rfl | ho
      · exact he0.lk
      · rw [List.mem_singleton.mp ho]; exact he1.lk
  · rw [List.length_append, List.length_map]
    show ts.length + 2 ≤ 5
    omega
  · rw [List.length_append, List.length_map]
    show cl.length + 1 ≤ 4
    omega
  · rcases List.mem_append.mp hx with hx | hx
    · obtain ⟨q, h1, rfl⟩ := List.mem_map.mp hx
      exact ct_ob (hc q h1) (by rw [List.length_append] at hl1; omega)
    · rw [List.mem_singleton.mp hx]; exact obs
  · cases ex
    refine ⟨by rw [List.length_append, List.length_map]; show cl.length + 1 ≤ 40; omega, fun x hx => ?_⟩
    rcases List.mem_append.mp hx with hx | hx
    · obtain ⟨q, h1, rfl⟩ := List.mem_map.mp hx
      exact ⟨(ct_ln q).1, (ct_ln q).2.1, fun o a b h => by rw [(ct_ln q).2.2] at h; cases h⟩
    · rw [List.mem_singleton.mp hx]
      refine ⟨fun a r e => by cases e; exact .str _, (by intro a y qs e; cases e), fun o a b h => ?_⟩
      rw [pas] at h
      cases h
      exact ⟨ad_pp0 hps, ad_pp0 hqs⟩
  · show go _ _ (cl.map ctD ++ [splD _ _ _]) _ = true
    have := go_cuts (rc := fun p L => snd 1 p L (0 + 1)) (few := decide (0 < 20)) (r := [splD p (pairsOf true ts.length N 0 e0 pl) (pairsOf true ts.length N 1 e1 pl)]) cl [] hc
    rw [List.append_nil] at this
    rw [this, List.nil_append]
    unfold go
    rw [pas]
    show (snd 1 (.tup [adD _]) _ 1 && snd 1 (.tup [adD _]) _ 1) = true
    have f1 : ∀ (ps : List (Int × Int)) (L : List Li), ps ≠ [] → (∀ q ∈ ps, 1 ≤ q.1 ∧ 0 ≤ q.2 ∧ q.2 < L.length) → endOk (L ++ [addL L ps]) = true → snd 1 (.tup [adD ps]) L 1 = true := fun ps L h0 h1 h2 => go_ad h0 h1 h2
    rw [f1 _ _ p3 (fun q hq => ⟨(p2 q hq).1.1, (p2 q hq).2.1, (p2 q hq).2.2⟩) (end_ok he0 (hpl.app (M := [p])) p1), f1 _ _ q3 (fun q hq => ⟨(q2 q hq).1.1, (q2 q hq).2.1, (q2 q hq).2.2⟩) (end_ok he1 (hpl.app (M := [negL p])) q1)]
    rfl
  · exact none_meet (p := p) (b := true) (es := [e0, e1]) ht rfl fun k e' h => by
      cases k with
      | zero => cases h; exact he0
      | succ k =>
        cases k with
        | zero => cases h; exact he1
        | succ k => cases h
  · rcases List.mem_append.mp hx with hx | hx
    · obtain ⟨q, h1, rfl⟩ := List.mem_map.mp hx
      exact ⟨_, rfl⟩
    · rw [List.mem_singleton.mp hx]; exact ⟨_, rfl⟩
  · rcases List.mem_append.mp hx with hx | hx
    · obtain ⟨q, h1, rfl⟩ := List.mem_map.mp hx
      exact Nat.zero_le _
    · rw [List.mem_singleton.mp hx]; exact Nat.zero_le _
end K37

set_option maxHeartbeats 1000000
namespace K37
open PySem PySem.Spec PyProof.Rows L2 DL SA
def eD (e : En) : DL.D := .tup [oD e.1, .lst (e.2.map .int)]
theorem csL_eq {t : Tri} (h : gT t) : sumD (gat (gat (t.1.1.map fun p => (p.1, t.2.1 * p.2)) ++ gat [])) (t.2.1 * t.1.2 + t.2.2) = oD (csL t) := by
  have e : gat (gat (t.1.1.map fun p => (p.1, t.2.1 * p.2)) ++ gat []) = scl t.2.1 t.1.1 := by
    rw [gat_app2, List.append_nil]
    exact gat_self (scl_rise h.lk.rise (by have := h.dv; omega))
  rw [e]; rfl
section
variable {G : Gd} {k : Nat} {S : Store} {Q E : QD} {args : List DL.D}
/-- the loop of the ends, and what is behind it -/
theorem builtA (ev : Ev G) {c i : Int} {th : List Tx} (hth : ∀ x ∈ th, x ∈ TH) (hl : th.length ≤ 3) {P : Post}
    (h : ∀ (ts : List Tri) (p : Li) (b : Bool) (es : List En) (i' : Int) (s8 s12 s13 s14 s15 s16 s17 : Option DL.D), 1 ≤ ts.length → ts.length ≤ 3 → (∀ t ∈ ts, gT t) → (∀ t ∈ ts, ∀ q ∈ t.1.1, q.1 ∈ th) → (∀ q ∈ p.1, q.1 ∈ th) → Lk p → es.length = (if b then 2 else 1) → (∀ (k : Nat) e, es[k]? = some e → gE ts (moreOf b p k) e) →
      wpSs T (orc G T (k + 7)) (ix__law_built.drop 7) P [some (.ref 0), some (.lst (th.map .str)), some (.lst (ts.map tD)), some (.lst ((ts.map csL).map oD)), some (oD p), some (.bl b), some (.ref 1), some (.lst [oD p, oD (negL p)]), s8, none, none, none, s12, s13, s14, s15, s16, s17] [dC c i', .lst (es.map eD)]) :
    wpSs T (orc G T (k + 7)) ix__law_built P (slots0 18 [.ref 0, .lst (th.map .str)]) [dC c i] := by
  ((try conv => whnf); repeat ((first | refine ⟨_, rfl, ?_⟩ | refine ⟨rfl, ?_⟩ | refine ⟨_, ix_head, ?_⟩ | refine ⟨⟨rfl, rfl⟩, ?_⟩ | refine iteW_t ?_ | refine iteW_f ?_ | refine wpSs_nl ?_); (try conv => whnf)))
  refine drawn (R := []) ev (by decide) fun m m0 m1 => ?_
  ((try conv => whnf); repeat ((first | refine ⟨_, rfl, ?_⟩ | refine ⟨rfl, ?_⟩ | refine ⟨_, ix_head, ?_⟩ | refine ⟨⟨rfl, rfl⟩, ?_⟩ | refine iteW_t ?_ | refine iteW_f ?_ | refine wpSs_nl ?_); (try conv => whnf)))
  obtain ⟨N, hN⟩ : ∃ N : Nat, 1 + m = (N : Int) := ⟨(1 + m).toNat, by omega⟩
  rw [hN]
  refine lawSums (k := k + 3) ev (by omega) hth hl fun ts i1 htl ht htk => ?_
  ((try conv => whnf); repeat ((first | refine ⟨_, rfl, ?_⟩ | refine ⟨rfl, ?_⟩ | refine ⟨_, ix_head, ?_⟩ | refine ⟨⟨rfl, rfl⟩, ?_⟩ | refine iteW_t ?_ | refine iteW_f ?_ | refine wpSs_nl ?_); (try conv => whnf)))
  refine lc_map tD (fun t => oD (csL t)) ts (by omega) trivial ?_ ?_
  · ((try conv => whnf); repeat ((first | refine ⟨_, rfl, ?_⟩ | refine ⟨rfl, ?_⟩ | refine ⟨_, ix_head, ?_⟩ | refine ⟨⟨rfl, rfl⟩, ?_⟩ | refine iteW_t ?_ | refine iteW_f ?_ | refine wpSs_nl ?_); (try conv => whnf)))
    refine lawSums (k := k + 3) (many := 1) ev (by omega) hth hl fun us i2 hul hu huk => ?_
    obtain ⟨p0, rfl⟩ : ∃ p0, us = [p0] := by
      match us, hul with
      | [p0], _ => exact ⟨p0, rfl⟩
    have hp := (hu p0 (by simp)).lk
    have lp := hp.len
    ((try conv => whnf); repeat ((first | refine ⟨_, rfl, ?_⟩ | refine ⟨rfl, ?_⟩ | refine ⟨_, ix_head, ?_⟩ | refine ⟨⟨rfl, rfl⟩, ?_⟩ | refine iteW_t ?_ | refine iteW_f ?_ | refine wpSs_nl ?_); (try conv => whnf)))
    refine drawn (R := []) ev (by decide) fun u u0 u1 => ?_
    ((try conv => whnf); repeat ((first | refine ⟨_, rfl, ?_⟩ | refine ⟨rfl, ?_⟩ | refine ⟨_, ix_head, ?_⟩ | refine ⟨⟨rfl, rfl⟩, ?_⟩ | refine iteW_t ?_ | refine iteW_f ?_ | refine wpSs_nl ?_); (try conv => whnf)))
    refine times (k := k + 3) (a := p0.1.1) (n := p0.1.2) ev (by decide) (by omega) ?_
    ((try conv => whnf); repeat ((first | refine ⟨_, rfl, ?_⟩ | refine ⟨rfl, ?_⟩ | refine ⟨_, ix_head, ?_⟩ | refine ⟨⟨rfl, rfl⟩, ?_⟩ | refine iteW_t ?_ | refine iteW_f ?_ | refine wpSs_nl ?_); (try conv => whnf)))
    refine sumOf (k := k + 4) (l := []) ev (.inl rfl) (by decide) ?_
    ((try conv => whnf); repeat ((first | refine ⟨_, rfl, ?_⟩ | refine ⟨rfl, ?_⟩ | refine ⟨_, ix_head, ?_⟩ | refine ⟨⟨rfl, rfl⟩, ?_⟩ | refine iteW_t ?_ | refine iteW_f ?_ | refine wpSs_nl ?_); (try conv => whnf)))
    have g1 := gat_len (p0.1.1.map fun p => (p.1, -1 * p.2))
    rw [List.length_map] at g1
    refine plus (k := k + 3) ev (by show _ + 0 < 64; omega) ?_
    rw [neg_eq' p0.1]
    generalize decide (u = 1) = b
    ((try conv => whnf); repeat ((first | refine ⟨_, rfl, ?_⟩ | refine ⟨rfl, ?_⟩ | refine ⟨_, ix_head, ?_⟩ | refine ⟨⟨rfl, rfl⟩, ?_⟩ | refine iteW_t ?_ | refine iteW_f ?_ | refine wpSs_nl ?_); (try conv => whnf)))
    obtain ⟨N, hN2, hNb⟩ : ∃ N : Nat, (1 + if b = true then (1 : Int) else 0) = (N : Int) ∧ N = if b then 2 else 1 := by
      cases b with
      | false => exact ⟨1, rfl, rfl⟩
      | true => exact ⟨2, rfl, rfl⟩
    rw [hN2, Int.toNat_natCast]
    refine ⟨by cases b <;> simp at hNb <;> omega, ?_⟩
    refine for_rng N (fun n τ S => ∃ (es : List En) (i' : Int) (s8 s12 s13 s14 s15 s16 s17 : Option DL.D), es.length = n ∧ (∀ (k : Nat) e, es[k]? = some e → gE ts (moreOf b p0.1 k) e) ∧ S = [dC c i', .lst (es.map eD)] ∧ τ = [some (.ref 0), some (.lst (th.map .str)), some (.lst (ts.map tD)), some (.lst ((ts.map csL).map oD)), some (oD p0.1), some (.bl b), some (.ref 1), some (.lst [oD p0.1, oD (negL p0.1)]), s8, none, none, none, s12, s13, s14, s15, s16, s17]) ⟨[], _, none, none, none, none, none, none, none, rfl, (by intro k e h; cases h), rfl, ?_⟩ ?_ ?_
    · rw [List.map_map]; rfl
    · rintro τ S ⟨es, i', s8, s12, s13, s14, s15, s16, s17, hes, he, rfl, rfl⟩
      exact ⟨trivial, h ts p0.1 b es i' s8 s12 s13 s14 s15 s16 s17 (by omega) (by omega) ht htk (huk p0 (by simp)) hp (hes.trans hNb) he⟩
    · rintro n τ S Nx hn hN3 ⟨es, i', s8, s12, s13, s14, s15, s16, s17, hes, he, rfl, rfl⟩
      have next : ∀ (o : Li) (i3 : Int), moreOf b p0.1 n = o → ∀ (f : Li) (ws : List Int) (j : Int), ws.length = ts.length → (∀ w ∈ ws, 1 ≤ w ∧ w ≤ 3) → 0 ≤ j → Lk f → (∀ g, Lin g → g f.1 = - g o.1 - dot (fun t => g t.1) ws ts) → f.2 = -1 - j - o.2 - dot (·.2) ws ts → ∀ (k : Nat) e, (es ++ [(f, ws)])[k]? = some e → gE ts (moreOf b p0.1 k) e := by
        intro o i3 ho f ws j h1 h2 h3 h4 h5 h6 k e hk
        by_cases hlt : k < es.length
        · rw [List.getElem?_append_left hlt] at hk
          exact he k e hk
        · have hk2 := (List.getElem?_eq_some_iff.mp hk).1
          rw [List.length_append] at hk2
          have hk2 : k < es.length + 1 := hk2
          have : k = n := by omega
          subst this
          rw [← hes, List.getElem?_concat_length] at hk
          cases hk
          rw [ho]
          exact ⟨h1, h2, h4, h5, j, h3, h6⟩
      have hcase : (b = false ∧ n = 0) ∨ (b = true ∧ n = 0) ∨ (b = true ∧ n = 1) := by
        cases b with
        | false => left; simp at hNb; exact ⟨rfl, by omega⟩
        | true =>
          simp at hNb
          have : n = 0 ∨ n = 1 := by omega
          rcases this with h | h
          · exact .inr (.inl ⟨rfl, h⟩)
          · exact .inr (.inr ⟨rfl, h⟩)
      refine ⟨trivial, ?_⟩
      rcases hcase with ⟨rfl, rfl⟩ | ⟨rfl, rfl⟩ | ⟨rfl, rfl⟩
      · ((try conv => whnf); repeat ((first | refine ⟨_, rfl, ?_⟩ | refine ⟨rfl, ?_⟩ | refine ⟨_, ix_head, ?_⟩ | refine ⟨⟨rfl, rfl⟩, ?_⟩ | refine iteW_t ?_ | refine iteW_f ?_ | refine wpSs_nl ?_); (try conv => whnf)))
        refine sumOf (k := k + 4) (l := []) ev (.inl rfl) (by decide) ?_
        rw [gat_nil]
        ((try conv => whnf); repeat ((first | refine ⟨_, rfl, ?_⟩ | refine ⟨rfl, ?_⟩ | refine ⟨_, ix_head, ?_⟩ | refine ⟨⟨rfl, rfl⟩, ?_⟩ | refine iteW_t ?_ | refine iteW_f ?_ | refine wpSs_nl ?_); (try conv => whnf)))
        refine lawLast (k := k + 1) (R := [.lst (es.map eD)]) (o := ([], 0)) ev (by omega) ht ⟨rise_nil, fun p hp => absurd hp List.not_mem_nil⟩ fun f ws j i3 h1 h2 h3 h4 h5 h6 => ?_
        ((try conv => whnf); repeat ((first | refine ⟨_, rfl, ?_⟩ | refine ⟨rfl, ?_⟩ | refine ⟨_, ix_head, ?_⟩ | refine ⟨⟨rfl, rfl⟩, ?_⟩ | refine iteW_t ?_ | refine iteW_f ?_ | refine wpSs_nl ?_); (try conv => whnf)))
        refine ⟨by rw [List.length_map]; omega, ?_⟩
        exact hN3 _ _ ⟨_, _, .refl, es ++ [(f, ws)], i3, _, _, _, _, _, _, _, by rw [List.length_append, hes]; rfl, next _ i3 rfl f ws j h1 h2 h3 h4 h5 h6, by rw [List.map_append]; rfl, rfl⟩
      · ((try conv => whnf); repeat ((first | refine ⟨_, rfl, ?_⟩ | refine ⟨rfl, ?_⟩ | refine ⟨_, ix_head, ?_⟩ | refine ⟨⟨rfl, rfl⟩, ?_⟩ | refine iteW_t ?_ | refine iteW_f ?_ | refine wpSs_nl ?_); (try conv => whnf)))
        refine sumOf (k := k + 4) (l := []) ev (.inl rfl) (by decide) ?_
        ((try conv => whnf); repeat ((first | refine ⟨_, rfl, ?_⟩ | refine ⟨rfl, ?_⟩ | refine ⟨_, ix_head, ?_⟩ | refine ⟨⟨rfl, rfl⟩, ?_⟩ | refine iteW_t ?_ | refine iteW_f ?_ | refine wpSs_nl ?_); (try conv => whnf)))
        refine lawLast (k := k + 1) (R := [.lst (es.map eD)]) (o := p0.1) ev (by omega) ht hp fun f ws j i3 h1 h2 h3 h4 h5 h6 => ?_
        ((try conv => whnf); repeat ((first | refine ⟨_, rfl, ?_⟩ | refine ⟨rfl, ?_⟩ | refine ⟨_, ix_head, ?_⟩ | refine ⟨⟨rfl, rfl⟩, ?_⟩ | refine iteW_t ?_ | refine iteW_f ?_ | refine wpSs_nl ?_); (try conv => whnf)))
        refine ⟨by rw [List.length_map]; omega, ?_⟩
        exact hN3 _ _ ⟨_, _, .refl, es ++ [(f, ws)], i3, _, _, _, _, _, _, _, by rw [List.length_append, hes]; rfl, next _ i3 rfl f ws j h1 h2 h3 h4 h5 h6, by rw [List.map_append]; rfl, rfl⟩
      · ((try conv => whnf); repeat ((first | refine ⟨_, rfl, ?_⟩ | refine ⟨rfl, ?_⟩ | refine ⟨_, ix_head, ?_⟩ | refine ⟨⟨rfl, rfl⟩, ?_⟩ | refine iteW_t ?_ | refine iteW_f ?_ | refine wpSs_nl ?_); (try conv => whnf)))
        refine sumOf (k := k + 4) (l := []) ev (.inl rfl) (by decide) ?_
        ((try conv => whnf); repeat ((first | refine ⟨_, rfl, ?_⟩ | refine ⟨rfl, ?_⟩ | refine ⟨_, ix_head, ?_⟩ | refine ⟨⟨rfl, rfl⟩, ?_⟩ | refine iteW_t ?_ | refine iteW_f ?_ | refine wpSs_nl ?_); (try conv => whnf)))
        refine lawLast (k := k + 1) (R := [.lst (es.map eD)]) (o := negL p0.1) ev (by omega) ht (negL_lk hp) fun f ws j i3 h1 h2 h3 h4 h5 h6 => ?_
        ((try conv => whnf); repeat ((first | refine ⟨_, rfl, ?_⟩ | refine ⟨rfl, ?_⟩ | refine ⟨_, ix_head, ?_⟩ | refine ⟨⟨rfl, rfl⟩, ?_⟩ | refine iteW_t ?_ | refine iteW_f ?_ | refine wpSs_nl ?_); (try conv => whnf)))
        refine ⟨by rw [List.length_map]; omega, ?_⟩
        exact hN3 _ _ ⟨_, _, .refl, es ++ [(f, ws)], i3, _, _, _, _, _, _, _, by rw [List.length_append, hes]; rfl, next _ i3 rfl f ws j h1 h2 h3 h4 h5 h6, by rw [List.map_append]; rfl, rfl⟩
  · intro t htm N1 N2 h1
    have hg := ht t htm
    have lt := hg.lk.len
    have hd := hg.dv
    ((try conv => whnf); repeat ((first | refine ⟨_, rfl, ?_⟩ | refine ⟨rfl, ?_⟩ | refine ⟨_, ix_head, ?_⟩ | refine ⟨⟨rfl, rfl⟩, ?_⟩ | refine iteW_t ?_ | refine iteW_f ?_ | refine wpSs_nl ?_); (try conv => whnf)))
    refine times (k := k + 3) (a := t.1.1) (n := t.1.2) ev (by omega) (by omega) ?_
    ((try conv => whnf); repeat ((first | refine ⟨_, rfl, ?_⟩ | refine ⟨rfl, ?_⟩ | refine ⟨_, ix_head, ?_⟩ | refine ⟨⟨rfl, rfl⟩, ?_⟩ | refine iteW_t ?_ | refine iteW_f ?_ | refine wpSs_nl ?_); (try conv => whnf)))
    refine sumOf (k := k + 4) (l := []) ev (.inl rfl) (by decide) ?_
    ((try conv => whnf); repeat ((first | refine ⟨_, rfl, ?_⟩ | refine ⟨rfl, ?_⟩ | refine ⟨_, ix_head, ?_⟩ | refine ⟨⟨rfl, rfl⟩, ?_⟩ | refine iteW_t ?_ | refine iteW_f ?_ | refine wpSs_nl ?_); (try conv => whnf)))
    have g1 := gat_len (t.1.1.map fun p => (p.1, t.2.1 * p.2))
    rw [List.length_map] at g1
    refine plus (k := k + 3) ev (by show _ + 0 < 64; omega) ?_
    rw [csL_eq hg]
    exact h1
end
end K37

set_option maxHeartbeats 1000000
namespace K37
open PySem PySem.Spec PyProof.Rows L2 DL SA
theorem csL_one {t : Tri} (h : gT t) (h1 : ¬ 1 < t.2.1) : csL t = t.1 := by
  have h2 : t.2.1 = 1 := by have := h.dv; omega
  have h3 : t.2.2 = 0 := by have := h.r0; have := h.r1; omega
  unfold csL
  rw [h2, h3, Int.one_mul, Int.add_zero]
  have : scl 1 t.1.1 = t.1.1 := by
    unfold scl
    conv => rhs; rw [← List.map_id t.1.1]
    apply List.map_congr_left
    intro p _
    show (p.1, 1 * p.2) = p
    rw [Int.one_mul]
  rw [this]
def caseOf (ts : List Tri) (es : List En) : List Li := ts.map csL ++ es.map (·.1)
section
variable {G : Gd} {k : Nat} {S : Store} {Q E : QD} {args : List DL.D}
/-- the loop of the places -/
theorem builtB (ev : Ev G) {c i : Int} {th : List Tx} {ts : List Tri} {p : Li} {b : Bool} {es : List En} {P : Post} {s8 s12 s13 s14 s15 s16 s17 : Option DL.D} (hl0 : 1 ≤ ts.length) (hl3 : ts.length ≤ 3) (ht : ∀ t ∈ ts, gT t) (hel : es.length ≤ 2)
    (h : ∀ (cl : List Ct) (pl : List Int) (s8 s16 : Option DL.D), (∀ q ∈ cl, ctOk (caseOf ts es) q) → cl.length ≤ ts.length → plOk (caseOf ts es ++ cl.map (·.2.1)) pl ts →
      wpSs T (orc G T (k + 7)) (ix__law_built.drop 11) P [some (.ref 0), some (.lst (th.map .str)), some (.lst (ts.map tD)), some (.lst ((caseOf ts es).map oD)), some (oD p), some (.bl b), some (.ref 1), some (.lst [oD p, oD (negL p)]), s8, some (.ref 2), some (.ref 3), none, s12, s13, s14, s15, s16, s17] [dC c i, .lst (es.map eD), .lst (cl.map ctD), .lst (pl.map .int)]) :
    wpSs T (orc G T (k + 7)) (ix__law_built.drop 7) P [some (.ref 0), some (.lst (th.map .str)), some (.lst (ts.map tD)), some (.lst ((ts.map csL).map oD)), some (oD p), some (.bl b), some (.ref 1), some (.lst [oD p, oD (negL p)]), s8, none, none, none, s12, s13, s14, s15, s16, s17] [dC c i, .lst (es.map eD)] := by
  ((try conv => whnf); repeat ((first | refine ⟨_, rfl, ?_⟩ | refine ⟨rfl, ?_⟩ | refine ⟨_, ix_head, ?_⟩ | refine ⟨⟨rfl, rfl⟩, ?_⟩ | refine iteW_t ?_ | refine iteW_f ?_ | refine wpSs_nl ?_); (try conv => whnf)))
  refine lc_map eD (fun e => oD e.1) es (by omega) ?_ ?_ ?_
  · trivial
  · ((try conv => whnf); repeat ((first | refine ⟨_, rfl, ?_⟩ | refine ⟨rfl, ?_⟩ | refine ⟨_, ix_head, ?_⟩ | refine ⟨⟨rfl, rfl⟩, ?_⟩ | refine iteW_t ?_ | refine iteW_f ?_ | refine wpSs_nl ?_); (try conv => whnf)))
    refine ⟨by rw [List.length_map, List.length_map, List.length_map]; omega, ?_⟩
    have e1 : (ts.map csL).map oD ++ es.map (fun e => oD e.1) = (caseOf ts es).map oD := by
      unfold caseOf; rw [List.map_append, List.map_map (l := es)]; rfl
    rw [e1]
    ((try conv => whnf); repeat ((first | refine ⟨_, rfl, ?_⟩ | refine ⟨rfl, ?_⟩ | refine ⟨_, ix_head, ?_⟩ | refine ⟨⟨rfl, rfl⟩, ?_⟩ | refine iteW_t ?_ | refine iteW_f ?_ | refine wpSs_nl ?_); (try conv => whnf)))
    rw [List.length_map]
    refine ⟨⟨by omega, by omega⟩, ?_⟩
    refine for_rng ts.length (fun n τ S => ∃ (cl : List Ct) (pl : List Int) (s8 : Option DL.D), (∀ q ∈ cl, ctOk (caseOf ts es) q) ∧ cl.length ≤ n ∧ plOk (caseOf ts es ++ cl.map (·.2.1)) pl (ts.take n) ∧ S = [dC c i, .lst (es.map eD), .lst (cl.map ctD), .lst (pl.map .int)] ∧ τ = [some (.ref 0), some (.lst (th.map .str)), some (.lst (ts.map tD)), some (.lst ((caseOf ts es).map oD)), some (oD p), some (.bl b), some (.ref 1), some (.lst [oD p, oD (negL p)]), s8, some (.ref 2), some (.ref 3), none, s12, s13, s14, s15, s16, s17]) ⟨[], [], s8, fun _ h => absurd h List.not_mem_nil, Nat.le_refl _, trivial, rfl, rfl⟩ ?_ ?_
    · rintro τ S ⟨cl, pl, s8, hc, hcl, hp, rfl, rfl⟩
      rw [List.take_length] at hp
      exact ⟨trivial, h cl pl s8 _ hc hcl hp⟩
    · rintro n τ S Nx hn hN ⟨cl, pl, s8, hc, hcl, hp, rfl, rfl⟩
      have hpl := hp.len
      rw [List.length_take] at hpl
      have hpl : pl.length = n := by omega
      have e2 : ts[n]? = some ts[n] := List.getElem?_eq_getElem hn
      have htn := ht _ (List.getElem_mem hn)
      have hC : (caseOf ts es)[n]? = some (csL ts[n]) := by
        show (ts.map csL ++ _)[n]? = _
        rw [List.getElem?_append_left (by rw [List.length_map]; exact hn), List.getElem?_map, e2]; rfl
      have hCl : (caseOf ts es).length = ts.length + es.length := by unfold caseOf; rw [List.length_append, List.length_map, List.length_map]
      have hix : (ixOf (ts.map tD).length (n : Int)).bind ((ts.map tD)[·]?) = some (tD ts[n]) := ix_map tD (by omega) (by rw [Int.toNat_natCast]; exact e2)
      refine ⟨trivial, ?_⟩
      ((try conv => whnf); repeat ((first | refine ⟨_, rfl, ?_⟩ | refine ⟨rfl, ?_⟩ | refine ⟨_, ix_head, ?_⟩ | refine ⟨⟨rfl, rfl⟩, ?_⟩ | refine iteW_t ?_ | refine iteW_f ?_ | refine wpSs_nl ?_); (try conv => whnf)))
      refine ⟨by rw [List.length_map]; omega, ?_⟩
      ((try conv => whnf); repeat ((first | refine ⟨_, rfl, ?_⟩ | refine ⟨rfl, ?_⟩ | refine ⟨_, ix_head, ?_⟩ | refine ⟨⟨rfl, rfl⟩, ?_⟩ | refine iteW_t ?_ | refine iteW_f ?_ | refine wpSs_nl ?_); (try conv => whnf)))
      refine ⟨_, hix, ?_⟩
      ((try conv => whnf); repeat ((first | refine ⟨_, rfl, ?_⟩ | refine ⟨rfl, ?_⟩ | refine ⟨_, ix_head, ?_⟩ | refine ⟨⟨rfl, rfl⟩, ?_⟩ | refine iteW_t ?_ | refine iteW_f ?_ | refine wpSs_nl ?_); (try conv => whnf)))
      refine iteW_d (fun hb => ?_) fun hb => ?_
      · have hg : (1 : Int) < ts[n].2.1 := hb
        ((try conv => whnf); repeat ((first | refine ⟨_, rfl, ?_⟩ | refine ⟨rfl, ?_⟩ | refine ⟨_, ix_head, ?_⟩ | refine ⟨⟨rfl, rfl⟩, ?_⟩ | refine iteW_t ?_ | refine iteW_f ?_ | refine wpSs_nl ?_); (try conv => whnf)))
        refine ⟨n, ?_, ?_⟩
        · rw [List.length_append, List.length_map, hpl, ixOf_in (by omega) (by show (n : Int) < ((n + 1 : Nat) : Int); omega), Int.toNat_natCast]
        have hset : ∀ z : DL.D, (pl.map DL.D.int ++ [DL.D.int (n : Int)]).set n z = pl.map DL.D.int ++ [z] := fun z => by
          rw [List.set_append_right _ _ (by rw [List.length_map, hpl]; exact Nat.le_refl _), List.length_map, hpl, Nat.sub_self]; rfl
        ((try conv => whnf); repeat ((first | refine ⟨_, rfl, ?_⟩ | refine ⟨rfl, ?_⟩ | refine ⟨_, ix_head, ?_⟩ | refine ⟨⟨rfl, rfl⟩, ?_⟩ | refine iteW_t ?_ | refine iteW_f ?_ | refine wpSs_nl ?_); (try conv => whnf)))
        rw [hset]
        refine ⟨_, hix, ?_⟩
        ((try conv => whnf); repeat ((first | refine ⟨_, rfl, ?_⟩ | refine ⟨rfl, ?_⟩ | refine ⟨_, ix_head, ?_⟩ | refine ⟨⟨rfl, rfl⟩, ?_⟩ | refine iteW_t ?_ | refine iteW_f ?_ | refine wpSs_nl ?_); (try conv => whnf)))
        refine ⟨by rw [List.length_map]; omega, ?_⟩
        refine hN _ _ ⟨_, _, .refl, cl ++ [(n, ts[n])], pl ++ [(((caseOf ts es).length + cl.length : Nat) : Int)], _, ?_, by rw [List.length_append]; show cl.length + 1 ≤ n + 1; omega, ?_, ?_, rfl⟩
        · intro q hq
          rcases List.mem_append.mp hq with hq | hq
          · exact hc q hq
          · rw [List.mem_singleton.mp hq]
            exact ⟨hC, htn, hg⟩
        · rw [List.take_succ_eq_append_getElem hn, List.map_append, ← List.append_assoc]
          refine (hp.app).snoc ⟨by omega, ?_, ?_⟩
          · rw [List.length_append, List.length_append, List.length_map]
            show (((caseOf ts es).length + cl.length : Nat) : Int) < (((caseOf ts es).length + cl.length + 1 : Nat) : Int)
            omega
          · refine getL_at ?_
            rw [List.getElem?_append_right (by rw [List.length_append, List.length_map]; exact Nat.le_refl _), List.length_append, List.length_map, Nat.sub_self]
            rfl
        · have el : ((((caseOf ts es).map oD).length : Int) + ((cl.map ctD).length : Int)) = (((caseOf ts es).length + cl.length : Nat) : Int) := by
            rw [List.length_map, List.length_map]; omega
          rw [List.map_append (f := ctD), List.map_append (f := DL.D.int), ← el]
          rfl
      · ((try conv => whnf); repeat ((first | refine ⟨_, rfl, ?_⟩ | refine ⟨rfl, ?_⟩ | refine ⟨_, ix_head, ?_⟩ | refine ⟨⟨rfl, rfl⟩, ?_⟩ | refine iteW_t ?_ | refine iteW_f ?_ | refine wpSs_nl ?_); (try conv => whnf)))
        refine hN _ _ ⟨_, _, .refl, cl, pl ++ [(n : Int)], _, hc, by omega, ?_, by rw [List.map_append]; rfl, rfl⟩
        rw [List.take_succ_eq_append_getElem hn]
        refine hp.snoc ⟨by omega, ?_, ?_⟩
        · rw [List.length_append, hCl]; omega
        · rw [getL_app (by omega) (by rw [hCl]; omega), getL_at hC, csL_one htn hb]
  · intro e he N1 N2 h1
    ((try conv => whnf); repeat ((first | refine ⟨_, rfl, ?_⟩ | refine ⟨rfl, ?_⟩ | refine ⟨_, ix_head, ?_⟩ | refine ⟨⟨rfl, rfl⟩, ?_⟩ | refine iteW_t ?_ | refine iteW_f ?_ | refine wpSs_nl ?_); (try conv => whnf)))
    exact h1
end
end K37

set_option maxHeartbeats 1000000
namespace K37
open PySem PySem.Spec PyProof.Rows L2 DL SA
theorem bels_strs' (n : Nat) : ∀ ws : List Tx, bels n (ws.map DL.D.str) = true
  | [] => rfl
  | w :: r => by
    show (true && bels n (r.map DL.D.str)) = true
    rw [bels_strs' n r]; rfl
theorem bels_ints (n : Nat) : ∀ ws : List Int, bels n (ws.map DL.D.int) = true
  | [] => rfl
  | w :: r => by
    show (true && bels n (r.map DL.D.int)) = true
    rw [bels_ints n r]; rfl
theorem bels_prI (n : Nat) : ∀ ps : List (Int × Int), bels n (ps.map prI) = true
  | [] => rfl
  | p :: r => by
    show ((true && (true && true)) && bels n (r.map prI)) = true
    rw [bels_prI n r]; rfl
theorem bels_eD (n : Nat) : ∀ es : List En, bels n (es.map eD) = true
  | [] => rfl
  | e :: r => by
    show ((bel n (oD e.1) && (bels n (e.2.map DL.D.int) && true)) && bels n (r.map eD)) = true
    rw [bels_prs, bels_ints, bels_eD n r]; rfl
theorem bels_ct (n : Nat) : ∀ cl : List Ct, bels n (cl.map ctD) = true
  | [] => rfl
  | q :: r => by
    show ((true && (true && (true && true))) && bels n (r.map ctD)) = true
    rw [bels_ct n r]; rfl
theorem bel_ad (n : Nat) (ps : List (Int × Int)) : bel n (adD ps) = true := by
  show (true && (bels n (ps.map prI) && true)) = true
  rw [bels_prI]; rfl
/-- the lines within -/
def inD (ps : List (Int × Int)) : DL.D := .tup [adD ps]
theorem bels_in (n : Nat) : ∀ l : List (List (Int × Int)), bels n (l.map inD) = true
  | [] => rfl
  | ps :: r => by
    show ((bel n (adD ps) && true) && bels n (r.map inD)) = true
    rw [bel_ad, bels_in n r]; rfl
section
variable {G : Gd} {k : Nat} {S : Store} {Q E : QD} {args : List DL.D}
theorem builtC (ev : Ev G) {c i : Int} {th : List Tx} {ts : List Tri} {p : Li} {b : Bool} {es : List En} {cl : List Ct} {pl : List Int} {P : Post} {s8 s12 s13 s14 s15 s16 s17 : Option DL.D} (hl0 : 1 ≤ ts.length) (hl3 : ts.length ≤ 3) (hel : es.length ≤ 2) (hes : es.length = if b then 2 else 1) (hpl : pl.length = ts.length) (hcl : cl.length ≤ 3) (hCl : (caseOf ts es).length ≤ 5) (hel2 : ∀ e ∈ es, e.2.length = ts.length)
    (h : ∀ (ps : Nat → List (Int × Int)) (cells : Store), (∀ k e, es[k]? = some e → ps k = pairsOf b ts.length ((caseOf ts es).length + cl.length) k e pl) → P.rt (.tup [.tup ((caseOf ts es).map oD), .tup (cl.map ctD ++ [match b with
      | true => splD p (ps 0) (ps 1)
      | false => adD (ps 0)])]) (dC c i :: cells)) :
    wpSs T (orc G T (k + 7)) (ix__law_built.drop 11) P [some (.ref 0), some (.lst (th.map .str)), some (.lst (ts.map tD)), some (.lst ((caseOf ts es).map oD)), some (oD p), some (.bl b), some (.ref 1), some (.lst [oD p, oD (negL p)]), s8, some (.ref 2), some (.ref 3), none, s12, s13, s14, s15, s16, s17] [dC c i, .lst (es.map eD), .lst (cl.map ctD), .lst (pl.map .int)] := by
  ((try conv => whnf); repeat ((first | refine ⟨_, rfl, ?_⟩ | refine ⟨rfl, ?_⟩ | refine ⟨_, ix_head, ?_⟩ | refine ⟨⟨rfl, rfl⟩, ?_⟩ | refine iteW_t ?_ | refine iteW_f ?_ | refine wpSs_nl ?_); (try conv => whnf)))
  rw [List.length_map]
  refine ⟨⟨by omega, by omega⟩, ?_⟩
  obtain ⟨ps, hps⟩ : ∃ ps : Nat → List (Int × Int), ∀ k, ps k = pairsOf b ts.length ((caseOf ts es).length + cl.length) k (es.getD k (([], 0), [])) pl := ⟨_, fun _ => rfl⟩
  have hps2 : ∀ k e, es[k]? = some e → ps k = pairsOf b ts.length ((caseOf ts es).length + cl.length) k e pl := fun k e he => by
    rw [hps, List.getD_eq_getElem?_getD, he]; rfl
  refine for_rng es.length (fun n τ S => ∃ (s8 s12 s13 s14 s15 s16 s17 : Option DL.D), S = [dC c i, .lst (es.map eD), .lst (cl.map ctD), .lst (pl.map .int), .lst (((List.range n).map ps).map inD)] ∧ τ = [some (.ref 0), some (.lst (th.map .str)), some (.lst (ts.map tD)), some (.lst ((caseOf ts es).map oD)), some (oD p), some (.bl b), some (.ref 1), some (.lst [oD p, oD (negL p)]), s8, some (.ref 2), some (.ref 3), some (.ref 4), s12, s13, s14, s15, s16, s17]) ⟨s8, s12, s13, s14, s15, s16, s17, rfl, rfl⟩ ?_ ?_
  · rintro τ S ⟨s8, s12, s13, s14, s15, s16, s17, rfl, rfl⟩
    refine ⟨trivial, ?_⟩
    cases b with
    | false =>
      have hes : es.length = 1 := hes
      rw [hes]
      ((try conv => whnf); repeat ((first | refine ⟨_, rfl, ?_⟩ | refine ⟨rfl, ?_⟩ | refine ⟨_, ix_head, ?_⟩ | refine ⟨⟨rfl, rfl⟩, ?_⟩ | refine iteW_t ?_ | refine iteW_f ?_ | refine wpSs_nl ?_); (try conv => whnf)))
      refine ⟨by rw [List.length_map]; show cl.length + 1 ≤ _; omega, ?_⟩
      ((try conv => whnf); repeat ((first | refine ⟨_, rfl, ?_⟩ | refine ⟨rfl, ?_⟩ | refine ⟨_, ix_head, ?_⟩ | refine ⟨⟨rfl, rfl⟩, ?_⟩ | refine iteW_t ?_ | refine iteW_f ?_ | refine wpSs_nl ?_); (try conv => whnf)))
      exact h ps _ hps2
    | true =>
      have hes : es.length = 2 := hes
      rw [hes]
      ((try conv => whnf); repeat ((first | refine ⟨_, rfl, ?_⟩ | refine ⟨rfl, ?_⟩ | refine ⟨_, ix_head, ?_⟩ | refine ⟨⟨rfl, rfl⟩, ?_⟩ | refine iteW_t ?_ | refine iteW_f ?_ | refine wpSs_nl ?_); (try conv => whnf)))
      refine ⟨by rw [List.length_map]; show cl.length + 1 ≤ _; omega, ?_⟩
      ((try conv => whnf); repeat ((first | refine ⟨_, rfl, ?_⟩ | refine ⟨rfl, ?_⟩ | refine ⟨_, ix_head, ?_⟩ | refine ⟨⟨rfl, rfl⟩, ?_⟩ | refine iteW_t ?_ | refine iteW_f ?_ | refine wpSs_nl ?_); (try conv => whnf)))
      exact h ps _ hps2
  · rintro n τ S Nx hn hN ⟨s8, s12, s13, s14, s15, s16, s17, rfl, rfl⟩
    have e2 : es[n]? = some es[n] := List.getElem?_eq_getElem hn
    have hlen := hel2 _ (List.getElem_mem hn)
    have hix : (ixOf (es.map eD).length (n : Int)).bind ((es.map eD)[·]?) = some (eD es[n]) := ix_map eD (by omega) (by rw [Int.toNat_natCast]; exact e2)
    have fin : ∀ (x12 : Option DL.D) (cell : Cell), wipeS [some (.ref 0), some (.lst (th.map .str)), some (.lst (ts.map tD)), some (.lst ((caseOf ts es).map oD)), some (oD p), some (.bl b), some (.ref 1), some (.lst [oD p, oD (negL p)]), some (.int (n : Int)), some (.ref 2), some (.ref 3), some (.ref 4), x12, s13, s14, s15, s16, s17] [8, 12, 13, 14, 15, 16, 17] = [some (.ref 0), some (.lst (th.map .str)), some (.lst (ts.map tD)), some (.lst ((caseOf ts es).map oD)), some (oD p), some (.bl b), some (.ref 1), some (.lst [oD p, oD (negL p)]), none, some (.ref 2), some (.ref 3), some (.ref 4), none, none, none, none, none, none] := fun _ _ => rfl
    refine ⟨trivial, ?_⟩
    ((try conv => whnf); repeat ((first | refine ⟨_, rfl, ?_⟩ | refine ⟨rfl, ?_⟩ | refine ⟨_, ix_head, ?_⟩ | refine ⟨⟨rfl, rfl⟩, ?_⟩ | refine iteW_t ?_ | refine iteW_f ?_ | refine wpSs_nl ?_); (try conv => whnf)))
    rw [List.length_map]
    refine ⟨⟨by omega, by omega⟩, ?_⟩
    have hzl : (es[n].2.zip pl).length = ts.length := by rw [List.length_zip, hlen, hpl, Nat.min_self]
    refine lc_rng ts.length (fun acc S' => S' = [dC c i, .lst (es.map eD), .lst (cl.map ctD), .lst (pl.map .int), .lst (((List.range n).map ps).map inD)] ∧ acc = ((es[n].2.zip pl).take acc.length).map prI) ⟨rfl, rfl⟩ (by omega) ?_ ?_
    · rintro acc S' hal ⟨rfl, ha⟩
      rw [hal, ← hzl, List.take_length] at ha
      rw [ha]
      refine ⟨trivial, ?_⟩
      ((try conv => whnf); repeat ((first | refine ⟨_, rfl, ?_⟩ | refine ⟨rfl, ?_⟩ | refine ⟨_, ix_head, ?_⟩ | refine ⟨⟨rfl, rfl⟩, ?_⟩ | refine iteW_t ?_ | refine iteW_f ?_ | refine wpSs_nl ?_); (try conv => whnf)))
      refine ⟨by rw [List.length_map, hzl]; show ts.length + 1 ≤ _; omega, ?_⟩
      rw [List.length_map]
      have e4 : ((ts.length : Int) + (n : Int)) = ((ts.length + n : Nat) : Int) := by omega
      rw [e4]
      have hA : belS 5 [dC c i, .lst (es.map eD), .lst (cl.map ctD), .lst (pl.map .int), .lst (((List.range (n + 1)).map ps).map inD)] = true := by
        show ((true && (true && true)) && (bels 5 (es.map eD) && (bels 5 (cl.map ctD) && (bels 5 (pl.map DL.D.int) && (bels 5 (((List.range (n + 1)).map ps).map inD) && true))))) = true
        rw [bels_eD, bels_ct, bels_ints, bels_in]; rfl
      have hτ : belSl 5 [some (.ref 0), some (.lst (th.map .str)), some (.lst (ts.map tD)), some (.lst ((caseOf ts es).map oD)), some (oD p), some (.bl b), some (.ref 1), some (.lst [oD p, oD (negL p)]), none, some (.ref 2), some (.ref 3), some (.ref 4), none, none, none, none, none, none] = true := by
        show (true && (bels 5 (th.map DL.D.str) && (bels 5 (ts.map tD) && (bels 5 ((caseOf ts es).map oD) && (bel 5 (oD p) && (true && (true && ((bel 5 (oD p) && (bel 5 (oD (negL p)) && true)) && (true && (true && (true && true))))))))))) = true
        rw [bels_strs', bels_tD, bels_oD, bels_prs, bels_prs]; rfl
      have hr : ((List.range (n + 1)).map ps).map inD = ((List.range n).map ps).map inD ++ [inD (ps n)] := by
        rw [List.range_succ, List.map_append, List.map_append]; rfl
      have hfin : ∀ (x12 : Option DL.D) (cell : Cell) (L4 : List DL.D), L4 = ((List.range n).map ps).map inD ++ [inD (ps n)] → Nx [some (.ref 0), some (.lst (th.map .str)), some (.lst (ts.map tD)), some (.lst ((caseOf ts es).map oD)), some (oD p), some (.bl b), some (.ref 1), some (.lst [oD p, oD (negL p)]), some (.int (n : Int)), some (.ref 2), some (.ref 3), some (.ref 4), x12, s13, s14, s15, s16, s17] [dC c i, .lst (es.map eD), .lst (cl.map ctD), .lst (pl.map .int), .lst L4, cell] := fun x12 cell L4 hL4 => by
        refine hN _ _ ⟨_, _, .wipe [8, 12, 13, 14, 15, 16, 17] (.trim [dC c i, .lst (es.map eD), .lst (cl.map ctD), .lst (pl.map .int), .lst (((List.range (n + 1)).map ps).map inD)] [cell] ?_ (Nat.le_refl _) hA hτ .refl), none, none, none, none, none, none, none, rfl, rfl⟩
        rw [hr, hL4]; rfl
      have hpn := hps2 n _ e2
      have hz : ∀ x : List (Int × Int), (es[n].2.zip pl).map prI ++ x.map prI = ((es[n].2.zip pl) ++ x).map prI := fun x => (List.map_append).symm
      cases b with
      | false =>
        have hpn : ps n = es[n].2.zip pl ++ [(1, ((ts.length + n : Nat) : Int))] ++ [] := hpn
        ((try conv => whnf); repeat ((first | refine ⟨_, rfl, ?_⟩ | refine ⟨rfl, ?_⟩ | refine ⟨_, ix_head, ?_⟩ | refine ⟨⟨rfl, rfl⟩, ?_⟩ | refine iteW_t ?_ | refine iteW_f ?_ | refine wpSs_nl ?_); (try conv => whnf)))
        refine ⟨by rw [List.length_map, List.length_map, List.length_range]; omega, ?_⟩
        refine hfin _ _ _ ?_
        rw [hpn, List.append_nil]
        show _ ++ [DL.D.tup [.tup [_, .tup (_ ++ [prI (1, ((ts.length + n : Nat) : Int))])]]] = _ ++ [DL.D.tup [.tup [_, .tup ((_ ++ [_]).map prI)]]]
        rw [List.map_append]; rfl
      | true =>
        have hpn : ps n = es[n].2.zip pl ++ [(1, ((ts.length + n : Nat) : Int))] ++ [(1, (((caseOf ts es).length + cl.length : Nat) : Int))] := hpn
        have e5 : ((((caseOf ts es).map oD).length : Int) + ((cl.map ctD).length : Int)) = (((caseOf ts es).length + cl.length : Nat) : Int) := by
          rw [List.length_map, List.length_map]; omega
        ((try conv => whnf); repeat ((first | refine ⟨_, rfl, ?_⟩ | refine ⟨rfl, ?_⟩ | refine ⟨_, ix_head, ?_⟩ | refine ⟨⟨rfl, rfl⟩, ?_⟩ | refine iteW_t ?_ | refine iteW_f ?_ | refine wpSs_nl ?_); (try conv => whnf)))
        refine ⟨by rw [List.length_append, List.length_map, hzl]; show ts.length + 1 < _; omega, ?_⟩
        ((try conv => whnf); repeat ((first | refine ⟨_, rfl, ?_⟩ | refine ⟨rfl, ?_⟩ | refine ⟨_, ix_head, ?_⟩ | refine ⟨⟨rfl, rfl⟩, ?_⟩ | refine iteW_t ?_ | refine iteW_f ?_ | refine wpSs_nl ?_); (try conv => whnf)))
        refine ⟨by rw [List.length_map, List.length_map, List.length_range]; omega, ?_⟩
        refine hfin _ _ _ ?_
        rw [hpn]
        show _ ++ [DL.D.tup [.tup [_, .tup (_ ++ [prI (1, ((ts.length + n : Nat) : Int))] ++ [.tup [.int 1, .int ((((caseOf ts es).map oD).length : Int) + ((cl.map ctD).length : Int))]])]]] = _ ++ [DL.D.tup [.tup [_, .tup ((_ ++ [_] ++ [_]).map prI)]]]
        rw [e5, List.map_append, List.map_append]; rfl
    · rintro m acc S' N1 N2 hm hal hN1 ⟨rfl, ha⟩
      have hmw : m < es[n].2.length := by omega
      have hmp : m < pl.length := by omega
      have e6 : es[n].2[m]? = some es[n].2[m] := List.getElem?_eq_getElem hmw
      have e7 : pl[m]? = some pl[m] := List.getElem?_eq_getElem hmp
      refine ⟨trivial, ?_⟩
      ((try conv => whnf); repeat ((first | refine ⟨_, rfl, ?_⟩ | refine ⟨rfl, ?_⟩ | refine ⟨_, ix_head, ?_⟩ | refine ⟨⟨rfl, rfl⟩, ?_⟩ | refine iteW_t ?_ | refine iteW_f ?_ | refine wpSs_nl ?_); (try conv => whnf)))
      refine ⟨_, hix, ?_⟩
      ((try conv => whnf); repeat ((first | refine ⟨_, rfl, ?_⟩ | refine ⟨rfl, ?_⟩ | refine ⟨_, ix_head, ?_⟩ | refine ⟨⟨rfl, rfl⟩, ?_⟩ | refine iteW_t ?_ | refine iteW_f ?_ | refine wpSs_nl ?_); (try conv => whnf)))
      refine ⟨_, ix_map DL.D.int (by omega) (by rw [Int.toNat_natCast]; exact e6), ?_⟩
      ((try conv => whnf); repeat ((first | refine ⟨_, rfl, ?_⟩ | refine ⟨rfl, ?_⟩ | refine ⟨_, ix_head, ?_⟩ | refine ⟨⟨rfl, rfl⟩, ?_⟩ | refine iteW_t ?_ | refine iteW_f ?_ | refine wpSs_nl ?_); (try conv => whnf)))
      refine ⟨_, ix_map DL.D.int (by omega) (by rw [Int.toNat_natCast]; exact e7), ?_⟩
      ((try conv => whnf); repeat ((first | refine ⟨_, rfl, ?_⟩ | refine ⟨rfl, ?_⟩ | refine ⟨_, ix_head, ?_⟩ | refine ⟨⟨rfl, rfl⟩, ?_⟩ | refine iteW_t ?_ | refine iteW_f ?_ | refine wpSs_nl ?_); (try conv => whnf)))
      have ha2 : acc = ((es[n].2.zip pl).take m).map prI := by rw [← hal]; exact ha
      refine hN1 _ _ ⟨_, _, .refl, rfl, ?_⟩
      rw [List.length_append, hal, show m + [DL.D.tup [DL.D.int es[n].2[m], DL.D.int pl[m]]].length = m + 1 from rfl, List.take_succ_eq_append_getElem (by rw [hzl]; exact hm), List.map_append, ← ha2]
      congr 1
      rw [List.getElem_zip]
      rfl
/-- _law_built -/
theorem lawBuilt (ev : Ev G) {c i : Int} {th : List Tx} (hth : ∀ x ∈ th, x ∈ TH) (hl : th.length ≤ 3) (h : ∀ (cs : List Li) (xs : List DL.D) (i' : Int), Good cs xs → (∀ o ∈ cs, ∀ q ∈ o.1, q.1 ∈ th) → Q (.tup [.tup (cs.map oD), .tup xs]) [dC c i']) : CallP G (k + 8) nx__law_built [.ref 0, .lst (th.map .str)] [dC c i] Q E := by
  refine call__law_built ev rfl ?_
  refine builtA (k := k) ev hth hl fun ts p b es i1 s8 s12 s13 s14 s15 s16 s17 hl0 hl3 ht htk hpk hp hes he => ?_
  have hel : es.length ≤ 2 := by cases b <;> simp at hes <;> omega
  refine builtB (k := k) ev hl0 hl3 ht hel fun cl pl s8' s16' hc hcl hpl => ?_
  have hCl : (caseOf ts es).length ≤ 5 := by
    unfold caseOf
    rw [List.length_append, List.length_map, List.length_map]
    omega
  refine builtC (k := k) ev hl0 hl3 hel hes hpl.len (by omega) hCl (fun e hm => ?_) fun ps cells hps => ?_
  · obtain ⟨n, hn, rfl⟩ := List.getElem_of_mem hm
    exact (he n _ (List.getElem?_eq_getElem hn)).len
  have good : ∃ xs, Good (caseOf ts es) xs ∧ xs = cl.map ctD ++ [match b with
      | true => splD p (ps 0) (ps 1)
      | false => adD (ps 0)] := by
    cases b with
    | false =>
      obtain ⟨e0, rfl⟩ : ∃ e0, es = [e0] := by
        match es, hes with
        | [e0], _ => exact ⟨e0, rfl⟩
      refine ⟨_, good_plain (e := e0) (cl := cl) (pl := pl) (N := (caseOf ts [e0]).length + cl.length) ht hl3 (he 0 e0 rfl) hc (by omega) hpl, ?_⟩
      rw [← hps 0 e0 rfl]
    | true =>
      obtain ⟨e0, e1, rfl⟩ : ∃ e0 e1, es = [e0, e1] := by
        match es, hes with
        | [e0, e1], _ => exact ⟨e0, e1, rfl⟩
      refine ⟨_, good_parted (e0 := e0) (e1 := e1) (p := p) (cl := cl) (pl := pl) (N := (caseOf ts [e0, e1]).length + cl.length) ht hl3 hp (he 0 e0 rfl) (he 1 e1 rfl) hc (by omega) hpl rfl, ?_⟩
      rw [← hps 0 e0 rfl, ← hps 1 e1 rfl]
  obtain ⟨xs, hg, hx⟩ := good
  rw [← hx]
  have hkeys : ∀ o ∈ caseOf ts es, ∀ q ∈ o.1, q.1 ∈ th := by
    intro o ho q hq
    refine Classical.byContradiction fun hno => ?_
    have z1 : ∀ a : KV, (∀ z ∈ a, z.1 ∈ th) → tot q.1 a = 0 := fun a ha => tot_none fun hm => by
      obtain ⟨z, hz, e⟩ := List.mem_map.mp hm
      exact hno (e ▸ ha z hz)
    have z2 : ∀ (us : List Tri) (ws : List Int), (∀ t ∈ us, ∀ q ∈ t.1.1, q.1 ∈ th) → dot (fun t => tot q.1 t.1) ws us = 0 := by
      intro us
      induction us with
      | nil => intro ws _; cases ws <;> rfl
      | cons t us ih =>
        intro ws hu
        cases ws with
        | nil => rfl
        | cons w ws =>
          show w * tot q.1 t.1.1 + dot _ ws us = 0
          rw [ih ws fun s hs => hu s (List.mem_cons_of_mem _ hs), z1 _ (hu t (by simp)), Int.mul_zero]; rfl
    unfold caseOf at ho
    rcases List.mem_append.mp ho with ho | ho
    · obtain ⟨t, h1, rfl⟩ := List.mem_map.mp ho
      obtain ⟨z, hz, rfl⟩ := List.mem_map.mp hq
      exact hno (htk t h1 z hz)
    · obtain ⟨e, h1, rfl⟩ := List.mem_map.mp ho
      obtain ⟨n, hn, rfl⟩ := List.getElem_of_mem h1
      have hE := he n _ (List.getElem?_eq_getElem hn)
      have h2 := (hE.lk.rise.mem q.1).mp (List.mem_map.mpr ⟨q, hq, rfl⟩)
      rw [hE.g _ (lin_tot q.1), z2 _ _ htk] at h2
      apply h2
      have : tot q.1 (moreOf b p n).1 = 0 := by
        cases b with
        | false => rfl
        | true =>
          show tot q.1 (if n = 0 then p else negL p).1 = 0
          split
          · exact z1 _ hpk
          · rw [lin_neg (lin_tot q.1), z1 _ hpk]; rfl
      rw [this]; rfl
  refine ⟨_, _, .trim [dC c i1] cells rfl (Nat.le_refl 1) rfl ?_ .refl, h _ _ _ hg hkeys⟩
  show (bels 1 ((caseOf ts es).map oD) && (bel 1 (.tup xs) && true)) = true
  rw [bels_oD, bel_ob 1 hg.pp.ob]; rfl
end
end K37

set_option maxHeartbeats 1000000
namespace K37
open PySem PySem.Spec PyProof.Rows L2 DL SA
/-- a dict of numbers -/
def bx (kv : KV) : DL.D := .dct (dks (dp kv)) (dvs (dp kv))
theorem bel_bx (n : Nat) (kv : KV) : bel n (bx kv) = true := bels_dvs n kv
theorem bels_bx (n : Nat) : ∀ K : List KV, bels n (K.map bx) = true
  | [] => rfl
  | kv :: r => by
    show (bel n (bx kv) && bels n (r.map bx)) = true
    rw [bel_bx, bels_bx n r]; rfl
theorem sbDs_snoc {n : Nat} {x : DL.D} : ∀ {xs : List DL.D}, bels n xs = true → sbDs n x (xs ++ [.ref n]) = xs ++ [x]
  | [], _ => by
    show [sbD n x (.ref n)] = [x]
    unfold sbD
    rw [Nat.beq_refl]
  | d :: r, h => by
    have h : (bel n d && bels n r) = true := h
    rw [Bool.and_eq_true] at h
    show sbD n x d :: sbDs n x (r ++ [.ref n]) = d :: (r ++ [x])
    rw [sbD_id h.1, sbDs_snoc h.2]
theorem putT_new {x : Tx} {z : Int} {kv : KV} (h : x ∉ kv.map (·.1)) : putT x (.int z) (dp kv) = dp (kv ++ [(x, z)]) := by
  unfold putT
  rw [dp_keys, if_neg h]
  unfold dp
  rw [List.map_append]; rfl
theorem ints_sum (f : Tx → Int) : ∀ a : KV, ∃ is, intsOf (a.map fun p => DL.D.int (p.2 * f p.1)) = some is ∧ sumL is = wsum f a
  | [] => ⟨[], rfl, rfl⟩
  | p :: a => by
    obtain ⟨is, h1, h2⟩ := ints_sum f a
    refine ⟨(p.2 * f p.1) :: is, ?_, ?_⟩
    · show (match intsOf (a.map fun p => DL.D.int (p.2 * f p.1)) with
        | some is => some ((p.2 * f p.1) :: is)
        | none => none) = _
      rw [h1]
    · show _ = p.2 * f p.1 + wsum f a
      rw [← h2]; rfl
section
variable {G : Gd} {k : Nat} {S : Store} {Q E : QD} {args : List DL.D}
/-- _law_boxes -/
theorem lawBoxes (ev : Ev G) {th : List Tx} (hnd : th.Nodup) (hl : th.length ≤ 3) (h : ∀ K : List KV, K.length ≤ 343 → (∀ kv ∈ K, kv.map (·.1) = th ∧ ∀ p ∈ kv, p.2.natAbs ≤ 3) → Q (.lst (K.map bx)) []) : CallP G (k + 1) nx__law_boxes [.lst (th.map .str), .int (-3), .int 3] [] Q E := by
  refine call__law_boxes ev rfl ?_
  ((try conv => whnf); repeat ((first | refine ⟨_, rfl, ?_⟩ | refine ⟨rfl, ?_⟩ | refine ⟨_, ix_head, ?_⟩ | refine ⟨⟨rfl, rfl⟩, ?_⟩ | refine iteW_t ?_ | refine iteW_f ?_ | refine wpSs_nl ?_); (try conv => whnf)))
  refine ⟨[some (.lst (th.map .str)), some (.int (-3)), some (.int 3), some (.lst [bx []]), none, none, none, none, none], [.dead], .frz 0 (.dct [] []) (.dct [] []) rfl rfl ?_, ?_⟩
  · have hsl : sbSl 0 (.dct [] []) [some (.lst (th.map .str)), some (.int (-3)), some (.int 3), some (.lst [.ref 0]), none, none, none, none, none] = [some (.lst (th.map .str)), some (.int (-3)), some (.int 3), some (.lst [bx []]), none, none, none, none, none] := by
      show [some (DL.D.lst (sbDs 0 (.dct [] []) (th.map DL.D.str))), _, _, _, _, _, _, _, _] = _
      rw [sbDs_id (bels_strs' 0 th)]; rfl
    exact hsl ▸ .refl
  ((try conv => whnf); repeat ((first | refine ⟨_, rfl, ?_⟩ | refine ⟨rfl, ?_⟩ | refine ⟨_, ix_head, ?_⟩ | refine ⟨⟨rfl, rfl⟩, ?_⟩ | refine iteW_t ?_ | refine iteW_f ?_ | refine wpSs_nl ?_); (try conv => whnf)))
  refine for_at DL.D.str th (fun p τ S => ∃ (K : List KV) (s4 s5 s6 s7 s8 : Option DL.D), K.length = 7 ^ p.length ∧ (∀ kv ∈ K, kv.map (·.1) = p ∧ ∀ q ∈ kv, q.2.natAbs ≤ 3) ∧ S = [.dead] ∧ τ = [some (.lst (th.map .str)), some (.int (-3)), some (.int 3), some (.lst (K.map bx)), s4, s5, s6, s7, s8]) ⟨[[]], none, none, none, none, none, rfl, ?_, rfl, rfl⟩ ?_ ?_
  · intro kv hkv
    rw [List.mem_singleton.mp hkv]
    exact ⟨rfl, fun _ h => absurd h List.not_mem_nil⟩
  · rintro τ S ⟨K, s4, s5, s6, s7, s8, hK, hkv, rfl, rfl⟩
    refine ⟨trivial, ?_⟩
    ((try conv => whnf); repeat ((first | refine ⟨_, rfl, ?_⟩ | refine ⟨rfl, ?_⟩ | refine ⟨_, ix_head, ?_⟩ | refine ⟨⟨rfl, rfl⟩, ?_⟩ | refine iteW_t ?_ | refine iteW_f ?_ | refine wpSs_nl ?_); (try conv => whnf)))
    refine ⟨_, _, .trim [] [.dead] rfl (Nat.le_refl _) rfl (bels_bx 0 K) .refl, h K ?_ hkv⟩
    rw [hK]
    exact Nat.pow_le_pow_right (by decide) hl
  · rintro p x r τ S Nx e hN ⟨K, s4, s5, s6, s7, s8, hK, hkv, rfl, rfl⟩
    have hpl : p.length < 3 := by have := congrArg List.length e; simp at this; omega
    have hK2 : K.length ≤ 343 := by rw [hK]; exact Nat.pow_le_pow_right (by decide) (by omega : p.length ≤ 3)
    have hxp : x ∉ p := by
      rw [e] at hnd
      intro hm
      exact (List.nodup_append.mp hnd).2.2 x hm x (by simp) rfl
    refine ⟨trivial, ?_⟩
    ((try conv => whnf); repeat ((first | refine ⟨_, rfl, ?_⟩ | refine ⟨rfl, ?_⟩ | refine ⟨_, ix_head, ?_⟩ | refine ⟨⟨rfl, rfl⟩, ?_⟩ | refine iteW_t ?_ | refine iteW_f ?_ | refine wpSs_nl ?_); (try conv => whnf)))
    refine for_at bx K (fun P τ S => ∃ (M : List KV) (s6 s7 s8 : Option DL.D), M.length = 7 * P.length ∧ (∀ kv ∈ M, kv.map (·.1) = p ++ [x] ∧ ∀ q ∈ kv, q.2.natAbs ≤ 3) ∧ S = [.dead, .lst (M.map bx)] ∧ τ = [some (.lst (th.map .str)), some (.int (-3)), some (.int 3), some (.lst (K.map bx)), some (.str x), some (.ref 1), s6, s7, s8]) ⟨[], s6, s7, s8, rfl, fun _ h => absurd h List.not_mem_nil, rfl, rfl⟩ ?_ ?_
    · rintro τ S ⟨M, s6, s7, s8, hM, hmv, rfl, rfl⟩
      refine ⟨trivial, ?_⟩
      ((try conv => whnf); repeat ((first | refine ⟨_, rfl, ?_⟩ | refine ⟨rfl, ?_⟩ | refine ⟨_, ix_head, ?_⟩ | refine ⟨⟨rfl, rfl⟩, ?_⟩ | refine iteW_t ?_ | refine iteW_f ?_ | refine wpSs_nl ?_); (try conv => whnf)))
      refine hN _ _ ⟨[some (.lst (th.map .str)), some (.int (-3)), some (.int 3), some (.lst (M.map bx)), some (.str x), none, none, none, none], [.dead], .wipe [5, 6, 7, 8] (.trans (fg_frz (n := 1) (c := .lst (M.map bx)) rfl rfl (.keep (bels_strs' 1 th) (.keep rfl (.keep rfl (.ref (.keep rfl (.none (.none (.none (.none .nil))))))))) rfl) (.trim [.dead] [.dead] rfl (Nat.le_refl 1) rfl ?_ .refl)), M, _, none, none, none, none, ?_, hmv, rfl, rfl⟩
      · show (bels 1 (th.map DL.D.str) && (true && (true && (bels 1 (M.map bx) && (true && true))))) = true
        rw [bels_strs', bels_bx]; rfl
      · rw [hM, hK, List.length_append, Nat.pow_add, Nat.mul_comm]; rfl
    · rintro P kv R τ S Nx2 e2 hN2 ⟨M, s6, s7, s8, hM, hmv, rfl, rfl⟩
      refine ⟨trivial, ?_⟩
      ((try conv => whnf); repeat ((first | refine ⟨_, rfl, ?_⟩ | refine ⟨rfl, ?_⟩ | refine ⟨_, ix_head, ?_⟩ | refine ⟨⟨rfl, rfl⟩, ?_⟩ | refine iteW_t ?_ | refine iteW_f ?_ | refine wpSs_nl ?_); (try conv => whnf)))
      refine ⟨by decide, ?_⟩
      have hkk := hkv kv (by rw [e2]; simp)
      have hkl : kv.length = p.length := by rw [← hkk.1, List.length_map]
      have hMP : P.length ≤ 343 := by have := congrArg List.length e2; simp at this; omega
      refine for_rng2 (-3) 7 (fun j τ S => ∃ (M : List KV) (s7 s8 : Option DL.D), M.length = 7 * P.length + j ∧ (∀ kv ∈ M, kv.map (·.1) = p ++ [x] ∧ ∀ q ∈ kv, q.2.natAbs ≤ 3) ∧ S = [.dead, .lst (M.map bx)] ∧ τ = [some (.lst (th.map .str)), some (.int (-3)), some (.int 3), some (.lst (K.map bx)), some (.str x), some (.ref 1), some (bx kv), s7, s8]) ⟨M, s7, s8, hM, hmv, rfl, rfl⟩ ?_ ?_
      · rintro τ S ⟨M, s7, s8, hM, hmv, rfl, rfl⟩
        refine ⟨trivial, ?_⟩
        ((try conv => whnf); repeat ((first | refine ⟨_, rfl, ?_⟩ | refine ⟨rfl, ?_⟩ | refine ⟨_, ix_head, ?_⟩ | refine ⟨⟨rfl, rfl⟩, ?_⟩ | refine iteW_t ?_ | refine iteW_f ?_ | refine wpSs_nl ?_); (try conv => whnf)))
        refine hN2 _ _ ⟨_, _, .refl, M, _, s7, s8, by rw [hM, List.length_append]; show _ = 7 * (P.length + 1); omega, hmv, rfl, rfl⟩
      · rintro j τ S Nx3 hj hN3 ⟨M, s7, s8, hM, hmv, rfl, rfl⟩
        have hnew : dputK (dks (dp kv)) (.str x) = dks (dp (kv ++ [(x, (-3 + (j : Int)))])) ∧ dputV (dks (dp kv)) (dvs (dp kv)) (.str x) (.int (-3 + (j : Int))) = dvs (dp (kv ++ [(x, (-3 + (j : Int)))])) := by
          rw [dputK_T (y := .int (-3 + (j : Int))), dputV_T, putT_new (by rw [hkk.1]; exact hxp)]
          exact ⟨rfl, rfl⟩
        refine ⟨trivial, ?_⟩
        ((try conv => whnf); repeat ((first | refine ⟨_, rfl, ?_⟩ | refine ⟨rfl, ?_⟩ | refine ⟨_, ix_head, ?_⟩ | refine ⟨⟨rfl, rfl⟩, ?_⟩ | refine iteW_t ?_ | refine iteW_f ?_ | refine wpSs_nl ?_); (try conv => whnf)))
        refine ⟨⟨rfl, by unfold dks dp; rw [List.length_map, List.length_map]; omega⟩, ?_⟩
        rw [hnew.1, hnew.2]
        ((try conv => whnf); repeat ((first | refine ⟨_, rfl, ?_⟩ | refine ⟨rfl, ?_⟩ | refine ⟨_, ix_head, ?_⟩ | refine ⟨⟨rfl, rfl⟩, ?_⟩ | refine iteW_t ?_ | refine iteW_f ?_ | refine wpSs_nl ?_); (try conv => whnf)))
        refine ⟨_, _, fg_frz (n := 2) (c := .dct (dks (dp (kv ++ [(x, (-3 + (j : Int)))]))) (dvs (dp (kv ++ [(x, (-3 + (j : Int)))])))) rfl rfl (.keep (bels_strs' 2 th) (.keep rfl (.keep rfl (.keep (bels_bx 2 K) (.keep rfl (.keep rfl (.keep (bel_bx 2 kv) (.keep rfl (.ref .nil))))))))) ?_, ?_⟩
        · show (true && (bels 2 (M.map bx) && true)) = true
          rw [bels_bx]; rfl
        ((try conv => whnf); repeat ((first | refine ⟨_, rfl, ?_⟩ | refine ⟨rfl, ?_⟩ | refine ⟨_, ix_head, ?_⟩ | refine ⟨⟨rfl, rfl⟩, ?_⟩ | refine iteW_t ?_ | refine iteW_f ?_ | refine wpSs_nl ?_); (try conv => whnf)))
        refine ⟨by rw [List.length_map]; omega, ?_⟩
        refine hN3 _ _ ⟨[some (.lst (th.map .str)), some (.int (-3)), some (.int 3), some (.lst (K.map bx)), some (.str x), some (.ref 1), some (bx kv), none, none], [.dead, .lst ((M ++ [kv ++ [(x, (-3 + (j : Int)))]]).map bx)], .wipe [7, 8] (.trim [.dead, .lst ((M ++ [kv ++ [(x, (-3 + (j : Int)))]]).map bx)] [.dead] ?_ (Nat.le_refl 2) ?_ ?_ .refl), M ++ [kv ++ [(x, (-3 + (j : Int)))]], none, none, by rw [List.length_append, hM]; rfl, ?_, rfl, rfl⟩
        · rw [List.map_append]; rfl
        · show (true && (bels 2 ((M ++ [kv ++ [(x, (-3 + (j : Int)))]]).map bx) && true)) = true
          rw [bels_bx]; rfl
        · show (bels 2 (th.map DL.D.str) && (true && (true && (bels 2 (K.map bx) && (true && (true && (bel 2 (bx kv) && true))))))) = true
          rw [bels_strs', bels_bx, bel_bx]; rfl
        · intro kv2 h2
          rcases List.mem_append.mp h2 with h2 | h2
          · exact hmv kv2 h2
          · rw [List.mem_singleton.mp h2]
            refine ⟨by rw [List.map_append, hkk.1]; rfl, fun q hq => ?_⟩
            rcases List.mem_append.mp hq with hq | hq
            · exact hkk.2 q hq
            · rw [List.mem_singleton.mp hq]
              show (-3 + (j : Int)).natAbs ≤ 3
              omega
/-- _law_value -/
theorem lawValue (ev : Ev G) {o : Li} {kv : KV} (ho : Lk o) (hnd : (kv.map (·.1)).Nodup) (hk : ∀ p ∈ o.1, p.1 ∈ kv.map (·.1)) (hb : ∀ p ∈ kv, p.2.natAbs ≤ 3) (h : Q (.int (wsum (fun x => tot x kv) o.1 + o.2)) S) : CallP G (k + 1) nx__law_value [oD o, bx kv] S Q E := by
  refine call__law_value ev rfl ?_
  have lo := ho.len
  ((try conv => whnf); repeat ((first | refine ⟨_, rfl, ?_⟩ | refine ⟨rfl, ?_⟩ | refine ⟨_, ix_head, ?_⟩ | refine ⟨⟨rfl, rfl⟩, ?_⟩ | refine iteW_t ?_ | refine iteW_f ?_ | refine wpSs_nl ?_); (try conv => whnf)))
  refine lc_map pr (fun p => .int (p.2 * tot p.1 kv)) o.1 (by omega) trivial ?_ ?_
  · ((try conv => whnf); repeat ((first | refine ⟨_, rfl, ?_⟩ | refine ⟨rfl, ?_⟩ | refine ⟨_, ix_head, ?_⟩ | refine ⟨⟨rfl, rfl⟩, ?_⟩ | refine iteW_t ?_ | refine iteW_f ?_ | refine wpSs_nl ?_); (try conv => whnf)))
    obtain ⟨is, h1, h2⟩ := ints_sum (fun x => tot x kv) o.1
    rw [h1]
    ((try conv => whnf); repeat ((first | refine ⟨_, rfl, ?_⟩ | refine ⟨rfl, ?_⟩ | refine ⟨_, ix_head, ?_⟩ | refine ⟨⟨rfl, rfl⟩, ?_⟩ | refine iteW_t ?_ | refine iteW_f ?_ | refine wpSs_nl ?_); (try conv => whnf)))
    refine ⟨_, _, .refl, ?_⟩
    rw [h2, Int.add_comm]
    exact h
  · intro p hp N1 N2 h1
    have hd := dget_tot hnd (hk p hp)
    ((try conv => whnf); repeat ((first | refine ⟨_, rfl, ?_⟩ | refine ⟨rfl, ?_⟩ | refine ⟨_, ix_head, ?_⟩ | refine ⟨⟨rfl, rfl⟩, ?_⟩ | refine iteW_t ?_ | refine iteW_f ?_ | refine wpSs_nl ?_); (try conv => whnf)))
    refine ⟨_, hd, ?_⟩
    ((try conv => whnf); repeat ((first | refine ⟨_, rfl, ?_⟩ | refine ⟨rfl, ?_⟩ | refine ⟨_, ix_head, ?_⟩ | refine ⟨⟨rfl, rfl⟩, ?_⟩ | refine iteW_t ?_ | refine iteW_f ?_ | refine wpSs_nl ?_); (try conv => whnf)))
    refine ⟨.inl (.inr ?_), h1⟩
    rcases Classical.em (p.1 ∈ kv.map (·.1)) with hm | hm
    · obtain ⟨q, hq, e⟩ := List.mem_map.mp hm
      rw [← e, tot_some hnd (z := q.2) hq]
      have := hb q hq
      omega
    · rw [tot_none hm]; decide
end
end K37

set_option maxHeartbeats 1000000
namespace K37
open PySem PySem.Spec PyProof.Rows L2 DL SA
theorem isPys_told (o : Li) : isPy (.tup [.tup (o.1.map pr), .int o.2]) = true := by
  show (isPys (o.1.map pr) && (true && true)) = true
  rw [isPys_pr]; rfl
section
variable {G : Gd} {k : Nat} {S : Store} {Q E : QD} {args : List DL.D}
/-- _law_met -/
theorem lawMet0 (ev : Ev G) {cs : List Li} {th : List Tx} (hnd : th.Nodup) (hl : th.length ≤ 3) (hc : ∀ o ∈ cs, Lk o) (hcl : cs.length ≤ 5) (hk : ∀ o ∈ cs, ∀ q ∈ o.1, q.1 ∈ th) (hn : ∀ v : Tx → Int, ∃ o ∈ cs, wsum v o.1 + o.2 < 0) (h : Q (.bl false) []) : CallP G (k + 2) nx__law_met [.tup (cs.map oD), .lst (th.map .str), .int 3] [] Q E := by
  refine call__law_met ev rfl ?_
  ((try conv => whnf); repeat ((first | refine ⟨_, rfl, ?_⟩ | refine ⟨rfl, ?_⟩ | refine ⟨_, ix_head, ?_⟩ | refine ⟨⟨rfl, rfl⟩, ?_⟩ | refine iteW_t ?_ | refine iteW_f ?_ | refine wpSs_nl ?_); (try conv => whnf)))
  refine lawBoxes (k := k) ev hnd hl fun K hK hkv => ?_
  ((try conv => whnf); repeat ((first | refine ⟨_, rfl, ?_⟩ | refine ⟨rfl, ?_⟩ | refine ⟨_, ix_head, ?_⟩ | refine ⟨⟨rfl, rfl⟩, ?_⟩ | refine iteW_t ?_ | refine iteW_f ?_ | refine wpSs_nl ?_); (try conv => whnf)))
  refine for_at bx K (fun P τ S => ∃ (s3 s4 : Option DL.D), S = [] ∧ τ = [some (.tup (cs.map oD)), some (.lst (th.map .str)), some (.int 3), s3, s4]) ⟨none, none, rfl, rfl⟩ ?_ ?_
  · rintro τ S ⟨s3, s4, rfl, rfl⟩
    refine ⟨trivial, ?_⟩
    ((try conv => whnf); repeat ((first | refine ⟨_, rfl, ?_⟩ | refine ⟨rfl, ?_⟩ | refine ⟨_, ix_head, ?_⟩ | refine ⟨⟨rfl, rfl⟩, ?_⟩ | refine iteW_t ?_ | refine iteW_f ?_ | refine wpSs_nl ?_); (try conv => whnf)))
    exact ⟨_, _, .refl, h⟩
  · rintro P kv R τ S Nx e hN ⟨s3, s4, rfl, rfl⟩
    obtain ⟨hk1, hk2⟩ := hkv kv (by rw [e]; simp)
    refine ⟨trivial, ?_⟩
    ((try conv => whnf); repeat ((first | refine ⟨_, rfl, ?_⟩ | refine ⟨rfl, ?_⟩ | refine ⟨_, ix_head, ?_⟩ | refine ⟨⟨rfl, rfl⟩, ?_⟩ | refine iteW_t ?_ | refine iteW_f ?_ | refine wpSs_nl ?_); (try conv => whnf)))
    refine lc_pure oD (fun _ => .int 1) (fun o => decide (wsum (fun x => tot x kv) o.1 + o.2 < 0)) cs (by omega) trivial ?_ ?_
    · ((try conv => whnf); repeat ((first | refine ⟨_, rfl, ?_⟩ | refine ⟨rfl, ?_⟩ | refine ⟨_, ix_head, ?_⟩ | refine ⟨⟨rfl, rfl⟩, ?_⟩ | refine iteW_t ?_ | refine iteW_f ?_ | refine wpSs_nl ?_); (try conv => whnf)))
      have : ((cs.filter fun o => decide (wsum (fun x => tot x kv) o.1 + o.2 < 0)).map fun _ => DL.D.int 1).isEmpty = false := by
        obtain ⟨o, ho, hlt⟩ := hn fun x => tot x kv
        have hm : o ∈ cs.filter fun o => decide (wsum (fun x => tot x kv) o.1 + o.2 < 0) := List.mem_filter.mpr ⟨ho, decide_eq_true hlt⟩
        cases hf : cs.filter fun o => decide (wsum (fun x => tot x kv) o.1 + o.2 < 0) with
        | nil => rw [hf] at hm; cases hm
        | cons a r => rfl
      rw [this]
      ((try conv => whnf); repeat ((first | refine ⟨_, rfl, ?_⟩ | refine ⟨rfl, ?_⟩ | refine ⟨_, ix_head, ?_⟩ | refine ⟨⟨rfl, rfl⟩, ?_⟩ | refine iteW_t ?_ | refine iteW_f ?_ | refine wpSs_nl ?_); (try conv => whnf)))
      exact hN _ _ ⟨_, _, .refl, _, _, rfl, rfl⟩
    · intro o ho N1 N2 h1 h2
      ((try conv => whnf); repeat ((first | refine ⟨_, rfl, ?_⟩ | refine ⟨rfl, ?_⟩ | refine ⟨_, ix_head, ?_⟩ | refine ⟨⟨rfl, rfl⟩, ?_⟩ | refine iteW_t ?_ | refine iteW_f ?_ | refine wpSs_nl ?_); (try conv => whnf)))
      refine lawValue (k := k) ev (hc o ho) (by rw [hk1]; exact hnd) (by rw [hk1]; exact hk o ho) hk2 ?_
      ((try conv => whnf); repeat ((first | refine ⟨_, rfl, ?_⟩ | refine ⟨rfl, ?_⟩ | refine ⟨_, ix_head, ?_⟩ | refine ⟨⟨rfl, rfl⟩, ?_⟩ | refine iteW_t ?_ | refine iteW_f ?_ | refine wpSs_nl ?_); (try conv => whnf)))
      refine iteW_i (fun hb => ?_) fun hb => ?_
      · ((try conv => whnf); repeat ((first | refine ⟨_, rfl, ?_⟩ | refine ⟨rfl, ?_⟩ | refine ⟨_, ix_head, ?_⟩ | refine ⟨⟨rfl, rfl⟩, ?_⟩ | refine iteW_t ?_ | refine iteW_f ?_ | refine wpSs_nl ?_); (try conv => whnf)))
        exact h1 hb
      · exact h2 hb
/-- _law_told -/
theorem lawTold (ev : Ev G) {o : Li} (h : Q (.tup [.tup (o.1.map pr), .int o.2]) S) : CallP G (k + 1) nx__law_told [oD o] S Q E := by
  refine call__law_told ev rfl ?_
  ((try conv => whnf); repeat ((first | refine ⟨_, rfl, ?_⟩ | refine ⟨rfl, ?_⟩ | refine ⟨_, ix_head, ?_⟩ | refine ⟨⟨rfl, rfl⟩, ?_⟩ | refine iteW_t ?_ | refine iteW_f ?_ | refine wpSs_nl ?_); (try conv => whnf)))
  exact ⟨_, _, .refl, h⟩
/-- _law_listed -/
theorem lawListed (ev : Ev G) {xs : List DL.D} (hx : ∀ x ∈ xs, ∃ ys, x = .tup ys) (hl : xs.length ≤ 4) (h : Q (.lst (xs.map lsD)) S) : CallP G (k + 1) nx__law_listed [.tup xs] S Q E := by
  refine call__law_listed ev rfl ?_
  ((try conv => whnf); repeat ((first | refine ⟨_, rfl, ?_⟩ | refine ⟨rfl, ?_⟩ | refine ⟨_, ix_head, ?_⟩ | refine ⟨⟨rfl, rfl⟩, ?_⟩ | refine iteW_t ?_ | refine iteW_f ?_ | refine wpSs_nl ?_); (try conv => whnf)))
  have e : xs.map id = xs := List.map_id xs
  rw [← e]
  refine lc_map id lsD xs (by omega) trivial ?_ ?_
  · ((try conv => whnf); repeat ((first | refine ⟨_, rfl, ?_⟩ | refine ⟨rfl, ?_⟩ | refine ⟨_, ix_head, ?_⟩ | refine ⟨⟨rfl, rfl⟩, ?_⟩ | refine iteW_t ?_ | refine iteW_f ?_ | refine wpSs_nl ?_); (try conv => whnf)))
    exact ⟨_, _, .refl, h⟩
  · intro x hm N1 N2 h1
    obtain ⟨ys, rfl⟩ := hx x hm
    ((try conv => whnf); repeat ((first | refine ⟨_, rfl, ?_⟩ | refine ⟨rfl, ?_⟩ | refine ⟨_, ix_head, ?_⟩ | refine ⟨⟨rfl, rfl⟩, ?_⟩ | refine iteW_t ?_ | refine iteW_f ?_ | refine wpSs_nl ?_); (try conv => whnf)))
    exact h1
end
end K37

set_option maxHeartbeats 1000000
namespace K37
open PySem PySem.Spec PyProof.Rows L2 DL SA
theorem addX_len {L : List Li} (hL : ∀ o ∈ L, Lk o) : ∀ ps : List (Int × Int), (addX L ps).length ≤ 3 * ps.length
  | [] => Nat.le_refl 0
  | p :: r => by
    have : addX L (p :: r) = scl p.1 (getL L p.2).1 ++ addX L r := by unfold addX; simp
    rw [this, List.length_append, List.length_cons]
    have h1 := addX_len hL r
    have h2 : (scl p.1 (getL L p.2).1).length ≤ 3 := by
      show ((getL L p.2).1.map _).length ≤ 3
      rw [List.length_map]
      unfold getL
      cases h : L[p.2.toNat]? with
      | none => exact Nat.zero_le _
      | some o => exact (hL o (List.mem_of_getElem? h)).len
    omega
theorem told_pl {a : KV} {n : Int} : Pl (.tup [.tup (a.map pr), .int n]) := by
  refine ⟨isPys_told (a, n), ?_⟩
  have := deps_pr a
  show max (deps (a.map pr) + 1) (max 0 0) + 1 ≤ 150
  omega
section
variable {G : Gd} {k : Nat} {S : Store} {Q E : QD} {args : List DL.D}
/-- _law_added -/
theorem lawAdded (ev : Ev G) {j : Nat} {L : List Li} {x : DL.D} (hS : S[j]? = some (.lst (L.map oD))) (hL : ∀ o ∈ L, Lk o) (hx : Ob x) (ht : Tps x) (hs : (addPs x).length ≤ 10) (hc : (addOk L x || cutOk L x) = true)
    (h : ∀ a : KV, a.length < 64 → gat a = (stX L x).1 → Q (.tup [.lst (a.map pr), .int (stX L x).2]) S) : CallP G (k + 1) nx__law_added [.ref j, x] S Q E := by
  cases ha : addOk L x with
  | false =>
    rw [ha, Bool.false_or] at hc
    obtain ⟨l, b, hxe, l0, l1, b1, he⟩ := cutOk_iff hc
    rw [he] at h
    obtain ⟨lk, hg⟩ := getL_lk hL l0 l1
    have hlen := lk.len
    have hb : b.natAbs < 18446744073709551616 := by
      rcases hxe with rfl | rfl
      · exact (hx.mem rfl (.int b) (by simp)).i
      · exact (hx.mem rfl (.int b) (by simp)).i
    have hb2 : 0 < b ∧ b.natAbs.log2 < 9000 := by
      refine ⟨by omega, ?_⟩
      have : b.natAbs.log2 < 64 := (Nat.log2_lt (by omega)).mpr hb
      omega
    have h' := h ((getL L l).1.map fun z => (z.1, z.2 / b)) (by rw [List.length_map]; omega) rfl
    rw [List.map_map] at h'
    rcases hxe with rfl | rfl
    all_goals
      refine call__law_added ev rfl ?_
      ((try conv => whnf); repeat ((first | refine ⟨_, rfl, ?_⟩ | refine ⟨rfl, ?_⟩ | refine ⟨_, ix_head, ?_⟩ | refine ⟨⟨rfl, rfl⟩, ?_⟩ | refine iteW_t ?_ | refine iteW_f ?_ | refine wpSs_nl ?_); (try conv => whnf)))
      try rw [hS]
      ((try conv => whnf); repeat ((first | refine ⟨_, rfl, ?_⟩ | refine ⟨rfl, ?_⟩ | refine ⟨_, ix_head, ?_⟩ | refine ⟨⟨rfl, rfl⟩, ?_⟩ | refine iteW_t ?_ | refine iteW_f ?_ | refine wpSs_nl ?_); (try conv => whnf)))
      refine ⟨oD (getL L l), ix_map oD l0 hg, ?_⟩
      ((try conv => whnf); repeat ((first | refine ⟨_, rfl, ?_⟩ | refine ⟨rfl, ?_⟩ | refine ⟨_, ix_head, ?_⟩ | refine ⟨⟨rfl, rfl⟩, ?_⟩ | refine iteW_t ?_ | refine iteW_f ?_ | refine wpSs_nl ?_); (try conv => whnf)))
      refine lc_map pr (fun z => pr (z.1, z.2 / b)) (getL L l).1 (by omega) ?_ ?_ ?_
      · trivial
      · ((try conv => whnf); repeat ((first | refine ⟨_, rfl, ?_⟩ | refine ⟨rfl, ?_⟩ | refine ⟨_, ix_head, ?_⟩ | refine ⟨⟨rfl, rfl⟩, ?_⟩ | refine iteW_t ?_ | refine iteW_f ?_ | refine wpSs_nl ?_); (try conv => whnf)))
        try rw [hS]
        ((try conv => whnf); repeat ((first | refine ⟨_, rfl, ?_⟩ | refine ⟨rfl, ?_⟩ | refine ⟨_, ix_head, ?_⟩ | refine ⟨⟨rfl, rfl⟩, ?_⟩ | refine iteW_t ?_ | refine iteW_f ?_ | refine wpSs_nl ?_); (try conv => whnf)))
        refine ⟨oD (getL L l), ix_map oD l0 hg, ?_⟩
        ((try conv => whnf); repeat ((first | refine ⟨_, rfl, ?_⟩ | refine ⟨rfl, ?_⟩ | refine ⟨_, ix_head, ?_⟩ | refine ⟨⟨rfl, rfl⟩, ?_⟩ | refine iteW_t ?_ | refine iteW_f ?_ | refine wpSs_nl ?_); (try conv => whnf)))
        refine ⟨hb2, ?_⟩
        ((try conv => whnf); repeat ((first | refine ⟨_, rfl, ?_⟩ | refine ⟨rfl, ?_⟩ | refine ⟨_, ix_head, ?_⟩ | refine ⟨⟨rfl, rfl⟩, ?_⟩ | refine iteW_t ?_ | refine iteW_f ?_ | refine wpSs_nl ?_); (try conv => whnf)))
        exact ⟨_, _, .refl, h'⟩
      · intro z hz N1 N2 h1
        ((try conv => whnf); repeat ((first | refine ⟨_, rfl, ?_⟩ | refine ⟨rfl, ?_⟩ | refine ⟨_, ix_head, ?_⟩ | refine ⟨⟨rfl, rfl⟩, ?_⟩ | refine iteW_t ?_ | refine iteW_f ?_ | refine wpSs_nl ?_); (try conv => whnf)))
        exact ⟨hb2, h1⟩
  | true =>
    obtain ⟨y, ps, hxe, hy, hp, he⟩ := addOk_iff ha
    rw [he] at h
    have hps : addPs x = ps.map pairI := by
      rcases hxe with rfl | rfl <;> (show ((seqD y).getD []).map pairI = _; rw [hy]; rfl)
    rw [hps, List.length_map] at hs
    have hoy : Ob y := by
      rcases hxe with rfl | rfl
      · exact hx.mem rfl y (by simp)
      · exact hx.mem rfl y (by simp)
    have hoq := hoy.mem hy
    have htp : ∀ us, DL.D.lst us ∉ ps := fun us => by
      rcases hxe with rfl | rfl
      · exact ht _ y ps rfl hy us
      · exact ht _ y ps rfl hy us
    rcases hxe with rfl | rfl <;> rcases Ob.sq hy with rfl | rfl
    all_goals
      refine call__law_added ev rfl ?_
      ((try conv => whnf); repeat ((first | refine ⟨_, rfl, ?_⟩ | refine ⟨rfl, ?_⟩ | refine ⟨_, ix_head, ?_⟩ | refine ⟨⟨rfl, rfl⟩, ?_⟩ | refine iteW_t ?_ | refine iteW_f ?_ | refine wpSs_nl ?_); (try conv => whnf)))
      refine for_ind (fun its τ S' => S' = S ∧ ∃ (pre : List DL.D) (s4 s5 s6 s7 : Option DL.D), ps = pre ++ its ∧ τ = [some (.ref j), some _, some (.lst ((addX L (pre.map pairI)).map pr)), some (.int (addN L (pre.map pairI))), s4, s5, s6, s7]) ?_ ?_ _ _ _ ⟨rfl, [], none, none, none, none, rfl, rfl⟩
      · rintro τ S' ⟨rfl, pre, s4, s5, s6, s7, e, rfl⟩
        rw [List.append_nil] at e
        subst e
        refine ⟨trivial, ?_⟩
        ((try conv => whnf); repeat ((first | refine ⟨_, rfl, ?_⟩ | refine ⟨rfl, ?_⟩ | refine ⟨_, ix_head, ?_⟩ | refine ⟨⟨rfl, rfl⟩, ?_⟩ | refine iteW_t ?_ | refine iteW_f ?_ | refine wpSs_nl ?_); (try conv => whnf)))
        have hl := addX_len hL (ps.map pairI)
        rw [List.length_map] at hl
        exact ⟨_, _, .refl, h _ (by omega) rfl⟩
      · rintro q its τ S' Nx hN ⟨rfl, pre, s4, s5, s6, s7, e, rfl⟩
        have hqm : q ∈ ps := by rw [e]; simp
        obtain ⟨w, l, hq, w1, l0, l1, hpi⟩ := pairOk_iff (hp q hqm)
        have hob := hoq q hqm
        have hw : w.natAbs < 18446744073709551616 := by
          rcases hq with rfl | rfl
          · exact (hob.mem rfl (.int w) (by simp)).i
          · exact (hob.mem rfl (.int w) (by simp)).i
        obtain ⟨lk, hg⟩ := getL_lk hL l0 l1
        have hlen := lk.len
        have el := congrArg List.length e
        simp only [List.length_append, List.length_cons] at el
        have hl := addX_len hL (pre.map pairI)
        rw [List.length_map] at hl
        rcases hq with rfl | rfl
        · refine ⟨trivial, ?_⟩
          ((try conv => whnf); repeat ((first | refine ⟨_, rfl, ?_⟩ | refine ⟨rfl, ?_⟩ | refine ⟨_, ix_head, ?_⟩ | refine ⟨⟨rfl, rfl⟩, ?_⟩ | refine iteW_t ?_ | refine iteW_f ?_ | refine wpSs_nl ?_); (try conv => whnf)))
          rw [hS]
          ((try conv => whnf); repeat ((first | refine ⟨_, rfl, ?_⟩ | refine ⟨rfl, ?_⟩ | refine ⟨_, ix_head, ?_⟩ | refine ⟨⟨rfl, rfl⟩, ?_⟩ | refine iteW_t ?_ | refine iteW_f ?_ | refine wpSs_nl ?_); (try conv => whnf)))
          refine ⟨oD (getL L l), ix_map oD l0 hg, ?_⟩
          ((try conv => whnf); repeat ((first | refine ⟨_, rfl, ?_⟩ | refine ⟨rfl, ?_⟩ | refine ⟨_, ix_head, ?_⟩ | refine ⟨⟨rfl, rfl⟩, ?_⟩ | refine iteW_t ?_ | refine iteW_f ?_ | refine wpSs_nl ?_); (try conv => whnf)))
          refine lc_map pr (fun z => pr (z.1, w * z.2)) (getL L l).1 (by omega) ?_ ?_ ?_
          · trivial
          · ((try conv => whnf); repeat ((first | refine ⟨_, rfl, ?_⟩ | refine ⟨rfl, ?_⟩ | refine ⟨_, ix_head, ?_⟩ | refine ⟨⟨rfl, rfl⟩, ?_⟩ | refine iteW_t ?_ | refine iteW_f ?_ | refine wpSs_nl ?_); (try conv => whnf)))
            refine ⟨by rw [List.length_map, List.length_map]; omega, ?_⟩
            ((try conv => whnf); repeat ((first | refine ⟨_, rfl, ?_⟩ | refine ⟨rfl, ?_⟩ | refine ⟨_, ix_head, ?_⟩ | refine ⟨⟨rfl, rfl⟩, ?_⟩ | refine iteW_t ?_ | refine iteW_f ?_ | refine wpSs_nl ?_); (try conv => whnf)))
            rw [hS]
            ((try conv => whnf); repeat ((first | refine ⟨_, rfl, ?_⟩ | refine ⟨rfl, ?_⟩ | refine ⟨_, ix_head, ?_⟩ | refine ⟨⟨rfl, rfl⟩, ?_⟩ | refine iteW_t ?_ | refine iteW_f ?_ | refine wpSs_nl ?_); (try conv => whnf)))
            refine ⟨oD (getL L l), ix_map oD l0 hg, ?_⟩
            ((try conv => whnf); repeat ((first | refine ⟨_, rfl, ?_⟩ | refine ⟨rfl, ?_⟩ | refine ⟨_, ix_head, ?_⟩ | refine ⟨⟨rfl, rfl⟩, ?_⟩ | refine iteW_t ?_ | refine iteW_f ?_ | refine wpSs_nl ?_); (try conv => whnf)))
            refine ⟨.inl (.inl hw), ?_⟩
            ((try conv => whnf); repeat ((first | refine ⟨_, rfl, ?_⟩ | refine ⟨rfl, ?_⟩ | refine ⟨_, ix_head, ?_⟩ | refine ⟨⟨rfl, rfl⟩, ?_⟩ | refine iteW_t ?_ | refine iteW_f ?_ | refine wpSs_nl ?_); (try conv => whnf)))
            refine hN _ _ ⟨_, _, .refl, rfl, pre ++ [_], some (.int w), some (.int l), s6, s7, by rw [e, List.append_assoc]; rfl, ?_⟩
            rw [List.map_append, List.map_singleton, addX_snoc, addN_snoc, hpi, List.map_append]
            unfold scl
            rw [List.map_map]
            rfl
          · intro z hz N1 N2 h1
            ((try conv => whnf); repeat ((first | refine ⟨_, rfl, ?_⟩ | refine ⟨rfl, ?_⟩ | refine ⟨_, ix_head, ?_⟩ | refine ⟨⟨rfl, rfl⟩, ?_⟩ | refine iteW_t ?_ | refine iteW_f ?_ | refine wpSs_nl ?_); (try conv => whnf)))
            exact ⟨.inl (.inl hw), h1⟩
        · exact absurd hqm (htp _)
/-- what a split's line begins with -/
theorem parts_hd {x : DL.D} {t : Li × DL.D × DL.D} (h : parts x = some t) : ∃ r, seqD x = some (.str [115, 112, 108, 105, 116] :: r) := by
  unfold parts at h
  split at h
  · rename_i a t' p q e
    split at h
    · rename_i o h1 h2
      cases isS_eq h1
      exact ⟨_, e⟩
    · cases h
  · cases h
/-- _law_lines_right -/
theorem lawLines0 (ev : Ev G) {cs : List Li} {xs : List DL.D} (g : Good cs xs) (h : Q (.bl true) []) : CallP G (k + 6) nx__law_lines_right [.tup (cs.map oD), .tup xs] [] Q E := by
  have hgo : go (fun p L => snd 1 p L 1) (decide (0 < 20)) xs cs = true := g.sd
  have hpp := (g.pp.2 xs rfl).2
  have hob := g.pp.ob.mem (xs := xs) rfl
  refine call__law_lines_right ev rfl ?_
  ((try conv => whnf); repeat ((first | refine ⟨_, rfl, ?_⟩ | refine ⟨rfl, ?_⟩ | refine ⟨_, ix_head, ?_⟩ | refine ⟨⟨rfl, rfl⟩, ?_⟩ | refine iteW_t ?_ | refine iteW_f ?_ | refine wpSs_nl ?_); (try conv => whnf)))
  refine for_ind (fun its τ S => ∃ (pre : List DL.D) (L : List Li) (s3 s4 s5 s6 : Option DL.D), xs = pre ++ its ∧ S = [.lst (L.map oD)] ∧ go (fun p L => snd 1 p L 1) (decide (0 < 20)) its L = true ∧ (∀ o ∈ L, Lk o) ∧ L.length = cs.length + pre.length ∧
    τ = [some (.tup (cs.map oD)), some (.tup xs), some (.ref 0), s3, s4, s5, s6]) ?_ ?_ _ _ _ ⟨[], cs, none, none, none, none, rfl, rfl, hgo, g.lk, rfl, rfl⟩
  · rintro τ S ⟨pre, L, s3, s4, s5, s6, e, rfl, hg, hL, hl, rfl⟩
    refine ⟨trivial, ?_⟩
    have hg : endOk L = true := hg
    obtain ⟨o, ho⟩ : ∃ o, L.getLast? = some o := by
      cases hh : L.getLast? with
      | none => unfold endOk at hg; rw [hh] at hg; cases hg
      | some o => exact ⟨o, rfl⟩
    have he : (o.1.isEmpty && decide (o.2 < 0)) = true := by unfold endOk at hg; rw [ho] at hg; exact hg
    have he := Bool.and_eq_true_iff.mp he
    have hlen : 0 < L.length := by
      cases L with
      | nil => cases ho
      | cons a r => exact Nat.succ_pos _
    have hix : (ixOf (L.map oD).length (-1)).bind ((L.map oD)[·]?) = some (oD o) := by
      rw [List.length_map]
      show (if 0 < L.length then some (L.length - 1 - 0) else none).bind _ = _
      rw [if_pos hlen]
      show (L.map oD)[L.length - 1 - 0]? = _
      rw [List.getElem?_map, Nat.sub_zero, ← List.getLast?_eq_getElem?, ho]
      rfl
    ((try conv => whnf); repeat ((first | refine ⟨_, rfl, ?_⟩ | refine ⟨rfl, ?_⟩ | refine ⟨_, ix_head, ?_⟩ | refine ⟨⟨rfl, rfl⟩, ?_⟩ | refine iteW_t ?_ | refine iteW_f ?_ | refine wpSs_nl ?_); (try conv => whnf)))
    refine ⟨_, hix, ?_⟩
    ((try conv => whnf); repeat ((first | refine ⟨_, rfl, ?_⟩ | refine ⟨rfl, ?_⟩ | refine ⟨_, ix_head, ?_⟩ | refine ⟨⟨rfl, rfl⟩, ?_⟩ | refine iteW_t ?_ | refine iteW_f ?_ | refine wpSs_nl ?_); (try conv => whnf)))
    rw [List.isEmpty_map, he.1]
    ((try conv => whnf); repeat ((first | refine ⟨_, rfl, ?_⟩ | refine ⟨rfl, ?_⟩ | refine ⟨_, ix_head, ?_⟩ | refine ⟨⟨rfl, rfl⟩, ?_⟩ | refine iteW_t ?_ | refine iteW_f ?_ | refine wpSs_nl ?_); (try conv => whnf)))
    refine ⟨_, hix, ?_⟩
    ((try conv => whnf); repeat ((first | refine ⟨_, rfl, ?_⟩ | refine ⟨rfl, ?_⟩ | refine ⟨_, ix_head, ?_⟩ | refine ⟨⟨rfl, rfl⟩, ?_⟩ | refine iteW_t ?_ | refine iteW_f ?_ | refine wpSs_nl ?_); (try conv => whnf)))
    refine ⟨_, _, .trim [] _ rfl (Nat.le_refl _) rfl rfl .refl, ?_⟩
    show Q (.bl (decide (o.2 < 0))) []
    rw [he.2]
    exact h
  · rintro x its τ S Nx hN ⟨pre, L, s3, s4, s5, s6, e, rfl, hg, hL, hl, rfl⟩
    have el := congrArg List.length e
    simp only [List.length_append, List.length_cons] at el
    have hxl := g.xl
    have hcl := g.cl
    have hxm : x ∈ xs := by rw [e]; simp
    have hx := hob x hxm
    obtain ⟨hh, htp, hpt⟩ := hpp x hxm
    obtain ⟨ys, rfl⟩ := g.tu x hxm
    refine ⟨trivial, ?_⟩
    unfold go at hg
    cases hac : addOk L (.tup ys) || cutOk L (.tup ys) with
    | true =>
      rw [hac] at hg
      have hlk := stX_lk hL (.tup ys)
      have told := told_pl (a := (stX L (.tup ys)).1) (n := (stX L (.tup ys)).2)
      have hd : ∃ s r, ys = .str s :: r ∧ s ≠ [115, 112, 108, 105, 116] := by
        cases ha : addOk L (.tup ys) with
        | true =>
          obtain ⟨y, ps, hxe, _⟩ := addOk_iff ha
          rcases hxe with hxe | hxe
          · cases hxe; exact ⟨_, _, rfl, by decide⟩
          · cases hxe
        | false =>
          rw [ha, Bool.false_or] at hac
          obtain ⟨l, b, hxe, _⟩ := cutOk_iff hac
          rcases hxe with hxe | hxe
          · cases hxe; exact ⟨_, _, rfl, by decide⟩
          · cases hxe
      have line : ∀ {ls x' : DL.D} {S' : Store} {Q' E' : QD}, ((∃ j, ls = .ref j ∧ S'[j]? = some (.lst (L.map oD))) ∨ ls = .lst (L.map oD)) → (x' = .tup ys ∨ x' = lsD (.tup ys)) → Q' (oD (stX L (.tup ys))) S' → CallP G (k + 5) nx_line_of [ls, x'] S' Q' E' := fun {ls x' S' Q' E'} h1 h2 h3 => by
        have e1 : stX L x' = stX L (.tup ys) := by rcases h2 with rfl | rfl; rfl; exact stX_ls _ _
        have e2 : addOk L x' = addOk L (.tup ys) := by rcases h2 with rfl | rfl; rfl; exact addOk_ls _ _
        have e3 : cutOk L x' = cutOk L (.tup ys) := by rcases h2 with rfl | rfl; rfl; exact cutOk_ls _ _
        have o1 : Ob x' := by rcases h2 with rfl | rfl; exact hx; exact lsD_ob hx
        have t1 : Tps x' := by
          rcases h2 with rfl | rfl
          · exact htp
          · unfold Tps; rw [lsD_seq]; exact htp
        cases ha : addOk L (.tup ys) with
        | true => exact lineAdd (k := k) ev h1 hL o1 t1 (by rw [e2, ha]) (by rw [e1]; exact h3)
        | false =>
          rw [ha, Bool.false_or] at hac
          exact lineCut (k := k) ev h1 hL o1 (by rw [e3, hac]) (by rw [e1]; exact h3)
      obtain ⟨s, r, rfl, hs⟩ := hd
      ((try conv => whnf); repeat ((first | refine ⟨_, rfl, ?_⟩ | refine ⟨rfl, ?_⟩ | refine ⟨_, ix_head, ?_⟩ | refine ⟨⟨rfl, rfl⟩, ?_⟩ | refine iteW_t ?_ | refine iteW_f ?_ | refine wpSs_nl ?_); (try conv => whnf)))
      rw [decide_eq_false hs]
      ((try conv => whnf); repeat ((first | refine ⟨_, rfl, ?_⟩ | refine ⟨rfl, ?_⟩ | refine ⟨_, ix_head, ?_⟩ | refine ⟨⟨rfl, rfl⟩, ?_⟩ | refine iteW_t ?_ | refine iteW_f ?_ | refine wpSs_nl ?_); (try conv => whnf)))
      refine line (.inl ⟨0, rfl, rfl⟩) (.inl rfl) ?_
      ((try conv => whnf); repeat ((first | refine ⟨_, rfl, ?_⟩ | refine ⟨rfl, ?_⟩ | refine ⟨_, ix_head, ?_⟩ | refine ⟨⟨rfl, rfl⟩, ?_⟩ | refine iteW_t ?_ | refine iteW_f ?_ | refine wpSs_nl ?_); (try conv => whnf)))
      refine line (ls := .lst (L.map oD)) (.inr rfl) (.inr rfl) ?_
      ((try conv => whnf); repeat ((first | refine ⟨_, rfl, ?_⟩ | refine ⟨rfl, ?_⟩ | refine ⟨_, ix_head, ?_⟩ | refine ⟨⟨rfl, rfl⟩, ?_⟩ | refine iteW_t ?_ | refine iteW_f ?_ | refine wpSs_nl ?_); (try conv => whnf)))
      refine lawTold (k := k + 4) ev ?_
      ((try conv => whnf); repeat ((first | refine ⟨_, rfl, ?_⟩ | refine ⟨rfl, ?_⟩ | refine ⟨_, ix_head, ?_⟩ | refine ⟨⟨rfl, rfl⟩, ?_⟩ | refine iteW_t ?_ | refine iteW_f ?_ | refine wpSs_nl ?_); (try conv => whnf)))
      refine lawTold (k := k + 4) ev ?_
      conv => whnf
      refine ⟨⟨told.1, told.1, told.2⟩, ?_⟩
      rw [eqD_me told.1]
      ((try conv => whnf); repeat ((first | refine ⟨_, rfl, ?_⟩ | refine ⟨rfl, ?_⟩ | refine ⟨_, ix_head, ?_⟩ | refine ⟨⟨rfl, rfl⟩, ?_⟩ | refine iteW_t ?_ | refine iteW_f ?_ | refine wpSs_nl ?_); (try conv => whnf)))
      refine lawAdded (k := k + 4) (j := 0) ev rfl hL hx htp (g.sh _ hxm) hac fun a ha hga => ?_
      ((try conv => whnf); repeat ((first | refine ⟨_, rfl, ?_⟩ | refine ⟨rfl, ?_⟩ | refine ⟨_, ix_head, ?_⟩ | refine ⟨⟨rfl, rfl⟩, ?_⟩ | refine iteW_t ?_ | refine iteW_f ?_ | refine wpSs_nl ?_); (try conv => whnf)))
      refine lawTold (k := k + 4) ev ?_
      ((try conv => whnf); repeat ((first | refine ⟨_, rfl, ?_⟩ | refine ⟨rfl, ?_⟩ | refine ⟨_, ix_head, ?_⟩ | refine ⟨⟨rfl, rfl⟩, ?_⟩ | refine iteW_t ?_ | refine iteW_f ?_ | refine wpSs_nl ?_); (try conv => whnf)))
      refine sumOf (k := k + 2) (l := a) ev (.inr rfl) ha ?_
      ((try conv => whnf); repeat ((first | refine ⟨_, rfl, ?_⟩ | refine ⟨rfl, ?_⟩ | refine ⟨_, ix_head, ?_⟩ | refine ⟨⟨rfl, rfl⟩, ?_⟩ | refine iteW_t ?_ | refine iteW_f ?_ | refine wpSs_nl ?_); (try conv => whnf)))
      refine lawTold (k := k + 4) (o := (gat a, _)) ev ?_
      rw [hga]
      conv => whnf
      refine ⟨⟨told.1, told.1, told.2⟩, ?_⟩
      rw [eqD_me told.1]
      ((try conv => whnf); repeat ((first | refine ⟨_, rfl, ?_⟩ | refine ⟨rfl, ?_⟩ | refine ⟨_, ix_head, ?_⟩ | refine ⟨⟨rfl, rfl⟩, ?_⟩ | refine iteW_t ?_ | refine iteW_f ?_ | refine wpSs_nl ?_); (try conv => whnf)))
      refine ⟨by rw [List.length_map]; omega, ?_⟩
      refine hN _ _ ⟨_, _, .refl, pre ++ [.tup (.str s :: r)], L ++ [stX L (.tup (.str s :: r))], _, _, _, _, by rw [e]; simp, by rw [List.map_append]; rfl, hg, fun o ho => ?_, by rw [List.length_append, List.length_append, hl]; rfl, rfl⟩
      rcases List.mem_append.mp ho with ho | ho
      · exact hL o ho
      · rw [List.mem_singleton.mp ho]; exact hlk
    | false =>
      rw [hac] at hg
      cases hpa : parts (.tup ys) with
      | none => rw [hpa] at hg; cases hg
      | some t =>
        obtain ⟨r, hr⟩ := parts_hd hpa
        cases hr
        ((try conv => whnf); repeat ((first | refine ⟨_, rfl, ?_⟩ | refine ⟨rfl, ?_⟩ | refine ⟨_, ix_head, ?_⟩ | refine ⟨⟨rfl, rfl⟩, ?_⟩ | refine iteW_t ?_ | refine iteW_f ?_ | refine wpSs_nl ?_); (try conv => whnf)))
        exact ⟨_, _, .trim [] _ rfl (Nat.le_refl _) rfl rfl .refl, h⟩
end
end K37

set_option maxHeartbeats 1000000
namespace K37
open PySem PySem.Spec PyProof.Rows L2 DL SA
theorem unps_pr (ps : KV) : unps (ps.map pr) = ps.map pr := by
  induction ps with
  | nil => rfl
  | cons p r ih => show pr p :: unps (r.map pr) = _; rw [ih]; rfl
theorem unp_oD (o : Li) : unp (oD o) = oD o := by
  show DL.D.ins cx_Sum [fx_terms, fx_number] [.tup (unps (o.1.map pr)), .int o.2] = _
  rw [unps_pr]; rfl
theorem unps_of : ∀ {xs : List DL.D}, (∀ x ∈ xs, unp x = x) → unps xs = xs
  | [], _ => rfl
  | x :: r, h => by
    show unp x :: unps r = _
    rw [h x (by simp), unps_of fun y hy => h y (List.mem_cons_of_mem _ hy)]
theorem unp_ob {x : DL.D} (h : Ob x) : unp x = x := by
  induction h with
  | sum h => exact unp_oD _
  | tup h ih => exact congrArg D.tup (unps_of ih)
  | lst h ih => exact congrArg D.lst (unps_of ih)
  | _ => rfl
/-- sums with names -/
def pnL : Nat → List Li → List DL.D
  | _, [] => []
  | n, o :: r => .pin n (oD o) :: pnL (n + 1) r
theorem pnL_R : ∀ (n : Nat) (cs : List Li), PinRs n (cs.map oD) (pnL n cs) (n + cs.length)
  | n, [] => .nil
  | n, o :: r => by
    have := pnL_R (n + 1) r
    rw [show n + 1 + r.length = n + (o :: r).length by simp; omega] at this
    exact .cons (.pin rfl .refl) this
theorem unps_pnL : ∀ (n : Nat) (cs : List Li), unps (pnL n cs) = cs.map oD
  | n, [] => rfl
  | n, o :: r => by
    show unp (oD o) :: unps (pnL (n + 1) r) = _
    rw [unp_oD, unps_pnL (n + 1) r]; rfl
theorem samePs_me : ∀ (n : Nat) (cs : List Li), samePs (pnL n cs) (pnL n cs) = true
  | n, [] => rfl
  | n, o :: r => by
    show (Nat.beq n n && samePs (pnL (n + 1) r) (pnL (n + 1) r)) = true
    rw [samePs_me (n + 1) r, Nat.beq_refl]; rfl
theorem ne_pnL {n : Nat} {cs : List Li} {S : Store} {Q : QD} (hc : cs ≠ []) (q : Q (.bl false) S) : cmpW .NotEq (.lst (pnL n cs)) (.lst (pnL n cs)) S Q := by
  cases cs with
  | nil => exact absurd rfl hc
  | cons o r => exact ⟨samePs_me n (o :: r), q⟩
theorem unps_ob {xs : List DL.D} (h : ∀ x ∈ xs, Ob x) : unps xs = xs := unps_of fun x hx => unp_ob (h x hx)
abbrev Bt := List Li × List DL.D
def bD (q : Bt) : DL.D := .tup [.tup (q.1.map oD), .tup q.2]
theorem bel_script (m : Nat) : ∀ ns : List Int, bel m (DL.script ns) = true
  | [] => rfl
  | n :: r => by
    show (true && bels m (r.map .int)) = true
    exact bel_script m r
theorem bels_bD {m : Nat} : ∀ l : List Bt, (∀ q ∈ l, Good q.1 q.2) → bels m (l.map bD) = true
  | [], _ => rfl
  | q :: r, h => by
    show ((bels m (q.1.map oD) && (bel m (.tup q.2) && true)) && bels m (r.map bD)) = true
    rw [bels_oD, bel_ob m (h q (by simp)).pp.ob, bels_bD r fun x hx => h x (List.mem_cons_of_mem _ hx)]; rfl
theorem things_ok {q : Int} (q0 : 0 ≤ q) (q1 : q < 3) : ∃ th : List Tx, cutL (TH.map DL.D.str) none (some (1 + q)) = th.map DL.D.str ∧ th.Nodup ∧ th.length ≤ 3 ∧ ∀ x ∈ th, x ∈ TH := by
  refine ⟨TH.take (1 + q).toNat, ?_, ?_, ?_, fun x hx => List.mem_of_mem_take hx⟩
  · rw [cutL_map, cutL_hi _ (by omega)]
  · exact (List.take_sublist _ _).nodup (by decide)
  · exact Nat.le_trans (List.length_take_le' _ _) (by decide)
section
variable {G : Gd} {k : Nat} {S : Store} {Q E : QD} {args : List DL.D}
theorem lawMet (ev : Ev G) {cs : List Li} {th : List Tx} (hnd : th.Nodup) (hl : th.length ≤ 3) (hc : ∀ o ∈ cs, Lk o) (hcl : cs.length ≤ 5) (hk : ∀ o ∈ cs, ∀ q ∈ o.1, q.1 ∈ th) (hn : ∀ v : Tx → Int, ∃ o ∈ cs, wsum v o.1 + o.2 < 0) (h : Q (.bl false) S) : CallP G (k + 2) nx__law_met [.tup (cs.map oD), .lst (th.map .str), .int 3] S Q E := by
  refine call_data ?_ ?_ (lawMet0 (k := k) ev hnd hl hc hcl hk hn ⟨rfl, rfl, h⟩)
  · show (bels 0 (cs.map oD) && (bels 0 (th.map .str) && (true && true))) = true
    rw [bels_oD, bels_py 0 (isPys_strs th)]; rfl
  · show [DL.D.tup (rens [] (cs.map oD)), .lst (rens [] (th.map .str)), .int 3] = _
    rw [rens_oD, rens_py [] (isPys_strs th)]
theorem lawLines (ev : Ev G) {cs : List Li} {xs : List DL.D} (g : Good cs xs) (h : Q (.bl true) S) : CallP G (k + 6) nx__law_lines_right [.tup (cs.map oD), .tup xs] S Q E := by
  refine call_data ?_ ?_ (lawLines0 (k := k) ev g ⟨rfl, rfl, h⟩)
  · show (bels 0 (cs.map oD) && (bel 0 (.tup xs) && true)) = true
    rw [bels_oD, bel_ob 0 g.pp.ob]; rfl
  · show [DL.D.tup (rens [] (cs.map oD)), ren [] (.tup xs)] = _
    rw [rens_oD, ren_ob _ g.pp.ob]
theorem snd_ls {xs : List DL.D} {L : List Li} {d s : Nat} : snd (d + 1) (.lst (xs.map lsD)) L s = snd (d + 1) (.tup xs) L s := by
  show go _ _ (xs.map lsD) L = go _ _ xs L
  exact go_ls xs L
/-- law -/
theorem lawW (ev : Ev G) {ns : List Int} (h : Q (.bl true) []) : wpSs T (orc G T (k + 11)) ir28 (endP [] Q E) (slots0 8 [DL.script ns]) [] := by
  ((try conv => whnf); repeat ((first | refine ⟨_, rfl, ?_⟩ | refine ⟨rfl, ?_⟩ | refine ⟨_, ix_head, ?_⟩ | refine ⟨⟨rfl, rfl⟩, ?_⟩ | refine iteW_t ?_ | refine iteW_f ?_ | refine wpSs_nl ?_); (try conv => whnf)))
  refine cellAt (k := k + 9) ev (by decide) fun c c0 c1 => ?_
  ((try conv => whnf); repeat ((first | refine ⟨_, rfl, ?_⟩ | refine ⟨rfl, ?_⟩ | refine ⟨_, ix_head, ?_⟩ | refine ⟨⟨rfl, rfl⟩, ?_⟩ | refine iteW_t ?_ | refine iteW_f ?_ | refine wpSs_nl ?_); (try conv => whnf)))
  refine next (k := k + 9) ev (by decide) fun q q0 q1 => ?_
  obtain ⟨th, e, hnd, hl, hth⟩ := things_ok q0 q1
  ((try conv => whnf); repeat ((first | refine ⟨_, rfl, ?_⟩ | refine ⟨rfl, ?_⟩ | refine ⟨_, ix_head, ?_⟩ | refine ⟨⟨rfl, rfl⟩, ?_⟩ | refine iteW_t ?_ | refine iteW_f ?_ | refine wpSs_nl ?_); (try conv => whnf)))
  rw [show ([DL.D.str [63, 48], DL.D.str [63, 49], DL.D.str [63, 50]] : List DL.D) = TH.map DL.D.str from rfl, e]
  ((try conv => whnf); repeat ((first | refine ⟨_, rfl, ?_⟩ | refine ⟨rfl, ?_⟩ | refine ⟨_, ix_head, ?_⟩ | refine ⟨⟨rfl, rfl⟩, ?_⟩ | refine iteW_t ?_ | refine iteW_f ?_ | refine wpSs_nl ?_); (try conv => whnf)))
  refine ⟨by decide, ?_⟩
  refine lc_rng 2 (fun acc S => S = [dC c 1] ∧ ∃ l : List Bt, acc = l.map bD ∧ ∀ q ∈ l, Good q.1 q.2 ∧ ∀ o ∈ q.1, ∀ z ∈ o.1, z.1 ∈ th) ⟨rfl, [], rfl, fun _ hq => (List.not_mem_nil hq).elim⟩ (by decide) ?_ ?_
  · rintro acc S ha ⟨rfl, l, rfl, hg⟩
    rw [List.length_map] at ha
    refine ⟨trivial, ?_⟩
    ((try conv => whnf); repeat ((first | refine ⟨_, rfl, ?_⟩ | refine ⟨rfl, ?_⟩ | refine ⟨_, ix_head, ?_⟩ | refine ⟨⟨rfl, rfl⟩, ?_⟩ | refine iteW_t ?_ | refine iteW_f ?_ | refine wpSs_nl ?_); (try conv => whnf)))
    refine for_at (fun z : Int => DL.D.int z) [0, 1, 0] (fun P τ S => ∃ s4 s5 s6 s7 : Option DL.D, S = [dC c 1] ∧ τ = [some (DL.script ns), some (.ref 0), some (.lst (th.map .str)), some (.lst (l.map bD)), s4, s5, s6, s7]) ⟨none, none, none, none, rfl, rfl⟩ ?_ ?_
    · rintro τ S ⟨s4, s5, s6, s7, rfl, rfl⟩
      refine ⟨trivial, ?_⟩
      ((try conv => whnf); repeat ((first | refine ⟨_, rfl, ?_⟩ | refine ⟨rfl, ?_⟩ | refine ⟨_, ix_head, ?_⟩ | refine ⟨⟨rfl, rfl⟩, ?_⟩ | refine iteW_t ?_ | refine iteW_f ?_ | refine wpSs_nl ?_); (try conv => whnf)))
      exact ⟨_, _, .trim [] _ rfl (Nat.le_refl _) rfl rfl .refl, h⟩
    · rintro P z R τ S Nx e hN ⟨s4, s5, s6, s7, rfl, rfl⟩
      have hz : 0 ≤ z ∧ z < 2 := by
        have hm : z ∈ ([0, 1, 0] : List Int) := by rw [e]; simp
        simp at hm
        omega
      obtain ⟨⟨cs, xs⟩, g1, hm⟩ := idx_map (f := bD) (xs := l) (i := z) hz.1 (by omega)
      obtain ⟨g, hk⟩ := hg _ hm
      have hob := g.pp.ob.mem (xs := xs) rfl
      have hne : cs ≠ [] := fun hc => by
        obtain ⟨o, ho, _⟩ := g.nm fun _ => 0
        rw [hc] at ho
        cases ho
      have hcl : cs.length ≤ 5 := g.cl
      have hux : unp (.tup xs) = .tup xs := unp_ob g.pp.ob
      have hur : unps [DL.D.tup (pnL 1 cs), .tup xs] = [.tup (cs.map oD), .tup xs] := by
        show [DL.D.tup (unps (pnL 1 cs)), unp (.tup xs)] = _
        rw [unps_pnL, hux]
      refine ⟨trivial, ?_⟩
      ((try conv => whnf); repeat ((first | refine ⟨_, rfl, ?_⟩ | refine ⟨rfl, ?_⟩ | refine ⟨_, ix_head, ?_⟩ | refine ⟨⟨rfl, rfl⟩, ?_⟩ | refine iteW_t ?_ | refine iteW_f ?_ | refine wpSs_nl ?_); (try conv => whnf)))
      refine ⟨_, g1, ?_⟩
      ((try conv => whnf); repeat ((first | refine ⟨_, rfl, ?_⟩ | refine ⟨rfl, ?_⟩ | refine ⟨_, ix_head, ?_⟩ | refine ⟨⟨rfl, rfl⟩, ?_⟩ | refine iteW_t ?_ | refine iteW_f ?_ | refine wpSs_nl ?_); (try conv => whnf)))
      refine ⟨_, _, .pin 6 _ _ _ rfl (.tup (pnL_R 1 cs)) .refl, ?_⟩
      ((try conv => whnf); repeat ((first | refine ⟨_, rfl, ?_⟩ | refine ⟨rfl, ?_⟩ | refine ⟨_, ix_head, ?_⟩ | refine ⟨⟨rfl, rfl⟩, ?_⟩ | refine iteW_t ?_ | refine iteW_f ?_ | refine wpSs_nl ?_); (try conv => whnf)))
      refine callP_unp hur ?_
      refine refutes (k := k) (d := 1) ev (.inr rfl) g.pp g.lk (by omega) ?_
      rw [g.sd]
      ((try conv => whnf); repeat ((first | refine ⟨_, rfl, ?_⟩ | refine ⟨rfl, ?_⟩ | refine ⟨_, ix_head, ?_⟩ | refine ⟨⟨rfl, rfl⟩, ?_⟩ | refine iteW_t ?_ | refine iteW_f ?_ | refine wpSs_nl ?_); (try conv => whnf)))
      refine lawListed (k := k + 10) ev g.tu g.xl ?_
      ((try conv => whnf); repeat ((first | refine ⟨_, rfl, ?_⟩ | refine ⟨rfl, ?_⟩ | refine ⟨_, ix_head, ?_⟩ | refine ⟨⟨rfl, rfl⟩, ?_⟩ | refine iteW_t ?_ | refine iteW_f ?_ | refine wpSs_nl ?_); (try conv => whnf)))
      refine callP_unp (args' := [.lst (cs.map oD), .lst (xs.map lsD)]) ?_ ?_
      · show [DL.D.lst (unps (pnL 1 cs)), .lst (unps (xs.map lsD))] = _
        rw [unps_pnL, unps_ob fun x hx => by
          obtain ⟨y, hy, rfl⟩ := List.mem_map.mp hx
          exact lsD_ob (hob y hy)]
      refine refutes (k := k) (d := 1) ev (.inl rfl) (pp_ls g.pp) g.lk (by omega) ?_
      rw [snd_ls, g.sd]
      ((try conv => whnf); repeat ((first | refine ⟨_, rfl, ?_⟩ | refine ⟨rfl, ?_⟩ | refine ⟨_, ix_head, ?_⟩ | refine ⟨⟨rfl, rfl⟩, ?_⟩ | refine iteW_t ?_ | refine iteW_f ?_ | refine wpSs_nl ?_); (try conv => whnf)))
      refine callP_unp (args' := [.lst (cs.map oD), .tup xs]) ?_ ?_
      · show [DL.D.lst (unps (pnL 1 cs)), unp (.tup xs)] = _
        rw [unps_pnL, hux]
      refine refutes (k := k) (d := 1) ev (.inl rfl) g.pp g.lk (by omega) ?_
      rw [g.sd]
      conv => whnf
      refine iteW_f ?_
      refine wpT_cmp (wp_var rfl ?_)
      refine wpE_to (S' := [dC c 1] ++ List.replicate (1 + cs.length - [dC c 1].length) Cell.dead) (d := .lst (pnL 1 cs)) (fun Q q => ?_) ?_
      · ((try conv => whnf); repeat ((first | refine ⟨_, rfl, ?_⟩ | refine ⟨rfl, ?_⟩ | refine ⟨_, ix_head, ?_⟩ | refine ⟨⟨rfl, rfl⟩, ?_⟩ | refine iteW_t ?_ | refine iteW_f ?_ | refine wpSs_nl ?_); (try conv => whnf)))
        exact q
      refine ne_pnL hne ?_
      ((try conv => whnf); repeat ((first | refine ⟨_, rfl, ?_⟩ | refine ⟨rfl, ?_⟩ | refine ⟨_, ix_head, ?_⟩ | refine ⟨⟨rfl, rfl⟩, ?_⟩ | refine iteW_t ?_ | refine iteW_f ?_ | refine wpSs_nl ?_); (try conv => whnf)))
      refine callP_unp hur ?_
      refine callP_mono (lawLines (k := k) ev g ?_) (by omega)
      ((try conv => whnf); repeat ((first | refine ⟨_, rfl, ?_⟩ | refine ⟨rfl, ?_⟩ | refine ⟨_, ix_head, ?_⟩ | refine ⟨⟨rfl, rfl⟩, ?_⟩ | refine iteW_t ?_ | refine iteW_f ?_ | refine wpSs_nl ?_); (try conv => whnf)))
      refine callP_unp (args' := [.tup (cs.map oD), .lst (th.map .str), .int 3]) ?_ ?_
      · show [DL.D.tup (unps (pnL 1 cs)), unp (.lst (th.map .str)), .int 3] = _
        rw [unps_pnL, show unp (.lst (th.map .str)) = .lst (th.map .str) from congrArg D.lst (unps_py (isPys_strs th))]
      refine callP_mono (lawMet (k := k) ev hnd hl g.lk hcl hk g.nm ?_) (by omega)
      ((try conv => whnf); repeat ((first | refine ⟨_, rfl, ?_⟩ | refine ⟨rfl, ?_⟩ | refine ⟨_, ix_head, ?_⟩ | refine ⟨⟨rfl, rfl⟩, ?_⟩ | refine iteW_t ?_ | refine iteW_f ?_ | refine wpSs_nl ?_); (try conv => whnf)))
      refine hN _ _ ⟨_, _, .wipe [5, 6] (.trim [dC c 1] _ rfl (Nat.le_refl _) rfl ?_ .refl), _, _, _, _, rfl, rfl⟩
      show (bel 1 (DL.script ns) && (true && (bels 1 (th.map .str) && (bels 1 (l.map bD) && (true && (bel 1 (.tup xs) && true)))))) = true
      rw [bel_script, bels_py 1 (isPys_strs th), bels_bD l fun q hq => (hg q hq).1, bel_ob 1 g.pp.ob]
      rfl
  · rintro i acc S N1 N2 hi ha hN ⟨rfl, l, rfl, hg⟩
    refine ⟨trivial, ?_⟩
    ((try conv => whnf); repeat ((first | refine ⟨_, rfl, ?_⟩ | refine ⟨rfl, ?_⟩ | refine ⟨_, ix_head, ?_⟩ | refine ⟨⟨rfl, rfl⟩, ?_⟩ | refine iteW_t ?_ | refine iteW_f ?_ | refine wpSs_nl ?_); (try conv => whnf)))
    refine cellAt (k := k + 9) ev (by omega) fun m m0 m1 => ?_
    ((try conv => whnf); repeat ((first | refine ⟨_, rfl, ?_⟩ | refine ⟨rfl, ?_⟩ | refine ⟨_, ix_head, ?_⟩ | refine ⟨⟨rfl, rfl⟩, ?_⟩ | refine iteW_t ?_ | refine iteW_f ?_ | refine wpSs_nl ?_); (try conv => whnf)))
    refine call_at1 (j := 1) (c0 := dC m 0) (args := [.ref 0, .lst (th.map .str)]) rfl rfl ?_ ?_ (callP_mono (lawBuilt (k := k) ev hth hl fun cs xs i' g hk => ⟨rfl, rfl, ?_⟩) (by omega))
    · show (true && (bels 1 (th.map .str) && true)) = true
      rw [bels_py 1 (isPys_strs th)]; rfl
    · show [DL.D.ref 1, .lst (rens [1] (th.map .str))] = _
      rw [rens_py [1] (isPys_strs th)]; rfl
    · have e1 : ren [1] (.tup [.tup (cs.map oD), .tup xs]) = bD (cs, xs) := by
        show DL.D.tup [.tup (rens [1] (cs.map oD)), ren [1] (.tup xs)] = _
        rw [rens_oD, ren_ob _ g.pp.ob]; rfl
      rw [e1]
      refine hN _ _ ⟨_, _, .trim [dC c 1] _ rfl (Nat.le_refl 1) rfl ?_ .refl, rfl, l ++ [(cs, xs)], by rw [List.map_append]; rfl, fun q hq => ?_⟩
      · show (bels 1 (cs.map oD) && (bel 1 (.tup xs) && true)) = true
        rw [bels_oD, bel_ob 1 g.pp.ob]; rfl
      · rcases List.mem_append.mp hq with hq | hq
        · exact hg q hq
        · rw [List.mem_singleton.mp hq]; exact ⟨g, hk⟩
end
end K37

set_option maxHeartbeats 0
namespace K37
open PySem PySem.Spec PyProof.Rows L2 DL
abbrev hk : PySem.W.Hook := hookK 4 hdr fn
def ob (s : PySem.W.SharedT) : AlK := obsKG 4 hdr fn (HandSHeadRun.getT s)
theorem ob_eq (s : PySem.W.SharedT) : ob s = hk.obs s.abs := obsKG_eq (HandSHeadRun.getT_eq s)
theorem hrunF (w : World) : HandSHeadRun.RunEq R (PySem.W.view R.prog [30]) hk ob 3000 loose (wfk w false) := runEq_cut (hrunF0 w) (hrunF1 w) (hrunF2 w)
theorem hrunT (w : World) : HandSHeadRun.RunEq R (PySem.W.view R.prog [30]) hk ob 3000 loose (wfk w true) := runEq_cut (hrunT0 w) (hrunT1 w) (hrunT2 w)
theorem hrunB (w : World) (b : Bool) : HandSHeadRun.RunEq R (PySem.W.view R.prog [30]) hk ob 3000 loose (wfk w b) := by
  cases b; exact hrunF w; exact hrunT w
theorem hrun (w : World) : HandSHeadRun.RunEq R (PySem.W.view R.prog [30]) hk ob 3000 loose w := wfk_eq w ▸ hrunB w _
abbrev gd (w : World) (K : PySem.W.Frag) (mg : Str → Option Value) (base : Heap) : Gd := mkG fn hdr.cls hdr.nms PySem.Challenge.pw_holdwright_k37_papers_refute w K mg base
theorem plainD : fn.all (fun d => d.dfl.isEmpty && d.kwd.isEmpty) = true := by rfl
theorem ev_of {w : World} {K : PySem.W.Frag} {mg : Str → Option Value} {base : Heap} (KI : K.In base) (BN : base.Ns mainGlobals mg) (c : SaysK hdr fn w K) : Ev (gd w K mg base) := by
  refine ⟨gok1 hdr KI BN rfl c.q.fact (by decide +kernel) c.tabs, fun i d hd => ?_⟩
  have z := List.all_eq_true.mp plainD d (List.mem_of_getElem? hd)
  rw [Bool.and_eq_true] at z
  exact fun_of c.q i hd (List.isEmpty_iff.mp z.1) (List.isEmpty_iff.mp z.2)
theorem ans {w : World} {K : PySem.W.Frag} {mg : Str → Option Value} {base : Heap} (KI : K.In base) (BN : base.Ns mainGlobals mg) (c : SaysK hdr fn w K) (ns : List Int) (h1 : ns.length ≤ 63) (h2 : ∀ z ∈ ns, Builtin.Int.intBits z ≤ 1048576) :
    FnOk PySem.Challenge.pw_holdwright_k37_papers_refute w K mg base (CX PySem.Challenge.pw_holdwright_k37_papers_refute w) 60 ((gd w K mg base).fa 28) ((gd w K mg base).fd 28) ["script"] (spD (gd w K mg base) [script ns] [] (fun d _ => d = .bl true) (fun _ _ => False)) := by
  have ev := ev_of (w := w) KI BN c
  exact (fnOkP (k := 11) ev.go (ev.fn 28 df28 rfl) sc28 (by decide) chk28 rfl (lawW (k := 0) ev rfl)).mono (by decide)
end K37
open PySem PySem.W PySem.Calls PyProof.Rows
theorem PySem.Challenge.cw_holdwright_k37_papers_refute_holds : PySem.Challenge.rw_holdwright_k37_papers_refute.Holds := by
  w_on; o_law
  refine HandSHeadRun.head_any (r := OpenLaw.row PySem.Challenge.rw_holdwright_k37_papers_refute) (q := view (OpenLaw.row PySem.Challenge.rw_holdwright_k37_papers_refute).prog [30]) (H := K37.hk) (ob := K37.ob) (M := 3000) (loose := K37.loose) (d := HandSHeadRun.topDef (OpenLaw.row PySem.Challenge.rw_holdwright_k37_papers_refute).prog 30) (kwd := []) K37.ob_eq
    (by kernel_rfl) (fun s => by kernel_rfl) K37.hrun (by kernel_rfl) (by kernel_rfl) (by kernel_rfl) (by rfl) (by first | assumption | decide +kernel) (by decide +kernel) ⟨rfl, rfl, rfl, rfl, rfl, by decide +kernel⟩ ?hw ?hc
  case hw => w_witness2
  case hc =>
    refine LamX.walk_ofTsE (l := PySem.Challenge.rw_holdwright_k37_papers_refute) (n := 63) (k := 60) (x := "script") (CX := fun w => L2.CX PySem.Challenge.pw_holdwright_k37_papers_refute w) rfl (by decide) (by kernel_rfl) ⟨rfl, by decide, by decide⟩ ?F (fun w H s e s' z => DL.noCX z)
    intro w mg fa h Y G hmg0
    obtain ⟨K, KX, c⟩ := Y
    have hmg : mg ("law" : PySem.Str) = some (.ref fa) := by
      have e : (HandSHeadRun.topDef (OpenLaw.row PySem.Challenge.rw_holdwright_k37_papers_refute).prog 30).name = ("law" : PySem.Str) := by kernel_rfl
      rw [← e]
      exact hmg0
    have ev := K37.ev_of (w := w) KX G c
    have e0 := (ev.go.fn 28 "law" rfl).1
    have e1 : fa = (K37.gd w K mg h).fa 28 := by
      have := hmg.symm.trans e0
      cases this
      rfl
    subst e1
    refine ⟨K, KX, DL.lawAt (G := fun base => K37.gd w K mg base) (fun _ => rfl) ?_ fun base KI BN ns h1 h2 => K37.ans KI BN c ns h1 h2⟩
    exact fun s v => L2.FunD.bindsA (ps := ["script"]) (ev.fn 28 K37.df28 rfl) (fun _ _ _ _ _ _ us hl => match us, hl with | [_], _ => rfl) s [v] rfl

