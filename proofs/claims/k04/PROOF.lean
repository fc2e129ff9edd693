import PyProof.Rows.All
import Wide.All
import OpenK.AllK
import Wide.FinOn
import KE.KStateDown
import HandS.ForMost
import HandS.Head0
import HandS.Head1
import HandS.Head2
import HandS.HeadEnd
import HandS.HeadHook1
import HandS.HeadHook2
import HandS.New0
import HandS.IsInst
import HandS.Exc
import HandS.ClsMeth
import HandS.Wide
import HandS.RaiseMore
import HandS.RevRange
import HandS.Style
import HandS.Zip
import HandS.Defaults
import HandS.EndBits
import HandS.Text
import HandS.ExcInit
import HandS.TryOnly
import HandS.TryMany
import HandS.TryElse
import HandS.ExcField
import HandS.ExcIs
import HandS.ExcOwn
import HandS.CallSlots
import HandS.WordsExc
import KE.KExcIs
import HandS.Codes
import HandS.SetFor
import KE.GoesEnum
import KE.GoesMore
import HandS.FStr
import HandS.Flow
import KE.KDictZip
import KE.KItemsList
import HandS.ListItems
import PyProof.ListNew
import KE.IntTextLaws
import PySem.Challenge.RW_halvedpictures_k04_texts_written_and_rea
set_option Elab.async false
set_option linter.all false
set_option maxRecDepth 100000
set_option maxHeartbeats 0
/-! TH: the head: what is looked at behind the top. -/
namespace TL
open PySem PySem.Spec PyProof.Rows L2
def mk0B (K : PySem.W.Frag) (x : Str) : Bool := PySem.W.makesIn K (He.ga K x) && (He.eqO (PySem.W.findIn K (.ref (He.ga K x)) "__init__") (some (some (.builtin "object.__init__"))) && (decide (PySem.W.mroIn K (He.ga K x) (.type "object") = some true) && PySem.W.keepIn K (.ref (He.ga K x))))
def clsmB (x m : Str) (K : PySem.W.Frag) : Bool := PySem.W.readsIn K (He.ga K x) (.type "type") && (decide (PySem.W.specialIn K (.ref (He.ga K x)) "__getattribute__" = some (some (.builtin "type.__getattribute__"))) &&
  match PySem.W.findIn K (.ref (He.ga K x)) m with
  | some (some a) => (match PySem.W.findCls K (.ref (He.ga K x)) (.type "type") m with
    | some (.val b) => decide (b = a)
    | _ => false)
  | _ => false)
def isiB (x : Str) (K : PySem.W.Frag) : Bool := He.eqO (PySem.W.findIn K (.ref (He.ga K x)) "__class__") (some (some (.builtin "object.__class__"))) && (He.eqO (PySem.W.specialIn K (.builtin "object.__class__") "__get__") (some (some (.builtin "getset_descriptor.__get__"))) &&
  (decide (PySem.W.takesIn K (.builtin "object.__class__") = some true) && decide (PySem.W.mroIn K (He.ga K x) (.type "object") = some true)))
def kitK (x y : Str) (b : Bool) (K : PySem.W.Frag) : Bool := decide (PySem.W.kitOne K (.ref (He.ga K x)) (.ref (He.ga K y)) = some b)
/-- a plain thing is no instance of the text's class -/
def tyNames : List String := ["NoneType", "bool", "int", "str", "list", "tuple", "dict"]
def kitTy (y : Str) (K : PySem.W.Frag) : Bool := tyNames.all fun n => decide (PySem.W.kitOne K (.type n) (.ref (He.ga K y)) = some false)
theorem kitTy_ok {K : PySem.W.Frag} {y : Str} (h : kitTy y K = true) : ∀ n, n ∈ tyNames → PySem.W.kitOne K (.type n) (.ref (He.ga K y)) = some false := fun n hn => of_decide_eq_true (List.all_eq_true.mp h n hn)
/-! exception classes -/
def excB (K : PySem.W.Frag) (C : Addr) : Bool := match K.lookup C with
  | some ⟨.type ty, _, .cls cd, sl⟩ => decide (ty = "type") && (match cd.mro, sl.toList with
    | .ref C' :: bm, [_, _, _, _, some (.builtin n), _] => decide (C' = C) && (decide (n = "ValueError.__new__") && (cd.hasDict && (!cd.hasDel && PySem.HandSPX.refsVE bm)))
    | _, _ => false)
  | _ => false
def xcB (K : PySem.W.Frag) (C : Addr) : Bool := excB K C && (He.eqO (PySem.W.findIn K (.ref C) "__setattr__") (some (some (.builtin "object.__setattr__"))) && (decide (PySem.W.subIn K (.ref C) (.type "BaseException") = some true) && (decide (PySem.W.typeIn K (.ref C) = some (.type "type")) &&
  (PySem.W.keepIn K (.ref C) && (He.eqO (PySem.W.findIn K (.ref C) "__getattribute__") (some (some (.builtin "BaseException.__getattribute__"))) && (He.eqO (PySem.W.findIn K (.ref C) "__getattr__") (some none) && (PySem.W.hasDictIn K C &&
  (He.eqO (PySem.W.findIn K (.ref C) "__class__") (some (some (.builtin "object.__class__"))) && (He.eqO (PySem.W.specialIn K (.builtin "object.__class__") "__get__") (some (some (.builtin "getset_descriptor.__get__"))) &&
  (decide (PySem.W.takesIn K (.builtin "object.__class__") = some true) && decide (PySem.W.mroIn K C (.type "object") = some true)))))))))))
def xnB (K : PySem.W.Frag) (C : Addr) (f : Str) : Bool := He.eqO (PySem.W.findIn K (.ref C) f) (some none)
/-- except C: does it hold an exception of the class D -/
def exmB (K : PySem.W.Frag) (D C : Addr) (b : Bool) : Bool := decide (PySem.W.exmOne K (.ref D) (.ref C) = some b)
def veiB (r : Option PySem.W.CFound) : Bool := match r with
  | some (.val (.builtin n)) => decide (n = "ValueError.__init__")
  | _ => false
def initB (K : PySem.W.Frag) (C : Addr) : Bool := PySem.W.readsIn K C (.type "type") && (He.eqO (PySem.W.specialIn K (.ref C) "__getattribute__") (some (some (.builtin "type.__getattribute__"))) && veiB (PySem.W.findCls K (.ref C) (.type "type") "__init__"))
def kveB (x : Str) (K : PySem.W.Frag) : Bool := decide (PySem.W.kitOne K (.ref (He.ga K x)) (.type "ValueError") = some true)
def xcBx (x : Str) (K : PySem.W.Frag) : Bool := xcB K (He.ga K x)
def xnBx (x f : Str) (K : PySem.W.Frag) : Bool := xnB K (He.ga K x) f
def exmBx (x y : Str) (b : Bool) (K : PySem.W.Frag) : Bool := exmB K (He.ga K x) (He.ga K y) b
def initBx (x : Str) (K : PySem.W.Frag) : Bool := initB K (He.ga K x)
/-- where the class's own __init__ stands -/
def ownInitB (x : Str) (K : PySem.W.Frag) : Bool := He.eqO (PySem.W.findIn K (.ref (He.ga K x)) "__init__") (some (some (.ref (He.fAd K (x, some "__init__"))))) && decide (PySem.W.typeIn K (.ref (He.fAd K (x, some "__init__"))) = some (.type "function"))
/-- what stands behind the top: all objects with a small address -/
def frZ (n : Nat) (g : Addr → Option Obj) : PySem.W.Frag := He.frG g (List.range n)
def SaysZ (fa : List He.Fa) (fn : List He.DefD) (xs : List (PySem.W.Frag → Bool)) (K : PySem.W.Frag) : Prop := (He.obsD fa fn K, xs.all fun f => f K) = (He.valD fn, true)
def hookZ (n : Nat) (fa : List He.Fa) (fn : List He.DefD) (xs : List (PySem.W.Frag → Bool)) : PySem.W.Hook where
  α := He.AlD × Bool
  obs := fun s => (He.obsD fa fn (frZ n s.heap.get?), xs.all fun f => f (frZ n s.heap.get?))
  val := fun _ => (He.valD fn, true)
  says := fun _ h => ∃ K : PySem.W.Frag, K.In h ∧ SaysZ fa fn xs K
  of := fun _ _ e => ⟨_, He.frG_in, e⟩
  keeps := fun _ _ _ ⟨K, hK, c⟩ k => ⟨K, PySem.W.Frag.In.keeps hK k, c⟩
def obsZ (n : Nat) (fa : List He.Fa) (fn : List He.DefD) (xs : List (PySem.W.Frag → Bool)) (g : Addr → Option Obj) : He.AlD × Bool := (He.obsD fa fn (frZ n g), xs.all fun f => f (frZ n g))
theorem obsZ_eq {n : Nat} {fa : List He.Fa} {fn : List He.DefD} {xs : List (PySem.W.Frag → Bool)} {g : Addr → Option Obj} {s : Shared} (h : ∀ a, g a = s.heap.get? a) : obsZ n fa fn xs g = (hookZ n fa fn xs).obs s := by
  have e : g = s.heap.get? := funext h
  rw [e] <;> rfl
theorem SaysZ.d {fa : List He.Fa} {fn : List He.DefD} {xs : List (PySem.W.Frag → Bool)} {K : PySem.W.Frag} (c : SaysZ fa fn xs K) : He.SaysD fa fn K := congrArg (fun z : He.AlD × Bool => z.1) c
theorem SaysZ.x {fa : List He.Fa} {fn : List He.DefD} {xs : List (PySem.W.Frag → Bool)} {K : PySem.W.Frag} (c : SaysZ fa fn xs K) (i : Nat) {f : PySem.W.Frag → Bool} (h : xs[i]? = some f := by rfl) : f K = true :=
  List.all_eq_true.mp (show (xs.all fun f => f K) = true from congrArg (fun z : He.AlD × Bool => z.2) c) f (List.mem_of_getElem? h)
/-- the run in three parts: each one's memory is let go ahead of the next -/
theorem opt2 {α β γ : Type} {x : Option α} {f : α → β} {g : α → γ} {b : β} {c : γ} (h1 : x.map f = some b) (h2 : x.map g = some c) : x.map (fun s => (f s, g s)) = some (b, c) := by
  cases x with
  | none => cases h1
  | some s =>
    cases h1
    cases h2
    rfl
/-- the top's end, looked at by f -/
def EndIs {α : Type} (r : PySem.W.OpenRow) (M : Nat) (f : PySem.W.SharedT → α) (v : α) (w : World) : Prop := ∀ os : OsState, (HandSHeadRun.endF (HandSHeadRun.stepQ (HandSHeadRun.denQ HandSHeadRun.tabQ) r.prog w) M r.prog w os).map f = some v
theorem runEq_of {r : PySem.W.OpenRow} {q : Program} {n M : Nat} {fa : List He.Fa} {fn : List He.DefD} {xs : List (PySem.W.Frag → Bool)} {loose : List PySem.Str} {w : World}
    (h1 : EndIs r M (fun s => HandSHeadRun.looksF r.prog (PySem.W.boot_heap w.params) s.abs) true w)
    (h2 : EndIs r M (fun s => HandSHeadRun.seenQ q loose (importedModules r.prog.main.body) (fun s => PySem.W.xlAt q [] s && PySem.W.recOk r.toRowW.records s) s.abs) (PySem.W.openGood q loose) w)
    (h3 : EndIs r M (fun s => He.obsD fa fn (frZ n (HandSHeadRun.getT s))) (He.valD fn) w) (h4 : EndIs r M (fun s => xs.all fun f => f (frZ n (HandSHeadRun.getT s))) true w) :
    HandSHeadRun.RunEq r q (hookZ n fa fn xs) (fun s => obsZ n fa fn xs (HandSHeadRun.getT s)) M loose w := fun os =>
  opt2 (h1 os) (opt2 (h2 os) (opt2 (h3 os) (h4 os)))
end TL
namespace TL
open PySem PySem.Spec PyProof.Rows L2
/-! ### the text's defs -/
def top (i : Nat) : Stmt := PySem.Challenge.pw_halvedpictures_k04_texts_written_and_rea.main.body.getD i (.Pass ⟨0, 0, 0, 0⟩)
def inCls (j : Nat) : Stmt → Stmt
  | .ClassDef _ _ _ body .. => body.getD j (.Pass ⟨0, 0, 0, 0⟩)
  | s => s
abbrev s_NoField_init : Stmt := inCls 0 (top 3)
abbrev s_is_whole : Stmt := top 8
abbrev s_is_row : Stmt := top 9
abbrev s_are_rows : Stmt := top 10
abbrev s_Field_init : Stmt := inCls 0 (top 12)
abbrev s_Field_rows : Stmt := inCls 3 (top 12)
abbrev s_field_text : Stmt := top 14
abbrev s_read_field : Stmt := top 15
abbrev s_read_row : Stmt := top 16
abbrev s_is_plain : Stmt := top 17
abbrev s_law_cell : Stmt := top 19
abbrev s_law_box : Stmt := top 20
abbrev s_law_take : Stmt := top 21
abbrev s_law_number : Stmt := top 22
abbrev s_law_size : Stmt := top 23
abbrev s_law_rows : Stmt := top 24
abbrev s_law_written : Stmt := top 25
abbrev s_law_text : Stmt := top 26
abbrev s_law_refused : Stmt := top 27
abbrev s_law : Stmt := top 28
def d_is_whole : He.DefD := ⟨("is_whole", none), "is_whole", "is_whole", defArgs s_is_whole, defBody s_is_whole, defScope s_is_whole, [], []⟩
def d_is_row : He.DefD := ⟨("is_row", none), "is_row", "is_row", defArgs s_is_row, defBody s_is_row, defScope s_is_row, [], []⟩
def d_are_rows : He.DefD := ⟨("are_rows", none), "are_rows", "are_rows", defArgs s_are_rows, defBody s_are_rows, defScope s_are_rows, [], []⟩
def d_field_text : He.DefD := ⟨("field_text", none), "field_text", "field_text", defArgs s_field_text, defBody s_field_text, defScope s_field_text, [], []⟩
def d_read_field : He.DefD := ⟨("read_field", none), "read_field", "read_field", defArgs s_read_field, defBody s_read_field, defScope s_read_field, [], []⟩
def d_read_row : He.DefD := ⟨("read_row", none), "read_row", "read_row", defArgs s_read_row, defBody s_read_row, defScope s_read_row, [], []⟩
def d_is_plain : He.DefD := ⟨("is_plain", none), "is_plain", "is_plain", defArgs s_is_plain, defBody s_is_plain, defScope s_is_plain, [], []⟩
def d_law_cell : He.DefD := ⟨("_law_cell", none), "_law_cell", "_law_cell", defArgs s_law_cell, defBody s_law_cell, defScope s_law_cell, [], []⟩
def d_law_box : He.DefD := ⟨("_law_box", none), "_law_box", "_law_box", defArgs s_law_box, defBody s_law_box, defScope s_law_box, [], []⟩
def d_law_take : He.DefD := ⟨("_law_take", none), "_law_take", "_law_take", defArgs s_law_take, defBody s_law_take, defScope s_law_take, [], []⟩
def d_law_number : He.DefD := ⟨("_law_number", none), "_law_number", "_law_number", defArgs s_law_number, defBody s_law_number, defScope s_law_number, [], []⟩
def d_law_size : He.DefD := ⟨("_law_size", none), "_law_size", "_law_size", defArgs s_law_size, defBody s_law_size, defScope s_law_size, [], []⟩
def d_law_rows : He.DefD := ⟨("_law_rows", none), "_law_rows", "_law_rows", defArgs s_law_rows, defBody s_law_rows, defScope s_law_rows, [], []⟩
def d_law_written : He.DefD := ⟨("_law_written", none), "_law_written", "_law_written", defArgs s_law_written, defBody s_law_written, defScope s_law_written, [], []⟩
def d_law_text : He.DefD := ⟨("_law_text", none), "_law_text", "_law_text", defArgs s_law_text, defBody s_law_text, defScope s_law_text, [], []⟩
def d_law_refused : He.DefD := ⟨("_law_refused", none), "_law_refused", "_law_refused", defArgs s_law_refused, defBody s_law_refused, defScope s_law_refused, [], []⟩
def d_law : He.DefD := ⟨("law", none), "law", "law", defArgs s_law, defBody s_law, defScope s_law, [], []⟩
def d_Field__rows : He.DefD := ⟨("Field", some "rows"), "rows", "Field.rows", defArgs s_Field_rows, defBody s_Field_rows, defScope s_Field_rows, [], []⟩
def d_Field__mk : He.DefD := ⟨("Field", some "__init__"), "__init__", "Field.__init__", defArgs s_Field_init, defBody s_Field_init, defScope s_Field_init, [], []⟩
def d_NoField__mk : He.DefD := ⟨("NoField", some "__init__"), "__init__", "NoField.__init__", defArgs s_NoField_init, defBody s_NoField_init, defScope s_NoField_init, [], []⟩
def fnL : List He.DefD := [d_is_whole, d_is_row, d_are_rows, d_field_text, d_read_field, d_read_row, d_is_plain, d_law_cell, d_law_box, d_law_take, d_law_number, d_law_size, d_law_rows, d_law_written, d_law_text, d_law_refused, d_law, d_Field__rows, d_Field__mk, d_NoField__mk]
def faL : List He.Fa := [.glo "is_whole", .glo "is_row", .glo "are_rows", .glo "field_text", .glo "read_field", .glo "read_row", .glo "is_plain", .glo "_law_cell", .glo "_law_box", .glo "_law_take", .glo "_law_number", .glo "_law_size", .glo "_law_rows", .glo "_law_written", .glo "_law_text", .glo "_law_refused", .glo "law", .free "bool", .free "int", .free "isinstance", .free "len", .free "list", .free "str", .free "max", .free "min", .free "range", .free "abs", .free "enumerate", .free "repr", .int "FIGURES" 999999999999999, .glo "Field", .cls "Field", .glo "NoField", .glo "HalvedError", .glo "NoText", .meth "Field" "rows", .mkr "Field", .noat "Field" "lines"]
def xsL : List (PySem.W.Frag → Bool) := [isiB "Field", kitK "Field" "Field" true, xcBx "NoField", kveB "NoField", xnBx "NoField" "found", exmBx "NoField" "HalvedError" true, kitK "NoField" "NoField" true, kitK "NoField" "NoText" false, kitTy "Field", ownInitB "NoField", initBx "HalvedError"]
def clsN : Nat → Str
  | 0 => "Field"
  | 41 => "NoField"
  | 40 => "HalvedError"
  | 45 => "NoText"
  | _ => "law"
/-! ### the head -/
abbrev R : PySem.W.OpenRow := PySem.W.OpenLaw.row PySem.Challenge.rw_halvedpictures_k04_texts_written_and_rea
abbrev hk : PySem.W.Hook := hookZ 1000 faL fnL xsL
def ob (s : PySem.W.SharedT) : He.AlD × Bool := obsZ 1000 faL fnL xsL (HandSHeadRun.getT s)
theorem ob_eq (s : PySem.W.SharedT) : ob s = hk.obs s.abs := obsZ_eq (HandSHeadRun.getT_eq s)
abbrev qv : Program := PySem.W.view R.prog [28]
abbrev lo : List PySem.Str := (["_wall", "HalvedError", "NoField", "NoPlace", "NoText", "FIGURES", "is_whole", "is_row"] : List PySem.Str) ++ (["are_rows", "Field", "field_text", "read_field", "read_row", "is_plain", "_law_cell", "_law_box"] : List PySem.Str) ++ (["_law_take", "_law_number", "_law_size", "_law_rows", "_law_written", "_law_text", "_law_refused"] : List PySem.Str)
theorem run1 (w : World) : EndIs R 9000 (fun s => HandSHeadRun.looksF R.prog (PySem.W.boot_heap w.params) s.abs) true w := by
  intro os
  kernel_rfl
theorem run2 (w : World) : EndIs R 9000 (fun s => HandSHeadRun.seenQ qv lo (importedModules R.prog.main.body) (fun s => PySem.W.xlAt qv [] s && PySem.W.recOk R.toRowW.records s) s.abs) (PySem.W.openGood qv lo) w := by
  intro os
  kernel_rfl
theorem run3 (w : World) : EndIs R 9000 (fun s => He.obsD faL fnL (frZ 1000 (HandSHeadRun.getT s))) (He.valD fnL) w := by
  intro os
  kernel_rfl
theorem run4 (w : World) : EndIs R 9000 (fun s => xsL.all fun f => f (frZ 1000 (HandSHeadRun.getT s))) true w := by
  intro os
  kernel_rfl
theorem run (w : World) : HandSHeadRun.RunEq R qv hk ob 9000 lo w := runEq_of (run1 w) (run2 w) (run3 w) (run4 w)
end TL
/-! TL: what is known of the store, as trees. -/
namespace TL
open PySem PySem.Spec PyProof.Rows L2

/-- data: what never changes any more -/
inductive D where
  | non | bl (b : Bool) | int (i : Int) | str (s : Str)
  | lst (xs : List D) | tup (xs : List D)
  | dik (kvs : List (Key × D)) | dit (kvs : List (List Key × D))
  | ins (c : Nat) (fs : List (Str × D))
  | scr (ns : List Int) | oth (v : V)
/-- a tree: what is one's own and may change, its leaves data -/
inductive T where
  | frz (ov : Option V) (d : D)
  | lst (ts : List T) | tup (ts : List T)
  | dik (kvs : List (Key × T)) | dit (kvs : List (List Key × T))
  | ins (c : Nat) (fs : List (Str × T))
abbrev I (n : Int) : T := .frz none (.int n)
abbrev B (b : Bool) : T := .frz none (.bl b)
abbrev S (s : Str) : T := .frz none (.str s)
abbrev N_ : T := .frz none .non
abbrev F (d : D) : T := .frz none d

structure Cn where
  K : PySem.W.Frag
  cls : Nat → Addr

mutual
def Rep (c : Cn) (H : Hp) : D → V → Prop
  | .non, v => v = .non
  | .bl b, v => v = .bl b
  | .int i, v => v = .int i
  | .str s, v => v = .str s
  | .lst ds, v => ∃ a vs, v = .ref a ∧ H a = some (.lst vs) ∧ Reps c H ds vs
  | .tup ds, v => ∃ a vs, v = .ref a ∧ H a = some (.tup vs) ∧ Reps c H ds vs
  | .dik kvs, v => ∃ a ks, v = .ref a ∧ Rd H a (.dK ks) ∧ RepK c H kvs ks
  | .dit kvs, v => ∃ a ks, v = .ref a ∧ Rd H a (.dT ks) ∧ RepT c H kvs ks
  | .ins k fs, v => ∃ a dx gs, v = .ref a ∧ H a = some (.ins (c.cls k) dx gs) ∧ RepF c H fs gs
  | .scr ns, v => ∃ a, v = .ref a ∧ SqL c.K H a (ns.map V.int)
  | .oth u, v => v = u
def Reps (c : Cn) (H : Hp) : List D → List V → Prop
  | [], vs => vs = []
  | d :: ds, vs => ∃ v r, vs = v :: r ∧ Rep c H d v ∧ Reps c H ds r
def RepF (c : Cn) (H : Hp) : List (Str × D) → List (Str × V) → Prop
  | [], vs => vs = []
  | (f, d) :: ds, vs => ∃ v r, vs = (f, v) :: r ∧ Rep c H d v ∧ RepF c H ds r
def RepK (c : Cn) (H : Hp) : List (Key × D) → List (Key × V) → Prop
  | [], vs => vs = []
  | (f, d) :: ds, vs => ∃ v r, vs = (f, v) :: r ∧ Rep c H d v ∧ RepK c H ds r
def RepT (c : Cn) (H : Hp) : List (List Key × D) → List (List Key × V) → Prop
  | [], vs => vs = []
  | (f, d) :: ds, vs => ∃ v r, vs = (f, v) :: r ∧ Rep c H d v ∧ RepT c H ds r
end

def Ex (H H' : Hp) : Prop := ∀ a o, H a = some o → H' a = some o
theorem Ex.refl (H : Hp) : Ex H H := fun _ _ h => h
theorem Ex.trans {H H1 H2 : Hp} (a : Ex H H1) (b : Ex H1 H2) : Ex H H2 := fun x o h => b x o (a x o h)
theorem Ex.rd {H H' : Hp} (e : Ex H H') {a : Addr} {u : HO} (h : Rd H a u) : Rd H' a u := by
  rcases h with h | ⟨o, h⟩
  · exact .inl (e _ _ h)
  · exact .inr ⟨o, e _ _ h⟩
theorem Ex.sql {K : PySem.W.Frag} {H H' : Hp} (e : Ex H H') {a : Addr} {xs : List V} (h : SqL K H a xs) : SqL K H' a xs := by
  rcases h with h | h
  · exact .inl (e.rd h)
  · exact .inr h

mutual
theorem Rep.mono {c : Cn} {H H' : Hp} (e : Ex H H') : ∀ {d : D} {v : V}, Rep c H d v → Rep c H' d v
  | .non, _, h => h
  | .bl _, _, h => h
  | .int _, _, h => h
  | .str _, _, h => h
  | .lst ds, v, ⟨a, vs, h1, h2, h3⟩ => ⟨a, vs, h1, e _ _ h2, Reps.mono e h3⟩
  | .tup ds, v, ⟨a, vs, h1, h2, h3⟩ => ⟨a, vs, h1, e _ _ h2, Reps.mono e h3⟩
  | .dik kvs, v, ⟨a, ks, h1, h2, h3⟩ => ⟨a, ks, h1, e.rd h2, RepK.mono e h3⟩
  | .dit kvs, v, ⟨a, ks, h1, h2, h3⟩ => ⟨a, ks, h1, e.rd h2, RepT.mono e h3⟩
  | .ins k fs, v, ⟨a, dx, gs, h1, h2, h3⟩ => ⟨a, dx, gs, h1, e _ _ h2, RepF.mono e h3⟩
  | .scr ns, v, ⟨a, h1, h2⟩ => ⟨a, h1, e.sql h2⟩
  | .oth _, _, h => h
theorem Reps.mono {c : Cn} {H H' : Hp} (e : Ex H H') : ∀ {ds : List D} {vs : List V}, Reps c H ds vs → Reps c H' ds vs
  | [], _, h => h
  | d :: ds, vs, ⟨v, r, h1, h2, h3⟩ => ⟨v, r, h1, Rep.mono e h2, Reps.mono e h3⟩
theorem RepF.mono {c : Cn} {H H' : Hp} (e : Ex H H') : ∀ {ds : List (Str × D)} {vs : List (Str × V)}, RepF c H ds vs → RepF c H' ds vs
  | [], _, h => h
  | (f, d) :: ds, vs, ⟨v, r, h1, h2, h3⟩ => ⟨v, r, h1, Rep.mono e h2, RepF.mono e h3⟩
theorem RepK.mono {c : Cn} {H H' : Hp} (e : Ex H H') : ∀ {ds : List (Key × D)} {vs : List (Key × V)}, RepK c H ds vs → RepK c H' ds vs
  | [], _, h => h
  | (f, d) :: ds, vs, ⟨v, r, h1, h2, h3⟩ => ⟨v, r, h1, Rep.mono e h2, RepK.mono e h3⟩
theorem RepT.mono {c : Cn} {H H' : Hp} (e : Ex H H') : ∀ {ds : List (List Key × D)} {vs : List (List Key × V)}, RepT c H ds vs → RepT c H' ds vs
  | [], _, h => h
  | (f, d) :: ds, vs, ⟨v, r, h1, h2, h3⟩ => ⟨v, r, h1, Rep.mono e h2, RepT.mono e h3⟩
end

/-- sets of addresses -/
abbrev As := Addr → Prop
mutual
def TR (c : Cn) (G H : Hp) : T → As → V → Prop
  | .frz ov d, _, v => Rep c G d v ∧ ∀ u, ov = some u → v = u
  | .lst ts, F, v => ∃ p vs F1, v = .ref p ∧ F p ∧ G p = none ∧ H p = some (.lst vs) ∧ (∀ a, F1 a → F a ∧ a ≠ p) ∧ TRs c G H ts F1 vs
  | .tup ts, F, v => ∃ p vs F1, v = .ref p ∧ F p ∧ G p = none ∧ H p = some (.tup vs) ∧ (∀ a, F1 a → F a ∧ a ≠ p) ∧ TRs c G H ts F1 vs
  | .dik ts, F, v => ∃ p vs F1, v = .ref p ∧ F p ∧ G p = none ∧ H p = some (.dK vs) ∧ (∀ a, F1 a → F a ∧ a ≠ p) ∧ TRk c G H ts F1 vs
  | .dit ts, F, v => ∃ p vs F1, v = .ref p ∧ F p ∧ G p = none ∧ H p = some (.dT vs) ∧ (∀ a, F1 a → F a ∧ a ≠ p) ∧ TRt c G H ts F1 vs
  | .ins k ts, F, v => ∃ p dx vs F1, v = .ref p ∧ F p ∧ G p = none ∧ H p = some (.ins (c.cls k) dx vs) ∧ (∀ a, F1 a → F a ∧ a ≠ p) ∧ TRf c G H ts F1 vs
def TRs (c : Cn) (G H : Hp) : List T → As → List V → Prop
  | [], _, vs => vs = []
  | t :: ts, F, vs => ∃ v r F1 F2, vs = v :: r ∧ (∀ a, F1 a → F a) ∧ (∀ a, F2 a → F a ∧ ¬ F1 a) ∧ TR c G H t F1 v ∧ TRs c G H ts F2 r
def TRf (c : Cn) (G H : Hp) : List (Str × T) → As → List (Str × V) → Prop
  | [], _, vs => vs = []
  | (f, t) :: ts, F, vs => ∃ v r F1 F2, vs = (f, v) :: r ∧ (∀ a, F1 a → F a) ∧ (∀ a, F2 a → F a ∧ ¬ F1 a) ∧ TR c G H t F1 v ∧ TRf c G H ts F2 r
def TRk (c : Cn) (G H : Hp) : List (Key × T) → As → List (Key × V) → Prop
  | [], _, vs => vs = []
  | (f, t) :: ts, F, vs => ∃ v r F1 F2, vs = (f, v) :: r ∧ (∀ a, F1 a → F a) ∧ (∀ a, F2 a → F a ∧ ¬ F1 a) ∧ TR c G H t F1 v ∧ TRk c G H ts F2 r
def TRt (c : Cn) (G H : Hp) : List (List Key × T) → As → List (List Key × V) → Prop
  | [], _, vs => vs = []
  | (f, t) :: ts, F, vs => ∃ v r F1 F2, vs = (f, v) :: r ∧ (∀ a, F1 a → F a) ∧ (∀ a, F2 a → F a ∧ ¬ F1 a) ∧ TR c G H t F1 v ∧ TRt c G H ts F2 r
end

mutual
def T.data : T → D
  | .frz _ d => d
  | .lst ts => .lst (T.datas ts)
  | .tup ts => .tup (T.datas ts)
  | .dik ts => .dik (T.datak ts)
  | .dit ts => .dit (T.datat ts)
  | .ins k ts => .ins k (T.dataf ts)
def T.datas : List T → List D
  | [] => []
  | t :: ts => t.data :: T.datas ts
def T.dataf : List (Str × T) → List (Str × D)
  | [] => []
  | (f, t) :: ts => (f, t.data) :: T.dataf ts
def T.datak : List (Key × T) → List (Key × D)
  | [] => []
  | (f, t) :: ts => (f, t.data) :: T.datak ts
def T.datat : List (List Key × T) → List (List Key × D)
  | [] => []
  | (f, t) :: ts => (f, t.data) :: T.datat ts
end

section
variable {c : Cn} {G H G' H' : Hp}
mutual
/-- more of what is fixed, the own cells as they were -/
theorem TR.mono (e : Ex G G') : ∀ {t : T} {F F' : As} {v : V}, TR c G H t F v → (∀ a, F a → F' a) → (∀ a o, F a → H a = some o → H' a = some o) → (∀ a, F a → G' a = none) → TR c G' H' t F' v
  | .frz ov d, F, F', v, ⟨h1, h2⟩, _, _, _ => ⟨h1.mono e, h2⟩
  | .lst ts, F, F', v, ⟨p, vs, F1, h1, h2, h3, h4, h5, h6⟩, hf, k, g => ⟨p, vs, F1, h1, hf _ h2, g _ h2, k _ _ h2 h4, fun a ha => ⟨hf _ (h5 a ha).1, (h5 a ha).2⟩,
      TRs.mono e h6 (fun _ x => x) (fun a o ha => k a o (h5 a ha).1) fun a ha => g a (h5 a ha).1⟩
  | .tup ts, F, F', v, ⟨p, vs, F1, h1, h2, h3, h4, h5, h6⟩, hf, k, g => ⟨p, vs, F1, h1, hf _ h2, g _ h2, k _ _ h2 h4, fun a ha => ⟨hf _ (h5 a ha).1, (h5 a ha).2⟩,
      TRs.mono e h6 (fun _ x => x) (fun a o ha => k a o (h5 a ha).1) fun a ha => g a (h5 a ha).1⟩
  | .dik ts, F, F', v, ⟨p, vs, F1, h1, h2, h3, h4, h5, h6⟩, hf, k, g => ⟨p, vs, F1, h1, hf _ h2, g _ h2, k _ _ h2 h4, fun a ha => ⟨hf _ (h5 a ha).1, (h5 a ha).2⟩,
      TRk.mono e h6 (fun _ x => x) (fun a o ha => k a o (h5 a ha).1) fun a ha => g a (h5 a ha).1⟩
  | .dit ts, F, F', v, ⟨p, vs, F1, h1, h2, h3, h4, h5, h6⟩, hf, k, g => ⟨p, vs, F1, h1, hf _ h2, g _ h2, k _ _ h2 h4, fun a ha => ⟨hf _ (h5 a ha).1, (h5 a ha).2⟩,
      TRt.mono e h6 (fun _ x => x) (fun a o ha => k a o (h5 a ha).1) fun a ha => g a (h5 a ha).1⟩
  | .ins _ ts, F, F', v, ⟨p, dx, vs, F1, h1, h2, h3, h4, h5, h6⟩, hf, k, g => ⟨p, dx, vs, F1, h1, hf _ h2, g _ h2, k _ _ h2 h4, fun a ha => ⟨hf _ (h5 a ha).1, (h5 a ha).2⟩,
      TRf.mono e h6 (fun _ x => x) (fun a o ha => k a o (h5 a ha).1) fun a ha => g a (h5 a ha).1⟩
theorem TRs.mono (e : Ex G G') : ∀ {ts : List T} {F F' : As} {vs : List V}, TRs c G H ts F vs → (∀ a, F a → F' a) → (∀ a o, F a → H a = some o → H' a = some o) → (∀ a, F a → G' a = none) → TRs c G' H' ts F' vs
  | [], _, _, _, h, _, _, _ => h
  | t :: ts, F, F', vs, ⟨v, r, F1, F2, h1, h2, h3, h4, h5⟩, hf, k, g => ⟨v, r, F1, F2, h1, fun a x => hf a (h2 a x), fun a x => ⟨hf a (h3 a x).1, (h3 a x).2⟩,
      TR.mono e h4 (fun _ x => x) (fun a o x => k a o (h2 a x)) (fun a x => g a (h2 a x)), TRs.mono e h5 (fun _ x => x) (fun a o x => k a o (h3 a x).1) (fun a x => g a (h3 a x).1)⟩
theorem TRf.mono (e : Ex G G') : ∀ {ts : List (Str × T)} {F F' : As} {vs : List (Str × V)}, TRf c G H ts F vs → (∀ a, F a → F' a) → (∀ a o, F a → H a = some o → H' a = some o) → (∀ a, F a → G' a = none) → TRf c G' H' ts F' vs
  | [], _, _, _, h, _, _, _ => h
  | (f, t) :: ts, F, F', vs, ⟨v, r, F1, F2, h1, h2, h3, h4, h5⟩, hf, k, g => ⟨v, r, F1, F2, h1, fun a x => hf a (h2 a x), fun a x => ⟨hf a (h3 a x).1, (h3 a x).2⟩,
      TR.mono e h4 (fun _ x => x) (fun a o x => k a o (h2 a x)) (fun a x => g a (h2 a x)), TRf.mono e h5 (fun _ x => x) (fun a o x => k a o (h3 a x).1) (fun a x => g a (h3 a x).1)⟩
theorem TRk.mono (e : Ex G G') : ∀ {ts : List (Key × T)} {F F' : As} {vs : List (Key × V)}, TRk c G H ts F vs → (∀ a, F a → F' a) → (∀ a o, F a → H a = some o → H' a = some o) → (∀ a, F a → G' a = none) → TRk c G' H' ts F' vs
  | [], _, _, _, h, _, _, _ => h
  | (f, t) :: ts, F, F', vs, ⟨v, r, F1, F2, h1, h2, h3, h4, h5⟩, hf, k, g => ⟨v, r, F1, F2, h1, fun a x => hf a (h2 a x), fun a x => ⟨hf a (h3 a x).1, (h3 a x).2⟩,
      TR.mono e h4 (fun _ x => x) (fun a o x => k a o (h2 a x)) (fun a x => g a (h2 a x)), TRk.mono e h5 (fun _ x => x) (fun a o x => k a o (h3 a x).1) (fun a x => g a (h3 a x).1)⟩
theorem TRt.mono (e : Ex G G') : ∀ {ts : List (List Key × T)} {F F' : As} {vs : List (List Key × V)}, TRt c G H ts F vs → (∀ a, F a → F' a) → (∀ a o, F a → H a = some o → H' a = some o) → (∀ a, F a → G' a = none) → TRt c G' H' ts F' vs
  | [], _, _, _, h, _, _, _ => h
  | (f, t) :: ts, F, F', vs, ⟨v, r, F1, F2, h1, h2, h3, h4, h5⟩, hf, k, g => ⟨v, r, F1, F2, h1, fun a x => hf a (h2 a x), fun a x => ⟨hf a (h3 a x).1, (h3 a x).2⟩,
      TR.mono e h4 (fun _ x => x) (fun a o x => k a o (h2 a x)) (fun a x => g a (h2 a x)), TRt.mono e h5 (fun _ x => x) (fun a o x => k a o (h3 a x).1) (fun a x => g a (h3 a x).1)⟩
end
mutual
/-- the own cells are fixed -/
theorem TR.freeze (e : Ex G G') : ∀ {t : T} {F : As} {v : V}, TR c G H t F v → (∀ a o, F a → H a = some o → G' a = some o) → Rep c G' t.data v
  | .frz ov d, F, v, ⟨h1, _⟩, _ => h1.mono e
  | .lst ts, F, v, ⟨p, vs, F1, h1, h2, h3, h4, h5, h6⟩, k => ⟨p, vs, h1, k _ _ h2 h4, TRs.freeze e h6 fun a o x => k a o (h5 a x).1⟩
  | .tup ts, F, v, ⟨p, vs, F1, h1, h2, h3, h4, h5, h6⟩, k => ⟨p, vs, h1, k _ _ h2 h4, TRs.freeze e h6 fun a o x => k a o (h5 a x).1⟩
  | .dik ts, F, v, ⟨p, vs, F1, h1, h2, h3, h4, h5, h6⟩, k => ⟨p, vs, h1, .inl (k _ _ h2 h4), TRk.freeze e h6 fun a o x => k a o (h5 a x).1⟩
  | .dit ts, F, v, ⟨p, vs, F1, h1, h2, h3, h4, h5, h6⟩, k => ⟨p, vs, h1, .inl (k _ _ h2 h4), TRt.freeze e h6 fun a o x => k a o (h5 a x).1⟩
  | .ins _ ts, F, v, ⟨p, dx, vs, F1, h1, h2, h3, h4, h5, h6⟩, k => ⟨p, dx, vs, h1, k _ _ h2 h4, TRf.freeze e h6 fun a o x => k a o (h5 a x).1⟩
theorem TRs.freeze (e : Ex G G') : ∀ {ts : List T} {F : As} {vs : List V}, TRs c G H ts F vs → (∀ a o, F a → H a = some o → G' a = some o) → Reps c G' (T.datas ts) vs
  | [], _, _, h, _ => h
  | t :: ts, F, vs, ⟨v, r, F1, F2, h1, h2, h3, h4, h5⟩, k => ⟨v, r, h1, TR.freeze e h4 fun a o x => k a o (h2 a x), TRs.freeze e h5 fun a o x => k a o (h3 a x).1⟩
theorem TRf.freeze (e : Ex G G') : ∀ {ts : List (Str × T)} {F : As} {vs : List (Str × V)}, TRf c G H ts F vs → (∀ a o, F a → H a = some o → G' a = some o) → RepF c G' (T.dataf ts) vs
  | [], _, _, h, _ => h
  | (f, t) :: ts, F, vs, ⟨v, r, F1, F2, h1, h2, h3, h4, h5⟩, k => ⟨v, r, h1, TR.freeze e h4 fun a o x => k a o (h2 a x), TRf.freeze e h5 fun a o x => k a o (h3 a x).1⟩
theorem TRk.freeze (e : Ex G G') : ∀ {ts : List (Key × T)} {F : As} {vs : List (Key × V)}, TRk c G H ts F vs → (∀ a o, F a → H a = some o → G' a = some o) → RepK c G' (T.datak ts) vs
  | [], _, _, h, _ => h
  | (f, t) :: ts, F, vs, ⟨v, r, F1, F2, h1, h2, h3, h4, h5⟩, k => ⟨v, r, h1, TR.freeze e h4 fun a o x => k a o (h2 a x), TRk.freeze e h5 fun a o x => k a o (h3 a x).1⟩
theorem TRt.freeze (e : Ex G G') : ∀ {ts : List (List Key × T)} {F : As} {vs : List (List Key × V)}, TRt c G H ts F vs → (∀ a o, F a → H a = some o → G' a = some o) → RepT c G' (T.datat ts) vs
  | [], _, _, h, _ => h
  | (f, t) :: ts, F, vs, ⟨v, r, F1, F2, h1, h2, h3, h4, h5⟩, k => ⟨v, r, h1, TR.freeze e h4 fun a o x => k a o (h2 a x), TRt.freeze e h5 fun a o x => k a o (h3 a x).1⟩
end
end
/-- what is own becomes fixed -/
noncomputable def frzH (G H : Hp) (F : As) : Hp := open Classical in fun a => if F a then H a else G a
theorem frzH_in {G H : Hp} {F : As} {a : Addr} (h : F a) : frzH G H F a = H a := by unfold frzH; rw [if_pos h]
theorem frzH_out {G H : Hp} {F : As} {a : Addr} (h : ¬ F a) : frzH G H F a = G a := by unfold frzH; rw [if_neg h]
theorem frzH_ex {G H : Hp} {F : As} (e : Ex G H) : Ex G (frzH G H F) := fun a o h => by
  by_cases f : F a
  · rw [frzH_in f]; exact e _ _ h
  · rw [frzH_out f]; exact h
theorem frzH_le {G H : Hp} {F : As} (e : Ex G H) : Ex (frzH G H F) H := fun a o h => by
  by_cases f : F a
  · rw [frzH_in f] at h; exact h
  · rw [frzH_out f] at h; exact e _ _ h
end TL
/-! TL2: states, expressions. -/
namespace TL
open PySem PySem.Spec PyProof.Rows L2

/-- a step of the store: U is one's own ahead of it, U' behind it -/
structure Stp (G H : Hp) (U : As) (G' H' : Hp) (U' : As) : Prop where
  g : Ex G G'
  h : ∀ a o, H a = some o → ¬ U a → H' a = some o
  n : ∀ a, U' a → U a ∨ H a = none
  m : ∀ a, G' a ≠ none → G a ≠ none ∨ U a ∨ H a = none
theorem Stp.refl {G H : Hp} {U : As} : Stp G H U G H U := ⟨Ex.refl _, fun _ _ h _ => h, fun _ h => .inl h, fun _ h => .inl h⟩
theorem Stp.trans {G H G1 H1 G2 H2 : Hp} {U U1 U2 : As} (a : Stp G H U G1 H1 U1) (b : Stp G1 H1 U1 G2 H2 U2) : Stp G H U G2 H2 U2 where
  g := a.g.trans b.g
  h := fun x o e u => b.h x o (a.h x o e u) fun u1 => by
    rcases a.n x u1 with z | z
    · exact u z
    · rw [z] at e; cases e
  n := fun x u => by
    rcases b.n x u with z | z
    · exact a.n x z
    · by_cases ux : U x
      · exact .inl ux
      · right
        cases q : H x with
        | none => rfl
        | some o => rw [a.h x o q ux] at z; cases z
  m := fun x u => by
    rcases b.m x u with z | z | z
    · exact a.m x z
    · exact .inr (a.n x z)
    · by_cases ux : U x
      · exact .inr (.inl ux)
      · right; right
        cases q : H x with
        | none => rfl
        | some o => rw [a.h x o q ux] at z; cases z
/-- cells beside -/
theorem Stp.frame {G H G1 H1 : Hp} {U U1 : As} (a : Stp G H U G1 H1 U1) (F : As) : Stp G H (fun x => U x ∨ F x) G1 H1 (fun x => U1 x ∨ F x) where
  g := a.g
  h := fun x o e u => a.h x o e fun z => u (.inl z)
  n := fun x u => by
    rcases u with u | u
    · rcases a.n x u with z | z
      · exact .inl (.inl z)
      · exact .inr z
    · exact .inl (.inr u)
  m := fun x u => by
    rcases a.m x u with z | z | z
    · exact .inl z
    · exact .inr (.inl (.inl z))
    · exact .inr (.inr z)
/-- less own behind, more own ahead -/
theorem Stp.wk {G H G1 H1 : Hp} {U U1 V V1 : As} (a : Stp G H U G1 H1 U1) (h : ∀ x, U x → V x) (h1 : ∀ x, V1 x → U1 x ∨ V x ∨ H x = none) : Stp G H V G1 H1 V1 where
  g := a.g
  h := fun x o e u => a.h x o e fun z => u (h x z)
  n := fun x u => by
    rcases h1 x u with z | z
    · rcases a.n x z with y | y
      · exact .inl (h x y)
      · exact .inr y
    · exact z
  m := fun x u => by
    rcases a.m x u with z | z | z
    · exact .inl z
    · exact .inr (.inl (h x z))
    · exact .inr (.inr z)

abbrev Env := List (Option T)
def uP (P : Nat → As) : As := fun a => ∃ i, P i a
structure Amb where
  c : Cn
  G : Hp
  H : Hp
  U : As
  σ : L2.St
  keep : List Nat

/-- what the slots hold -/
structure SL (c : Cn) (G H : Hp) (σ : L2.St) (env : Env) (P : Nat → As) : Prop where
  len : σ.length = env.length
  le : Ex G H
  slot : ∀ i t, env[i]? = some (some t) → ∃ v, σ[i]? = some (some v) ∧ TR c G H t (P i) v
  dis : ∀ i j a, P i a → P j a → i = j
  own : ∀ i a, P i a → G a = none ∧ H a ≠ none
structure SR (A : Amb) (G H : Hp) (σ : L2.St) (env : Env) (P : Nat → As) : Prop extends SL A.c G H σ env P where
  base : Stp A.G A.H A.U G H (uP P)
  kp : ∀ i ∈ A.keep, σ[i]? = A.σ[i]?
/-- a value made on the way, its own cells F -/
structure Tmp (A : Amb) (G H : Hp) (P : Nat → As) (t : T) (F : As) (v : V) : Prop where
  tr : TR A.c G H t F v
  fd : ∀ a, F a → ¬ uP P a ∧ G a = none ∧ H a ≠ none
  bs : ∀ a, F a → A.U a ∨ A.H a = none

inductive Ar where
  | t (t : T) | s (i : Nat)
def ArR (c : Cn) (G H : Hp) (σ : L2.St) : List Ar → As → List V → Prop
  | [], _, vs => vs = []
  | .t t :: r, F, vs => ∃ v r' F1 F2, vs = v :: r' ∧ (∀ a, F1 a → F a) ∧ (∀ a, F2 a → F a ∧ ¬ F1 a) ∧ TR c G H t F1 v ∧ ArR c G H σ r F2 r'
  | .s i :: r, F, vs => ∃ v r', vs = v :: r' ∧ σ[i]? = some (some v) ∧ ArR c G H σ r F r'
theorem ArR.mono {c : Cn} {G H G' H' : Hp} {σ : L2.St} (e : Ex G G') : ∀ {as : List Ar} {F F' : As} {vs : List V}, ArR c G H σ as F vs → (∀ a, F a → F' a) → (∀ a o, F a → H a = some o → H' a = some o) → (∀ a, F a → G' a = none) → ArR c G' H' σ as F' vs
  | [], _, _, _, h, _, _, _ => h
  | .t t :: r, F, F', vs, ⟨v, r', F1, F2, h1, h2, h3, h4, h5⟩, hf, k, g => ⟨v, r', F1, F2, h1, fun a x => hf a (h2 a x), fun a x => ⟨hf a (h3 a x).1, (h3 a x).2⟩,
      h4.mono e (fun _ x => x) (fun a o x => k a o (h2 a x)) (fun a x => g a (h2 a x)), ArR.mono e h5 (fun _ x => x) (fun a o x => k a o (h3 a x).1) (fun a x => g a (h3 a x).1)⟩
  | .s i :: r, F, F', vs, ⟨v, r', h1, h2, h3⟩, hf, k, g => ⟨v, r', h1, h2, ArR.mono e h3 hf k g⟩
structure TmpA (A : Amb) (G H : Hp) (σ : L2.St) (P : Nat → As) (as : List Ar) (F : As) (vs : List V) : Prop where
  tr : ArR A.c G H σ as F vs
  fd : ∀ a, F a → ¬ uP P a ∧ G a = none ∧ H a ≠ none
  bs : ∀ a, F a → A.U a ∨ A.H a = none

section
variable {A : Amb} {G H G' H' : Hp} {σ : L2.St} {P P' : Nat → As} {F F' : As} {v : V} {t : T} {vs : List V} {as : List Ar}
/-- what stands beside stays -/
theorem beside (S : Stp G H (uP P) G' H' (fun a => uP P' a ∨ F' a)) (fd : ∀ a, F a → ¬ uP P a ∧ G a = none ∧ H a ≠ none) :
    (∀ a o, F a → H a = some o → H' a = some o) ∧ (∀ a, F a → ¬ uP P' a ∧ G' a = none ∧ H' a ≠ none) ∧ ∀ a, F' a → ¬ F a := by
  have k : ∀ a o, F a → H a = some o → H' a = some o := fun a o x e => S.h a o e (fd a x).1
  refine ⟨k, fun a x => ⟨fun u => ?_, ?_, ?_⟩, fun a x y => ?_⟩
  · rcases S.n a (.inl u) with z | z
    · exact (fd a x).1 z
    · exact (fd a x).2.2 z
  · cases q : G' a with
    | none => rfl
    | some o =>
      rcases S.m a (by rw [q]; exact fun z => nomatch z) with z | z | z
      · exact absurd (fd a x).2.1 z
      · exact absurd z (fd a x).1
      · exact absurd z (fd a x).2.2
  · cases q : H a with
    | none => exact absurd q (fd a x).2.2
    | some o => rw [k a o x q]; exact fun z => nomatch z
  · rcases S.n a (.inr x) with z | z
    · exact (fd a y).1 z
    · exact (fd a y).2.2 z
theorem Tmp.carry (m : Tmp A G H P t F v) (S : Stp G H (uP P) G' H' (fun a => uP P' a ∨ F' a)) : Tmp A G' H' P' t F v := by
  obtain ⟨k, fd, _⟩ := beside S m.fd
  exact ⟨m.tr.mono S.g (fun _ x => x) k (fun a x => (fd a x).2.1), fd, m.bs⟩
theorem TmpA.carry (m : TmpA A G H σ P as F vs) (S : Stp G H (uP P) G' H' (fun a => uP P' a ∨ F' a)) : TmpA A G' H' σ P' as F vs := by
  obtain ⟨k, fd, _⟩ := beside S m.fd
  exact ⟨m.tr.mono S.g (fun _ x => x) k (fun a x => (fd a x).2.1), fd, m.bs⟩
/-- a tree as data where it stands -/
theorem TR.view {c : Cn} (le : Ex G H) (h : TR c G H t F v) : Rep c H t.data v := h.freeze le fun _ _ _ e => e
end

/-- behind an expression -/
structure Res (A : Amb) (G H : Hp) (U0 : As) (σ : L2.St) (t : T) (env' : Env) (v : V) (G' H' : Hp) (P' : Nat → As) (F : As) : Prop where
  sr : SR A G' H' σ env' P'
  st : Stp G H U0 G' H' (fun a => uP P' a ∨ F a)
  tm : Tmp A G' H' P' t F v
structure ResA (A : Amb) (G H : Hp) (U0 : As) (σ : L2.St) (as : List Ar) (env' : Env) (vs : List V) (G' H' : Hp) (P' : Nat → As) (F : As) : Prop where
  sr : SR A G' H' σ env' P'
  st : Stp G H U0 G' H' (fun a => uP P' a ∨ F a)
  tm : TmpA A G' H' σ P' as F vs

/-- an expression, from these trees: what Post says of its tree and the trees behind it -/
def WE (A : Amb) (te : TE) (env : Env) (Post : T → Env → Prop) : Prop := ∀ G H σ P, SR A G H σ env P → ∀ Q : VK,
  (∀ t env' v G' H' P' F, Post t env' → Res A G H (uP P) σ t env' v G' H' P' F → Q v H') → te σ H Q
/-- as WE, a name that holds what is one's own may be handed on as the name -/
def WO (A : Amb) (te : TE) (env : Env) (Post : Ar → Env → Prop) : Prop := ∀ G H σ P, SR A G H σ env P → ∀ Q : VK,
  (∀ a env' v G' H' P' F, Post a env' → ResA A G H (uP P) σ [a] env' [v] G' H' P' F → Q v H') → te σ H Q
def WT (A : Amb) (tt : TT) (env : Env) (Post : Bool → Env → Prop) : Prop := ∀ G H σ P, SR A G H σ env P → ∀ Q : Bool → Hp → Prop,
  (∀ b env' G' H' P', Post b env' → SR A G' H' σ env' P' → Stp G H (uP P) G' H' (uP P') → Q b H') → tt σ H Q
def WA (A : Amb) (ta : TA) (env : Env) (Post : List Ar → Env → Prop) : Prop := ∀ G H σ P, SR A G H σ env P → ∀ Q : List V → Hp → Prop,
  (∀ as env' vs G' H' P' F, Post as env' → ResA A G H (uP P) σ as env' vs G' H' P' F → Q vs H') → ta σ H Q
/-- an operation upon two values -/
def WR (A : Amb) (r : R2) (a b : Ar) (env : Env) (Post : T → Env → Prop) : Prop := ∀ G H σ P x y F, SR A G H σ env P → TmpA A G H σ P [a, b] F [x, y] → ∀ Q : VK,
  (∀ t env' v G' H' P' F', Post t env' → Res A G H (fun a => uP P a ∨ F a) σ t env' v G' H' P' F' → Q v H') → r x y H Q
def WU (A : Amb) (r : V → Hp → VK → Prop) (a : Ar) (env : Env) (Post : T → Env → Prop) : Prop := ∀ G H σ P x F, SR A G H σ env P → TmpA A G H σ P [a] F [x] → ∀ Q : VK,
  (∀ t env' v G' H' P' F', Post t env' → Res A G H (fun a => uP P a ∨ F a) σ t env' v G' H' P' F' → Q v H') → r x H Q
/-- a call upon values -/
def WC (A : Amb) (r : List V → Hp → VK → Prop) (as : List Ar) (env : Env) (Post : T → Env → Prop) : Prop := ∀ G H σ P vs F, SR A G H σ env P → TmpA A G H σ P as F vs → ∀ Q : VK,
  (∀ t env' v G' H' P' F', Post t env' → Res A G H (fun a => uP P a ∨ F a) σ t env' v G' H' P' F' → Q v H') → r vs H Q

section
variable {A : Amb} {G H G' H' : Hp} {σ : L2.St} {env : Env} {P P' : Nat → As} {F F' : As} {v x y z : V} {t t1 t2 : T} {vs : List V} {as : List Ar} {ta tb te : TE} {r : R2} {Post : T → Env → Prop}

def noF : As := fun _ => False
theorem Tmp.flat {d : D} {ov : Option V} (h : Rep A.c G d v) (ho : ∀ u, ov = some u → v = u) : Tmp A G H P (.frz ov d) noF v := ⟨⟨h, ho⟩, fun _ z => z.elim, fun _ z => z.elim⟩
theorem Tmp.one (m : Tmp A G H P t F v) : TmpA A G H σ P [.t t] F [v] := ⟨⟨v, [], F, noF, rfl, fun _ h => h, fun _ h => h.elim, m.tr, rfl⟩, m.fd, m.bs⟩
theorem TmpA.one (m : TmpA A G H σ P [.t t] F [v]) : ∃ F1 : As, (∀ a, F1 a → F a) ∧ Tmp A G H P t F1 v := by
  obtain ⟨w, r, F1, F2, h1, h2, h3, h4, h5⟩ := m.tr
  cases h5
  cases h1
  exact ⟨F1, h2, h4, fun a h => m.fd a (h2 a h), fun a h => m.bs a (h2 a h)⟩
/-- nothing happened -/
theorem Res.same (s : SR A G H σ env P) (m : Tmp A G H P t F v) {U0 : As} (h : ∀ a, uP P a → U0 a) (h2 : ∀ a, F a → U0 a ∨ H a = none) : Res A G H U0 σ t env v G H P F :=
  ⟨s, Stp.refl.wk h fun a z => by
    rcases z with z | z
    · exact .inl z
    · exact .inr (h2 a z), m⟩
theorem Res.frz (s : SR A G H σ env P) {d : D} {ov : Option V} (h : Rep A.c G d v) (ho : ∀ u, ov = some u → v = u) : Res A G H (uP P) σ (.frz ov d) env v G H P noF :=
  .same s (.flat h ho) (fun _ h => h) fun _ z => z.elim
theorem Res.frz' (s : SR A G H σ env P) {d : D} {ov : Option V} (h : Rep A.c G d v) (ho : ∀ u, ov = some u → v = u) : Res A G H (fun a => uP P a ∨ F a) σ (.frz ov d) env v G H P noF :=
  .same s (.flat h ho) (fun _ h => .inl h) fun _ z => z.elim

theorem we_imp {Post' : T → Env → Prop} (h : WE A te env Post') (q : ∀ t e, Post' t e → Post t e) : WE A te env Post := fun G H σ P s Q k => h G H σ P s Q fun t e v G' H' P' F p r => k t e v G' H' P' F (q t e p) r
/-- a name of what is fixed -/
theorem we_var {i : Nat} {d : D} {ov : Option V} (h : env[i]? = some (some (.frz ov d))) (q : Post (.frz ov d) env) : WE A (tVar i) env Post := fun G H σ P s Q k => by
  obtain ⟨v, hv, tr⟩ := s.slot i _ h
  exact ⟨v, hv, k _ _ _ _ _ _ _ q (.frz s tr.1 tr.2)⟩
theorem SL.moved {c : Cn} (s : SL c G H σ env P) (i : Nat) : SL c G H σ (env.set i none) (fun j a => P j a ∧ j ≠ i) where
  len := by rw [List.length_set]; exact s.len
  le := s.le
  slot := fun j t e => by
    have ne : j ≠ i := fun z => by
      subst z
      rw [List.getElem?_set] at e
      split at e <;> simp_all
    rw [List.getElem?_set_ne (Ne.symm ne)] at e
    obtain ⟨v, hv, tr⟩ := s.slot j t e
    exact ⟨v, hv, tr.mono (Ex.refl _) (fun a h => ⟨h, ne⟩) (fun _ _ _ e => e) (fun a h => (s.own j a h).1)⟩
  dis := fun j k a h h' => s.dis j k a h.1 h'.1
  own := fun j a h => s.own j a h.1
/-- what a name holds as its own is handed over: the name has it no more -/
theorem we_move {i : Nat} (h : env[i]? = some (some t)) (q : Post t (env.set i none)) : WE A (tVar i) env Post := fun G H σ P s Q k => by
  obtain ⟨v, hv, tr⟩ := s.slot i _ h
  refine ⟨v, hv, k _ _ _ G H (fun j a => P j a ∧ j ≠ i) (P i) q ⟨⟨s.toSL.moved i, s.base.wk (fun _ h => h) fun a ⟨j, h, _⟩ => .inl ⟨j, h⟩, s.kp⟩, Stp.refl.wk (fun _ h => h) fun a z => ?_, tr, fun a z => ⟨fun ⟨j, h1, h2⟩ => h2 (s.dis _ _ _ h1 z), s.own i a z⟩, fun a z => s.base.n a ⟨i, z⟩⟩⟩
  rcases z with ⟨j, z, _⟩ | z
  · exact .inl ⟨j, z⟩
  · exact .inl ⟨i, z⟩
/-- what a name holds as its own becomes fixed -/
theorem SR.fix (s : SR A G H σ env P) (i : Nat) {t : T} (h : env[i]? = some (some t)) : ∃ v, σ[i]? = some (some v) ∧ Rep A.c (frzH G H (P i)) t.data v ∧
    SR A (frzH G H (P i)) H σ (env.set i (some (.frz none t.data))) (fun j a => P j a ∧ j ≠ i) ∧ Stp G H (uP P) (frzH G H (P i)) H (uP fun j a => P j a ∧ j ≠ i) := by
  obtain ⟨v, hv, tr⟩ := s.slot i _ h
  have e1 : Ex G (frzH G H (P i)) := frzH_ex s.le
  have rp : Rep A.c (frzH G H (P i)) t.data v := tr.freeze e1 fun a o f e => by rw [frzH_in f]; exact e
  have out : ∀ j a, j ≠ i → P j a → frzH G H (P i) a = none := fun j a ne h => by
    rw [frzH_out fun z => ne (s.dis _ _ _ h z)]
    exact (s.own j a h).1
  have st : Stp G H (uP P) (frzH G H (P i)) H (uP fun j a => P j a ∧ j ≠ i) := ⟨e1, fun _ _ e _ => e, fun a ⟨j, h, _⟩ => .inl ⟨j, h⟩, fun a z => by
    by_cases f : P i a
    · exact .inr (.inl ⟨i, f⟩)
    · rw [frzH_out f] at z; exact .inl z⟩
  refine ⟨v, hv, rp, ⟨⟨by rw [List.length_set]; exact s.len, frzH_le s.le, fun j u e => ?_, fun j k a h h' => s.dis j k a h.1 h'.1, fun j a h => ⟨out j a h.2 h.1, (s.own j a h.1).2⟩⟩, s.base.trans st, s.kp⟩, st⟩
  by_cases ne : j = i
  · subst ne
    have : u = .frz none t.data := by
      rw [List.getElem?_set] at e
      split at e
      · split at e
        · exact (Option.some.inj (Option.some.inj e)).symm
        · cases e
      · exact absurd rfl ‹_›
    subst this
    exact ⟨v, hv, rp, fun _ z => nomatch z⟩
  · rw [List.getElem?_set_ne (Ne.symm ne)] at e
    obtain ⟨w, hw, tw⟩ := s.slot j u e
    exact ⟨w, hw, tw.mono e1 (fun a h => ⟨h, ne⟩) (fun _ _ _ e => e) (fun a h => out j a ne h)⟩
theorem we_fix {i : Nat} (h : env[i]? = some (some t)) (q : Post (.frz none t.data) (env.set i (some (.frz none t.data)))) : WE A (tVar i) env Post := fun G H σ P s Q k => by
  obtain ⟨v, hv, rp, s', st⟩ := s.fix i h
  exact ⟨v, hv, k _ _ _ _ _ _ _ q ⟨s', st.wk (fun _ h => h) (fun a z => by rcases z with z | z; exact .inl z; exact z.elim), .flat rp fun _ z => nomatch z⟩⟩
theorem we_int {n : Int} (q : Post (I n) env) : WE A (tC (.int n)) env Post := fun G H σ P s Q k => k _ _ _ _ _ _ _ q (.frz s rfl fun _ z => nomatch z)
theorem we_bl {n : Bool} (q : Post (B n) env) : WE A (tC (.bl n)) env Post := fun G H σ P s Q k => k _ _ _ _ _ _ _ q (.frz s rfl fun _ z => nomatch z)
theorem we_str {n : Str} (q : Post (S n) env) : WE A (tC (.str n)) env Post := fun G H σ P s Q k => k _ _ _ _ _ _ _ q (.frz s rfl fun _ z => nomatch z)
theorem we_non (q : Post N_ env) : WE A (tC .non) env Post := fun G H σ P s Q k => k _ _ _ _ _ _ _ q (.frz s rfl fun _ z => nomatch z)
/-- a constant that is no data -/
theorem we_oth {u : V} (q : Post (.frz none (.oth u)) env) : WE A (tC u) env Post := fun G H σ P s Q k => k _ _ _ _ _ _ _ q (.frz s rfl fun _ z => nomatch z)

theorem wo_slot {i : Nat} (h : ∃ t, env[i]? = some (some t)) {Post : Ar → Env → Prop} (q : Post (.s i) env) : WO A (tVar i) env Post := fun G H σ P s Q k => by
  obtain ⟨t, h⟩ := h
  obtain ⟨v, hv, tr⟩ := s.slot i _ h
  exact ⟨v, hv, k _ _ _ _ _ _ noF q ⟨s, Stp.refl.wk (fun _ h => h) (fun a z => by rcases z with z | z; exact .inl z; exact z.elim), ⟨⟨v, [], rfl, hv, rfl⟩, fun _ z => z.elim, fun _ z => z.elim⟩⟩⟩
theorem wo_e {Post : Ar → Env → Prop} (h : WE A te env fun t e => Post (.t t) e) : WO A te env Post := fun G H σ P s Q k => h G H σ P s Q fun t e v G' H' P' F p r => k (.t t) e v G' H' P' F p ⟨r.sr, r.st, r.tm.one⟩

/-- the first one's cells, beside the second one's -/
theorem Stp.seq {G H G1 H1 G2 H2 : Hp} {U : As} {P1 P2 : Nat → As} {F1 F2 : As} (a : Stp G H U G1 H1 (fun x => uP P1 x ∨ F1 x)) (b : Stp G1 H1 (uP P1) G2 H2 (fun x => uP P2 x ∨ F2 x)) :
    Stp G H U G2 H2 (fun x => uP P2 x ∨ (F1 x ∨ F2 x)) := (a.trans (b.frame F1)).wk (fun _ h => h) fun x z => by
  rcases z with z | z | z
  · exact .inl (.inl (.inl z))
  · exact .inl (.inr z)
  · exact .inl (.inl (.inr z))
theorem ArR.app {c : Cn} : ∀ {as bs : List Ar} {F1 F2 F : As} {vs ws : List V}, ArR c G H σ as F1 vs → ArR c G H σ bs F2 ws → (∀ a, F1 a → F a) → (∀ a, F2 a → F a ∧ ¬ F1 a) → (∀ a, F a → G a = none) → ArR c G H σ (as ++ bs) F (vs ++ ws)
  | [], bs, F1, F2, F, vs, ws, h, hb, _, h2, g => by
    cases h
    exact hb.mono (Ex.refl _) (fun a x => (h2 a x).1) (fun _ _ _ e => e) fun a x => g a (h2 a x).1
  | .t t :: r, bs, F1, F2, F, vs, ws, ⟨v, r', X1, X2, e, h2, h3, h4, h5⟩, hb, k1, k2, g => by
    subst e
    refine ⟨v, r' ++ ws, X1, fun a => X2 a ∨ F2 a, rfl, fun a x => k1 a (h2 a x), fun a x => ?_, h4, ArR.app h5 hb (fun a x => .inl x) (fun a x => ⟨.inr x, fun y => (k2 a x).2 (h3 a y).1⟩) fun a x => ?_⟩
    · rcases x with x | x
      · exact ⟨k1 a (h3 a x).1, (h3 a x).2⟩
      · exact ⟨(k2 a x).1, fun y => (k2 a x).2 (h2 a y)⟩
    · rcases x with x | x
      · exact g a (k1 a (h3 a x).1)
      · exact g a (k2 a x).1
  | .s i :: r, bs, F1, F2, F, vs, ws, ⟨v, r', e, h2, h3⟩, hb, k1, k2, g => by
    subst e
    exact ⟨v, r' ++ ws, rfl, h2, ArR.app h3 hb k1 k2 g⟩
theorem TmpA.app {as bs : List Ar} {F1 F2 : As} {vs ws : List V} (m : TmpA A G H σ P as F1 vs) (n : TmpA A G H σ P bs F2 ws) (d : ∀ a, F2 a → ¬ F1 a) : TmpA A G H σ P (as ++ bs) (fun a => F1 a ∨ F2 a) (vs ++ ws) :=
  ⟨m.tr.app n.tr (fun a h => .inl h) (fun a h => ⟨.inr h, d a h⟩) (fun a h => by rcases h with h | h; exact (m.fd a h).2.1; exact (n.fd a h).2.1), fun a h => by rcases h with h | h; exact m.fd a h; exact n.fd a h,
    fun a h => by rcases h with h | h; exact m.bs a h; exact n.bs a h⟩
theorem we_op (h : WO A ta env fun a e => WO A tb e fun b e => WR A r a b e Post) : WE A (tOp r ta tb) env Post := fun G H σ P s Q k => by
  refine h G H σ P s _ fun a e1 v1 G1 H1 P1 F1 p1 r1 => ?_
  refine p1 G1 H1 σ P1 r1.sr _ fun b e2 v2 G2 H2 P2 F2 p2 r2 => ?_
  have dis := (beside r2.st r1.tm.fd).2.2
  refine p2 G2 H2 σ P2 v1 v2 _ r2.sr ((r1.tm.carry r2.st).app r2.tm dis) Q fun t e3 v G3 H3 P3 F3 p3 r3 => ?_
  exact k t e3 v G3 H3 P3 F3 p3 ⟨r3.sr, (r1.st.seq r2.st).trans r3.st, r3.tm⟩
theorem we_un {r : V → Hp → VK → Prop} (h : WO A ta env fun a e => WU A r a e Post) : WE A (tUn r ta) env Post := fun G H σ P s Q k => by
  refine h G H σ P s _ fun a e1 v1 G1 H1 P1 F1 p1 r1 => ?_
  refine p1 G1 H1 σ P1 v1 _ r1.sr r1.tm Q fun t e3 v G3 H3 P3 F3 p3 r3 => ?_
  exact k t e3 v G3 H3 P3 F3 p3 ⟨r3.sr, r1.st.trans r3.st, r3.tm⟩
theorem wa_nil {Post : List Ar → Env → Prop} (q : Post [] env) : WA A tNil env Post := fun G H σ P s Q k => k [] env [] G H P noF q ⟨s, Stp.refl.wk (fun _ h => h) (fun a z => by rcases z with z | z; exact .inl z; exact z.elim), rfl, fun _ z => z.elim, fun _ z => z.elim⟩
theorem wa_cons {tr : TA} {Post : List Ar → Env → Prop} (h : WO A ta env fun a e => WA A tr e fun as e => Post (a :: as) e) : WA A (tCons ta tr) env Post := fun G H σ P s Q k => by
  refine h G H σ P s _ fun a e1 v1 G1 H1 P1 F1 p1 r1 => ?_
  refine p1 G1 H1 σ P1 r1.sr _ fun as e2 vs G2 H2 P2 F2 p2 r2 => ?_
  exact k (a :: as) e2 (v1 :: vs) G2 H2 P2 _ p2 ⟨r2.sr, r1.st.seq r2.st, (r1.tm.carry r2.st).app r2.tm (beside r2.st r1.tm.fd).2.2⟩
theorem we_cb {r : List V → Hp → VK → Prop} {ta : TA} (h : WA A ta env fun as e => WC A r as e Post) : WE A (tCB r ta) env Post := fun G H σ P s Q k => by
  refine h G H σ P s _ fun a e1 v1 G1 H1 P1 F1 p1 r1 => ?_
  refine p1 G1 H1 σ P1 v1 _ r1.sr r1.tm Q fun t e3 v G3 H3 P3 F3 p3 r3 => ?_
  exact k t e3 v G3 H3 P3 F3 p3 ⟨r3.sr, r1.st.trans r3.st, r3.tm⟩
end
end TL
/-! TL3: tests, statements, loops, defs. -/
namespace TL
open PySem PySem.Spec PyProof.Rows L2
section
variable {A : Amb} {G H G' H' : Hp} {σ : L2.St} {env : Env} {P P' : Nat → As} {X X' : As} {v x y z : V} {t t1 t2 : T} {vs : List V} {as : List Ar} {ta tb te : TE} {r : R2}

/-! ### tests -/
theorem Res.drop {t : T} {env' : Env} (r : Res A G H (uP P) σ t env' v G' H' P' X) : Stp G H (uP P) G' H' (uP P') := r.st.wk (fun _ h => h) fun _ z => .inl (.inl z)
theorem wt_test {Post : Bool → Env → Prop} (h : WE A te env fun t e => ∃ b, t = B b ∧ Post b e) : WT A (tTest te) env Post := fun G H σ P s Q k => by
  refine h G H σ P s _ fun t e v G' H' P' F p r => ?_
  obtain ⟨b, rfl, p⟩ := p
  exact ⟨b, r.tm.tr.1, k b e G' H' P' p r.sr r.drop⟩
theorem wt_B {Post : Bool → Env → Prop} (h : WE A te env fun t e => ∃ b, t = B b ∧ Post b e) : WT A (tB te) env Post := fun G H σ P s Q k => by
  refine h G H σ P s _ fun t e v G' H' P' F p r => ?_
  obtain ⟨b, rfl, p⟩ := p
  exact ⟨b, r.tm.tr.1, k b e G' H' P' p r.sr r.drop⟩
theorem wt_not {tt : TT} {Post : Bool → Env → Prop} (h : WT A tt env fun b e => Post (!b) e) : WT A (tNot tt) env Post := fun G H σ P s Q k =>
  h G H σ P s _ fun b e G' H' P' p s' st => k (!b) e G' H' P' p s' st
theorem wt_and {tt tu : TT} {Post : Bool → Env → Prop} (h : WT A tt env fun b e => (b = true → WT A tu e Post) ∧ (b = false → Post false e)) : WT A (tAnd tt tu) env Post := fun G H σ P s Q k =>
  h G H σ P s _ fun b e G' H' P' p s' st => by
    cases b with
    | true => exact p.1 rfl G' H' σ P' s' Q fun b e G2 H2 P2 p2 s2 st2 => k b e G2 H2 P2 p2 s2 (st.trans st2)
    | false => exact k false e G' H' P' (p.2 rfl) s' st
theorem wt_or {tt tu : TT} {Post : Bool → Env → Prop} (h : WT A tt env fun b e => (b = false → WT A tu e Post) ∧ (b = true → Post true e)) : WT A (tOr tt tu) env Post := fun G H σ P s Q k =>
  h G H σ P s _ fun b e G' H' P' p s' st => by
    cases b with
    | false => exact p.1 rfl G' H' σ P' s' Q fun b e G2 H2 P2 p2 s2 st2 => k b e G2 H2 P2 p2 s2 (st.trans st2)
    | true => exact k true e G' H' P' (p.2 rfl) s' st
theorem we_not {Post : T → Env → Prop} (h : WE A te env fun t e => ∃ b, t = B b ∧ Post (B (!b)) e) : WE A (tNotV te) env Post := fun G H σ P s Q k => by
  refine h G H σ P s _ fun t e v G' H' P' F p r => ?_
  obtain ⟨b, rfl, p⟩ := p
  refine ⟨b, r.tm.tr.1, k (B (!b)) e _ G' H' P' noF p ⟨r.sr, r.st.wk (fun _ h => h) (fun a z => ?_), .flat rfl fun _ z => nomatch z⟩⟩
  rcases z with z | z
  · exact .inl (.inl z)
  · exact z.elim
theorem we_and {Post : T → Env → Prop} (h : WE A ta env fun t e => ∃ b, t = B b ∧ (b = true → WE A tb e Post) ∧ (b = false → Post (B false) e)) : WE A (tAndV ta tb) env Post := fun G H σ P s Q k => by
  refine h G H σ P s _ fun t e v G' H' P' F p r => ?_
  obtain ⟨b, rfl, p⟩ := p
  refine ⟨b, r.tm.tr.1, ?_⟩
  cases b with
  | true => exact p.1 rfl G' H' σ P' r.sr Q fun t e v G2 H2 P2 F2 p2 r2 => k t e v G2 H2 P2 F2 p2 ⟨r2.sr, r.drop.trans r2.st, r2.tm⟩
  | false => exact k (B false) e _ G' H' P' noF (p.2 rfl) ⟨r.sr, r.st.wk (fun _ h => h) (fun a z => by rcases z with z | z; exact .inl (.inl z); exact z.elim), .flat rfl fun _ z => nomatch z⟩
theorem we_or {Post : T → Env → Prop} (h : WE A ta env fun t e => ∃ b, t = B b ∧ (b = false → WE A tb e Post) ∧ (b = true → Post (B true) e)) : WE A (tOrV ta tb) env Post := fun G H σ P s Q k => by
  refine h G H σ P s _ fun t e v G' H' P' F p r => ?_
  obtain ⟨b, rfl, p⟩ := p
  refine ⟨b, r.tm.tr.1, ?_⟩
  cases b with
  | false => exact p.1 rfl G' H' σ P' r.sr Q fun t e v G2 H2 P2 F2 p2 r2 => k t e v G2 H2 P2 F2 p2 ⟨r2.sr, r.drop.trans r2.st, r2.tm⟩
  | true => exact k (B true) e _ G' H' P' noF (p.2 rfl) ⟨r.sr, r.st.wk (fun _ h => h) (fun a z => by rcases z with z | z; exact .inl (.inl z); exact z.elim), .flat rfl fun _ z => nomatch z⟩
theorem we_if {tc : TT} {Post : T → Env → Prop} (h : WT A tc env fun b e => (b = true → WE A ta e Post) ∧ (b = false → WE A tb e Post)) : WE A (tIf tc ta tb) env Post := fun G H σ P s Q k => by
  refine h G H σ P s _ fun b e G' H' P' p s' st => ?_
  cases b with
  | true => exact p.1 rfl G' H' σ P' s' Q fun t e v G2 H2 P2 F2 p2 r2 => k t e v G2 H2 P2 F2 p2 ⟨r2.sr, st.trans r2.st, r2.tm⟩
  | false => exact p.2 rfl G' H' σ P' s' Q fun t e v G2 H2 P2 F2 p2 r2 => k t e v G2 H2 P2 F2 p2 ⟨r2.sr, st.trans r2.st, r2.tm⟩
/-- a < b < c, upon flat values: the middle one is reckoned once -/
theorem we_chain {r r' : R2} {tc : TE} {Post : T → Env → Prop} (h : WO A ta env fun a e => WO A tb e fun b e => WR A r a b e fun t e => ∃ k, t = B k ∧ (k = false → Post (B false) e) ∧ (k = true → ∃ ov d, b = .t (.frz ov d) ∧ WO A tc e fun c e => WR A r' (.t (.frz ov d)) c e Post)) :
    WE A (tChain r r' ta tb tc) env Post := fun G H σ P s Q k => by
  refine h G H σ P s _ fun a e1 v1 G1 H1 P1 F1 p1 r1 => ?_
  refine p1 G1 H1 σ P1 r1.sr _ fun b e2 v2 G2 H2 P2 F2 p2 r2 => ?_
  have dis := (beside r2.st r1.tm.fd).2.2
  refine p2 G2 H2 σ P2 v1 v2 _ r2.sr ((r1.tm.carry r2.st).app r2.tm dis) _ fun t e3 v G3 H3 P3 F3 p3 r3 => ?_
  obtain ⟨b3, rfl, hf, ht⟩ := p3
  refine ⟨b3, r3.tm.tr.1, ?_⟩
  have st3 : Stp G H (uP P) G3 H3 (uP P3) := ((r1.st.seq r2.st).trans r3.st).wk (fun _ h => h) fun a z => .inl (.inl z)
  cases b3 with
  | false => exact k (B false) e3 _ G3 H3 P3 noF (hf rfl) ⟨r3.sr, st3.wk (fun _ h => h) (fun a z => by rcases z with z | z; exact .inl z; exact z.elim), .flat rfl fun _ z => nomatch z⟩
  | true =>
    obtain ⟨ov, d, rfl, hc⟩ := ht rfl
    obtain ⟨F2', _, m2⟩ := r2.tm.one
    obtain ⟨rp, ho⟩ := m2.tr
    refine hc G3 H3 σ P3 r3.sr _ fun c e4 v4 G4 H4 P4 F4 p4 r4 => ?_
    have rp4 : Rep A.c G4 d v2 := (rp.mono r3.st.g).mono r4.st.g
    have m4 : TmpA A G4 H4 σ P4 [.t (.frz ov d)] noF [v2] := (Tmp.flat rp4 ho).one
    refine p4 G4 H4 σ P4 v2 v4 _ r4.sr (m4.app r4.tm fun _ _ z => z) Q fun t e5 v G5 H5 P5 F5 p5 r5 => ?_
    refine k t e5 v G5 H5 P5 F5 p5 ⟨r5.sr, (st3.trans r4.st).trans (r5.st.wk (fun x z => ?_) fun x z => .inl z), r5.tm⟩
    rcases z with z | z | z
    · exact .inl z
    · exact z.elim
    · exact .inr z

/-! ### statements -/
def WS (A : Amb) (ts : TS) (env : Env) (nx : Env → Prop) (rt : T → Env → Prop) (bk ct : Env → Prop) : Prop := ∀ G H σ P, SR A G H σ env P → ∀ D : Ends,
  (∀ env' G' H' σ' P', nx env' → SR A G' H' σ' env' P' → Ex G G' → D.nx σ' H') →
  (∀ t env' v G' H' σ' P' F, rt t env' → SR A G' H' σ' env' P' → Tmp A G' H' P' t F v → D.rt v H') →
  (∀ env' G' H' σ' P', bk env' → SR A G' H' σ' env' P' → Ex G G' → D.bk σ' H') →
  (∀ env' G' H' σ' P', ct env' → SR A G' H' σ' env' P' → Ex G G' → D.ct σ' H') → ts D σ H
/-- a target takes a value -/
def WG (A : Amb) (W : Nat → Prop) (g : TG) (t : T) (env : Env) (Post : Env → Prop) : Prop := ∀ G H σ P v X, SR A G H σ env P → Tmp A G H P t X v → ∀ Q : L2.St → Hp → Prop,
  (∀ env' G' H' σ' P', Post env' → SR A G' H' σ' env' P' → Stp G H (fun a => uP P a ∨ X a) G' H' (uP P') → σ'.length = σ.length → (∀ j, ¬ W j → σ'[j]? = σ[j]?) → Q σ' H') → g v σ H Q
abbrev wAll : Nat → Prop := fun _ => True
variable {nx bk ct : Env → Prop} {rt : T → Env → Prop}
theorem ws_seq {t u : TS} (h : WS A t env (fun e => WS A u e nx rt bk ct) rt bk ct) : WS A (tSeq t u) env nx rt bk ct := fun G H σ P s D n rt bk ct =>
  h G H σ P s { D with nx := u D } (fun e G' H' σ' P' q s' x => q G' H' σ' P' s' D (fun e G2 H2 σ2 P2 q2 s2 x2 => n e G2 H2 σ2 P2 q2 s2 (x.trans x2)) rt (fun e G2 H2 σ2 P2 q2 s2 x2 => bk e G2 H2 σ2 P2 q2 s2 (x.trans x2))
    (fun e G2 H2 σ2 P2 q2 s2 x2 => ct e G2 H2 σ2 P2 q2 s2 (x.trans x2))) rt bk ct
theorem ws_next (h : nx env) : WS A tNext env nx rt bk ct := fun G H σ P s D n _ _ _ => n env G H σ P h s (Ex.refl _)
theorem ws_break (h : bk env) : WS A tBreak env nx rt bk ct := fun G H σ P s D _ _ n _ => n env G H σ P h s (Ex.refl _)
theorem ws_cont (h : ct env) : WS A tCont env nx rt bk ct := fun G H σ P s D _ _ _ n => n env G H σ P h s (Ex.refl _)
theorem ws_drop (h : WE A te env fun _ e => nx e) : WS A (tDrop te) env nx rt bk ct := fun G H σ P s D n _ _ _ => h G H σ P s _ fun t e v G' H' P' F q r => n e G' H' σ P' q r.sr r.st.g
theorem ws_ret (h : WE A te env rt) : WS A (tRet te) env nx rt bk ct := fun G H σ P s D _ rt _ _ => h G H σ P s _ fun t e v G' H' P' F q r => rt t e v G' H' σ P' F q r.sr r.tm
theorem ws_retN (h : rt N_ env) : WS A tRetN env nx rt bk ct := fun G H σ P s D _ rt _ _ => rt N_ env .non G H σ P noF h s (.flat rfl fun _ z => nomatch z)
theorem ws_if {tc : TT} {t u : TS} (h : WT A tc env fun b e => (b = true → WS A t e nx rt bk ct) ∧ (b = false → WS A u e nx rt bk ct)) : WS A (tIfS tc t u) env nx rt bk ct := fun G H σ P s D n rt bk ct => by
  refine h G H σ P s _ fun b e G' H' P' q s' st => ?_
  cases b with
  | true => exact q.1 rfl G' H' σ P' s' D (fun e G2 H2 σ2 P2 q2 s2 x2 => n e G2 H2 σ2 P2 q2 s2 (st.g.trans x2)) rt (fun e G2 H2 σ2 P2 q2 s2 x2 => bk e G2 H2 σ2 P2 q2 s2 (st.g.trans x2)) (fun e G2 H2 σ2 P2 q2 s2 x2 => ct e G2 H2 σ2 P2 q2 s2 (st.g.trans x2))
  | false => exact q.2 rfl G' H' σ P' s' D (fun e G2 H2 σ2 P2 q2 s2 x2 => n e G2 H2 σ2 P2 q2 s2 (st.g.trans x2)) rt (fun e G2 H2 σ2 P2 q2 s2 x2 => bk e G2 H2 σ2 P2 q2 s2 (st.g.trans x2)) (fun e G2 H2 σ2 P2 q2 s2 x2 => ct e G2 H2 σ2 P2 q2 s2 (st.g.trans x2))
theorem ws_asg {g : TG} (h : WE A te env fun t e => WG A wAll g t e nx) : WS A (tAsg te g) env nx rt bk ct := fun G H σ P s D n _ _ _ => h G H σ P s _ fun t e v G' H' P' F q r =>
  q G' H' σ P' v F r.sr r.tm _ fun e G2 H2 σ2 P2 q2 s2 x _ _ => n e G2 H2 σ2 P2 q2 s2 (r.st.g.trans x.g)
theorem Tmp.stp (s : SR A G H σ env P) (m : Tmp A G H P t X v) : Stp A.G A.H A.U G H (fun a => uP P a ∨ X a) := ⟨s.base.g, s.base.h, fun a z => by
  rcases z with z | z
  · exact s.base.n a z
  · exact m.bs a z, s.base.m⟩
theorem SR.put (s : SR A G H σ env P) (m : Tmp A G H P t X v) (i : Nat) (hi : i < env.length) (hk : i ∉ A.keep) : SR A G H (σ.set i (some v)) (env.set i (some t)) (fun j a => if j = i then X a else P j a) where
  len := by rw [List.length_set, List.length_set]; exact s.len
  le := s.le
  slot := fun j u e => by
    by_cases ne : j = i
    · subst ne
      rw [List.getElem?_set_self hi] at e
      cases e
      refine ⟨v, by rw [List.getElem?_set_self (by rw [s.len]; exact hi)], ?_⟩
      simpa using m.tr
    · rw [List.getElem?_set_ne (Ne.symm ne)] at e
      obtain ⟨w, hw, tw⟩ := s.slot j u e
      refine ⟨w, by rw [List.getElem?_set_ne (Ne.symm ne)]; exact hw, ?_⟩
      simpa [ne] using tw
  dis := fun j k a h h' => by
    by_cases e : j = i <;> by_cases e' : k = i <;> simp only [e, e', if_true, if_false] at h h'
    · rw [e, e']
    · exact absurd ⟨k, h'⟩ (m.fd a h).1
    · exact absurd ⟨j, h⟩ (m.fd a h').1
    · exact s.dis j k a h h'
  own := fun j a h => by
    by_cases e : j = i <;> simp only [e, if_true, if_false] at h
    · exact (m.fd a h).2
    · exact s.own j a h
  base := (m.stp s).wk (fun _ h => h) fun a ⟨j, h⟩ => by
    by_cases e : j = i <;> simp only [e, if_true, if_false] at h
    · exact .inl (.inr h)
    · exact .inl (.inl ⟨j, h⟩)
  kp := fun j hj => by
    have ne : i ≠ j := fun z => hk (z ▸ hj)
    rw [List.getElem?_set_ne ne]
    exact s.kp j hj
theorem wg_name {W : Nat → Prop} {i : Nat} {Post : Env → Prop} (hi : i < env.length) (hk : A.keep.contains i = false) (h : Post (env.set i (some t))) (hw : W i := by trivial) : WG A W (gName i) t env Post := fun G H σ P v X s m Q k =>
  k _ G H _ _ h (s.put m i hi fun z => by rw [List.contains_iff_mem.mpr z] at hk; cases hk) (Stp.refl.wk (fun _ h => h) fun a ⟨j, z⟩ => by
    by_cases e : j = i <;> simp only [e, if_true, if_false] at z
    · exact .inl (.inr z)
    · exact .inl (.inl ⟨j, z⟩)) (List.length_set ..) fun j hj => List.getElem?_set_ne fun (e : i = j) => hj (e ▸ hw)

/-! ### what a for walks -/
/-- an iterator of n things, the i-th one it i, as long as what is fixed stays -/
def ItR (A : Amb) (G : Hp) (J : It) (n : Nat) (it : Nat → D) : Prop := ∀ G' H σ env P, SR A G' H σ env P → Ex G G' → ∀ i, (i = n → J.stop i H) ∧
  (i < n → J.go i H ∧ ∀ x H', J.yld i H x H' → ∃ G2, SR A G2 H' σ env P ∧ Ex G' G2 ∧ Stp G' H (uP P) G2 H' (uP P) ∧ Rep A.c G2 (it i) x)
def WI (A : Amb) (wi : TI) (env : Env) (Post : Nat → (Nat → D) → Env → Prop) : Prop := ∀ G H σ P, SR A G H σ env P → ∀ R : It → Hp → Prop,
  (∀ n it env' J G' H' P', Post n it env' → SR A G' H' σ env' P' → Stp G H (uP P) G' H' (uP P') → ItR A G' J n it → R J H') → wi σ H R
theorem ws_for {wi : TI} {g : TG} {tb : TS} (h : WI A wi env fun n it e => ∃ Inv : Nat → Env → Prop, Inv 0 e ∧ (∀ i e, i < n → Inv i e → WG A wAll g (.frz none (it i)) e fun e => WS A tb e (Inv (i + 1)) rt nx (Inv (i + 1))) ∧ ∀ e, Inv n e → nx e) :
    WS A (tFor wi g tb) env nx rt bk ct := fun G H σ P s D nx rt bk ct => by
  refine h G H σ P s _ fun n it e1 J G1 H1 P1 q s1 st1 itr => ?_
  obtain ⟨Inv, h0, hs, hd⟩ := q
  let PV : Nat → L2.St → Hp → Prop := fun i σ H => ∃ e G P, Inv i e ∧ SR A G H σ e P ∧ Ex G1 G
  refine ⟨fun i m σ H => m = n - i ∧ i ≤ n ∧ PV i σ H, ⟨n, by simp, Nat.zero_le _, e1, G1, P1, h0, s1, Ex.refl _⟩, ?_⟩
  rintro i m σ2 H2 ⟨rfl, hi, e2, G2, P2, q2, s2, x2⟩
  obtain ⟨stop, go⟩ := itr G2 H2 σ2 e2 P2 s2 x2 i
  by_cases hlt : i < n
  · obtain ⟨g1, yl⟩ := go hlt
    refine .inr ⟨g1, PV (i + 1), fun σ' H' p' => ⟨n - (i + 1), by omega, rfl, hlt, p'⟩, fun x H' y => ?_⟩
    obtain ⟨G3, s3, x3, st3, rp⟩ := yl x H' y
    refine hs i e2 hlt q2 G3 H' σ2 P2 x noF s3 (.flat rp fun _ z => nomatch z) _ fun e4 G4 H4 σ4 P4 q4 s4 x4 _ _ => ?_
    have x04 : Ex G1 G4 := (x2.trans x3).trans x4.g
    exact q4 G4 H4 σ4 P4 s4 _ (fun e5 G5 H5 σ5 P5 q5 s5 x5 => ⟨e5, G5, P5, q5, s5, x04.trans x5⟩) rt (fun e5 G5 H5 σ5 P5 q5 s5 x5 => nx e5 G5 H5 σ5 P5 q5 s5 (st1.g.trans (x04.trans x5)))
      (fun e5 G5 H5 σ5 P5 q5 s5 x5 => ⟨e5, G5, P5, q5, s5, x04.trans x5⟩)
  · have e : i = n := by omega
    subst e
    exact .inl ⟨stop rfl, nx e2 G2 H2 σ2 P2 (hd e2 q2) s2 (st1.g.trans x2)⟩

/-! ### defs -/
inductive FO where
  | ret (t : T) (ts : Env)
  | exc (c : Nat) (fs : List (Str × D)) (ts : Env)
abbrev FS := List T → (FO → Prop) → Prop
/-- what a def at the level of trees promises, as a promise about the store -/
def spOf (c : Cn) (n : Nat) (S : FS) : Sp := fun vs H Q E => ∃ ts G P Post, ts.length = n ∧ SL c G H (vs.map some) (ts.map some) P ∧ S ts Post ∧
  (∀ t ts' v G' H' P' F, Post (.ret t ts') → SL c G' H' (vs.map some) ts' P' → Stp G H (uP P) G' H' (fun a => uP P' a ∨ F a) → TR c G' H' t F v → (∀ a, F a → ¬ uP P' a ∧ G' a = none ∧ H' a ≠ none) → Q v H') ∧
  ∀ k fs ts', ¬ Post (.exc k fs ts')
theorem spOf_len {c : Cn} {n : Nat} {S : FS} : ∀ vs H Q E, spOf c n S vs H Q E → vs.length = n := fun vs H Q E ⟨ts, G, P, Post, h, s, _⟩ => by
  have := s.len
  simpa [h] using this
def frzO : T → Option T
  | .frz ov d => some (.frz ov d)
  | _ => none
/-- the arguments behind a call: those whose names were never bound anew, and what was fixed -/
def fin (keep : List Nat) : Nat → List T → Env → Env
  | i, t :: ts, e :: es => (if keep.contains i then e else frzO t) :: fin keep (i + 1) ts es
  | i, t :: ts, [] => frzO t :: fin keep (i + 1) ts []
  | _, [], _ => []
theorem fin_length (keep : List Nat) : ∀ (ts : List T) (i : Nat) (env : Env), (fin keep i ts env).length = ts.length
  | [], _, _ => rfl
  | t :: ts, i, e :: es => by show (fin keep (i + 1) ts es).length + 1 = ts.length + 1; rw [fin_length]
  | t :: ts, i, [] => by show (fin keep (i + 1) ts []).length + 1 = ts.length + 1; rw [fin_length]
theorem fin_at (keep : List Nat) : ∀ (ts : List T) (i j : Nat) (env : Env) (t : T), (fin keep i ts env)[j]? = some (some t) → (keep.contains (i + j) = true ∧ env[j]? = some (some t)) ∨ (ts[j]? = some t ∧ ∃ ov d, t = .frz ov d)
  | [], i, j, env, t, h => by simp [fin] at h
  | u :: ts, i, 0, e :: es, t, h => by
    have h' : (if keep.contains i then e else frzO u) = some t := Option.some.inj h
    by_cases c : keep.contains i = true
    · rw [if_pos c] at h'
      subst h'
      exact .inl ⟨c, rfl⟩
    · rw [if_neg c] at h'
      cases u <;> simp [frzO] at h'
      subst h'
      exact .inr ⟨rfl, _, _, rfl⟩
  | u :: ts, i, 0, [], t, h => by
    have h' : frzO u = some t := Option.some.inj h
    cases u <;> simp [frzO] at h'
    subst h'
    exact .inr ⟨rfl, _, _, rfl⟩
  | u :: ts, i, j + 1, e :: es, t, h => by
    have := fin_at keep ts (i + 1) j es t h
    rw [show i + 1 + j = i + (j + 1) by omega] at this
    exact this
  | u :: ts, i, j + 1, [], t, h => by
    have := fin_at keep ts (i + 1) j [] t h
    rcases this with ⟨_, z⟩ | z
    · cases z
    · exact .inr z
def env0 (m : Nat) (ts : List T) : Env := ts.map some ++ List.replicate m none
/-- a def's body keeps its promise -/
theorem fn_body {c : Cn} {N : List Str} {n m : Nat} {S : FS} {t : TS} (keep : List Nat) (hk : ∀ i ∈ keep, i < n) (hm : N.length - n = m)
    (h : ∀ ts Post, S ts Post → ts.length = n → ∀ A : Amb, A.c = c → A.keep = keep → WS A t (env0 m ts)
      (fun e => Post (.ret N_ (fin keep 0 ts e))) (fun t e => Post (.ret t (fin keep 0 ts e))) (fun _ => False) (fun _ => False))
    (vs : List V) (H : Hp) (Q : VK) (E : XK) (hs : spOf c n S vs H Q E) : t { nx := fun _ H' => Q .non H', rt := Q } (L2.start N vs) H := by
  have hl := spOf_len vs H Q E hs
  obtain ⟨ts, G, P, Post, hn, s, hS, hQ, _⟩ := hs
  let A : Amb := ⟨c, G, H, uP P, L2.start N vs, keep⟩
  have P0 : ∀ i a, P i a → True := fun _ _ _ => trivial
  have lt : ∀ {i : Nat} {t : T}, (env0 m ts)[i]? = some (some t) → (ts.map some)[i]? = some (some t) := fun {i t} e => by
    unfold env0 at e
    by_cases hi : i < (ts.map some).length
    · rw [List.getElem?_append_left hi] at e; exact e
    · rw [List.getElem?_append_right (by omega), List.getElem?_replicate] at e
      split at e <;> cases e
  have s0 : SR A G H (L2.start N vs) (env0 m ts) P :=
    { len := by unfold L2.start env0; simp [hl, hn, hm]
      le := s.le
      slot := fun i t e => by
        obtain ⟨v, hv, tr⟩ := s.slot i t (lt e)
        refine ⟨v, ?_, tr⟩
        unfold L2.start
        rw [List.getElem?_append_left (List.getElem?_eq_some_iff.mp hv).1]
        exact hv
      dis := s.dis
      own := s.own
      base := Stp.refl
      kp := fun _ _ => rfl }
  have fo : ∀ t env' v G' H' σ' P' F, Post (.ret t (fin keep 0 ts env')) → SR A G' H' σ' env' P' → Tmp A G' H' P' t F v → Q v H' := fun t env' v G' H' σ' P' F q s' m' => by
    have st := m'.stp s'
    refine hQ t _ v G' H' (fun i a => P' i a ∧ i ∈ keep) F q ⟨by rw [fin_length]; simp [hn, hl], s'.le, fun i u e => ?_, fun i j a h1 h2 => s'.dis i j a h1.1 h2.1, fun i a h1 => s'.own i a h1.1⟩
      (st.wk (fun _ h => h) fun a z => ?_) m'.tr fun a z => ⟨fun ⟨j, y, _⟩ => (m'.fd a z).1 ⟨j, y⟩, (m'.fd a z).2⟩
    · rcases fin_at keep ts 0 i env' u e with ⟨k1, k2⟩ | ⟨k1, ov, d, rfl⟩
      · rw [Nat.zero_add] at k1
        have hi : i ∈ keep := List.contains_iff_mem.mp k1
        obtain ⟨w, hw, tw⟩ := s'.slot i u k2
        rw [s'.kp i hi] at hw
        refine ⟨w, ?_, tw.mono (Ex.refl _) (fun a z => ⟨z, hi⟩) (fun _ _ _ e => e) fun a z => (s'.own i a z).1⟩
        have hw' : (L2.start N vs)[i]? = some (some w) := hw
        unfold L2.start at hw'
        rw [List.getElem?_append_left (by rw [List.length_map, hl]; exact hk i hi)] at hw'
        exact hw'
      · obtain ⟨w, hw, tw⟩ := s.slot i (.frz ov d) (by rw [List.getElem?_map, k1]; rfl)
        exact ⟨w, hw, tw.1.mono st.g, tw.2⟩
    · rcases z with ⟨j, z, _⟩ | z
      · exact .inl (.inl ⟨j, z⟩)
      · exact .inl (.inr z)
  refine h ts Post hS hn A rfl rfl G H (L2.start N vs) P s0 _ (fun e G' H' σ' P' q s' _ => ?_) (fun t e v G' H' σ' P' F q s' m' => fo t e v G' H' σ' P' F q s' m') (fun _ _ _ _ _ z => z.elim) (fun _ _ _ _ _ z => z.elim)
  exact fo N_ e .non G' H' σ' P' noF q s' (.flat rfl fun _ z => nomatch z)

/-- what the arguments are, as trees -/
def argT (env : Env) : List Ar → Option (List T)
  | [] => some []
  | .t t :: r => (argT env r).map (t :: ·)
  | .s i :: r => match env[i]? with
    | some (some t) => (argT env r).map (t :: ·)
    | _ => none
/-- what was handed over by its name, behind the call -/
def backT (env : Env) : List Ar → Env → Env
  | .s i :: r, e :: es => backT (env.set i e) r es
  | .s i :: r, [] => backT (env.set i none) r []
  | .t _ :: r, _ :: es => backT env r es
  | .t _ :: r, [] => backT env r []
  | [], _ => env
def slots : List Ar → List Nat
  | [] => []
  | .t _ :: r => slots r
  | .s i :: r => i :: slots r
end
end TL
/-! TL4: calls. -/
namespace TL
open PySem PySem.Spec PyProof.Rows L2
section
variable {A : Amb} {G H G' H' : Hp} {σ : L2.St} {env : Env} {P P' : Nat → As} {X X' : As} {v x y z : V} {t t1 t2 : T} {vs : List V} {as : List Ar} {ta tb te : TE} {r : R2} {ts : List T}

theorem mem_slots : ∀ {as : List Ar} {k i : Nat}, as[k]? = some (Ar.s i) → i ∈ slots as
  | .t _ :: r, k + 1, i, h => mem_slots (as := r) (k := k) h
  | .s j :: r, 0, i, h => by cases h; exact List.mem_cons_self
  | .s j :: r, k + 1, i, h => List.mem_cons_of_mem _ (mem_slots (as := r) (k := k) h)
/-- the arguments' own cells, one by one -/
theorem args_own {c : Cn} (dis : ∀ i j a, P i a → P j a → i = j) (slot : ∀ i t, env[i]? = some (some t) → ∃ v, σ[i]? = some (some v) ∧ TR c G H t (P i) v) :
    ∀ (as : List Ar) (ts : List T) (X : As) (vs : List V), argT env as = some ts → ArR c G H σ as X vs → (slots as).Nodup → (∀ a, X a → ¬ uP P a) →
    ts.length = vs.length ∧ ∃ Pc : Nat → As, (∀ k t, ts[k]? = some t → ∃ v, vs[k]? = some v ∧ TR c G H t (Pc k) v) ∧ (∀ k j a, Pc k a → Pc j a → k = j) ∧ (∀ k a, Pc k a → X a ∨ ∃ i ∈ slots as, P i a) ∧
      ∀ (k i : Nat), as[k]? = some (Ar.s i) → ∃ v, vs[k]? = some v ∧ σ[i]? = some (some v)
  | [], ts, X, vs, h, r, _, _ => by
    cases h; cases r
    refine ⟨rfl, fun _ _ => False, fun k t e => ?_, fun _ _ _ z => z.elim, fun _ _ z => z.elim, fun k i e => ?_⟩
    · cases e
    · cases e
  | .t t :: r, ts, X, vs, h, ⟨v, r', F1, F2, e, h2, h3, h4, h5⟩, nd, fd => by
    have h' : (argT env r).map (t :: ·) = some ts := h
    cases q : argT env r with
    | none => rw [q] at h'; cases h'
    | some us =>
      rw [q] at h'
      cases h'
      subst e
      obtain ⟨l, Pc, i1, i2, i3, i4⟩ := args_own dis slot r us F2 r' q h5 nd fun a z => fd a (h3 a z).1
      have cross : ∀ k a, F1 a → Pc k a → False := fun k a z y => by
        rcases i3 k a y with w | ⟨i, _, w⟩
        · exact (h3 a w).2 z
        · exact fd a (h2 a z) ⟨i, w⟩
      refine ⟨by simp [l], fun k => match k with | 0 => F1 | k + 1 => Pc k, fun k u e => ?_, fun k j a z y => ?_, fun k a z => ?_, fun k i e => ?_⟩
      · cases k with
        | zero => cases e; exact ⟨v, rfl, h4⟩
        | succ k => exact i1 k u e
      · cases k with
        | zero => cases j with
          | zero => rfl
          | succ j => exact (cross j a z y).elim
        | succ k => cases j with
          | zero => exact (cross k a y z).elim
          | succ j => rw [i2 k j a z y]
      · cases k with
        | zero => exact .inl (h2 a z)
        | succ k =>
          rcases i3 k a z with w | w
          · exact .inl (h3 a w).1
          · exact .inr w
      · cases k with
        | zero => cases e
        | succ k => exact i4 k i e
  | .s i :: r, ts, X, vs, h, ⟨v, r', e, h2, h3⟩, nd, fd => by
    subst e
    have h' : (match env[i]? with
      | some (some t) => (argT env r).map (t :: ·)
      | _ => none) = some ts := h
    cases q0 : env[i]? with
    | none => rw [q0] at h'; cases h'
    | some o => cases o with
      | none => rw [q0] at h'; cases h'
      | some t =>
        rw [q0] at h'
        cases q : argT env r with
        | none => rw [q] at h'; cases h'
        | some us =>
          rw [q] at h'
          cases h'
          obtain ⟨ni, nd'⟩ := List.nodup_cons.mp nd
          obtain ⟨l, Pc, i1, i2, i3, i4⟩ := args_own dis slot r us X r' q h3 nd' fd
          have cross : ∀ k a, P i a → Pc k a → False := fun k a z y => by
            rcases i3 k a y with w | ⟨j, hj, w⟩
            · exact fd a w ⟨i, z⟩
            · exact ni (dis _ _ a z w ▸ hj)
          obtain ⟨w, hw, tw⟩ := slot i t q0
          rw [h2] at hw
          cases hw
          refine ⟨by simp [l], fun k => match k with | 0 => P i | k + 1 => Pc k, fun k u e => ?_, fun k j a z y => ?_, fun k a z => ?_, fun k j e => ?_⟩
          · cases k with
            | zero => cases e; exact ⟨v, rfl, tw⟩
            | succ k => exact i1 k u e
          · cases k with
            | zero => cases j with
              | zero => rfl
              | succ j => exact (cross j a z y).elim
            | succ k => cases j with
              | zero => exact (cross k a y z).elim
              | succ j => rw [i2 k j a z y]
          · cases k with
            | zero => exact .inr ⟨i, List.mem_cons_self, z⟩
            | succ k =>
              rcases i3 k a z with w | ⟨j, hj, w⟩
              · exact .inl w
              · exact .inr ⟨j, List.mem_cons_of_mem _ hj, w⟩
          · cases k with
            | zero => cases e; exact ⟨v, rfl, h2⟩
            | succ k => exact i4 k j e
theorem backT_len : ∀ (as : List Ar) (env es : Env), (backT env as es).length = env.length
  | [], _, _ => by unfold backT; rfl
  | .t _ :: r, env, [] => by unfold backT; exact backT_len r _ _
  | .t _ :: r, env, _ :: _ => by unfold backT; exact backT_len r _ _
  | .s i :: r, env, [] => by unfold backT; rw [backT_len r, List.length_set]
  | .s i :: r, env, _ :: _ => by unfold backT; rw [backT_len r, List.length_set]
/-- what a name holds behind a call -/
theorem backT_at : ∀ (as : List Ar) (env es : Env) (j : Nat) (t : T), (slots as).Nodup → (backT env as es)[j]? = some (some t) →
    (∃ k : Nat, as[k]? = some (Ar.s j) ∧ es[k]? = some (some t)) ∨ ((∀ k : Nat, as[k]? ≠ some (Ar.s j)) ∧ env[j]? = some (some t))
  | [], env, es, j, t, _, h => by
    unfold backT at h
    refine .inr ⟨fun k z => ?_, h⟩
    cases z
  | .t u :: r, env, es, j, t, nd, h => by
    have h' : (backT env r es.tail)[j]? = some (some t) := by
      cases es <;> (unfold backT at h; exact h)
    rcases backT_at r env es.tail j t nd h' with ⟨k, h1, h2⟩ | ⟨h1, h2⟩
    · refine .inl ⟨k + 1, h1, ?_⟩
      cases es with
      | nil => simp at h2
      | cons e es => exact h2
    · refine .inr ⟨fun k z => ?_, h2⟩
      cases k with
      | zero => cases z
      | succ k => exact h1 k z
  | .s i :: r, env, es, j, t, nd, h => by
    obtain ⟨ni, nd'⟩ := List.nodup_cons.mp nd
    have h' : (backT (env.set i (es[0]?.join)) r es.tail)[j]? = some (some t) := by
      cases es with
      | nil => unfold backT at h; exact h
      | cons e es => unfold backT at h; exact h
    rcases backT_at r _ es.tail j t nd' h' with ⟨k, h1, h2⟩ | ⟨h1, h2⟩
    · refine .inl ⟨k + 1, h1, ?_⟩
      cases es with
      | nil => simp at h2
      | cons e es => exact h2
    · by_cases e : i = j
      · subst e
        refine .inl ⟨0, rfl, ?_⟩
        rw [List.getElem?_set] at h2
        simp only [if_true] at h2
        split at h2
        · have h3 := Option.some.inj h2
          cases es with
          | nil => cases h3
          | cons e es =>
            have : e = some t := h3
            rw [this]; rfl
        · cases h2
      · rw [List.getElem?_set_ne e] at h2
        refine .inr ⟨fun k z => ?_, h2⟩
        cases k with
        | zero => cases z; exact e rfl
        | succ k => exact h1 k z

theorem call_core {ts : List T} (s : SR A G H σ env P) (m : TmpA A G H σ P as X vs) (ha : argT env as = some ts) (nd : (slots as).Nodup) :
    ts.length = vs.length ∧ ∃ Pc : Nat → As, SL A.c G H (vs.map some) (ts.map some) Pc ∧ ∀ ts' v t G2 H2 Pc' F3, SL A.c G2 H2 (vs.map some) ts' Pc' → Stp G H (uP Pc) G2 H2 (fun a => uP Pc' a ∨ F3 a) → TR A.c G2 H2 t F3 v →
      (∀ a, F3 a → (∀ k i : Nat, as[k]? = some (Ar.s i) → ¬ Pc' k a) ∧ G2 a = none ∧ H2 a ≠ none) → ∃ P2, Res A G H (fun a => uP P a ∨ X a) σ t (backT env as ts') v G2 H2 P2 F3 := by
  obtain ⟨hl, Pc, a1, a2, a3, a4⟩ := args_own (c := A.c) s.dis s.slot as ts X vs ha m.tr nd fun a z => (m.fd a z).1
  have pc : ∀ a, uP Pc a → uP P a ∨ X a := fun a ⟨k, z⟩ => by
    rcases a3 k a z with w | ⟨i, _, w⟩
    · exact .inr w
    · exact .inl ⟨i, w⟩
  have pcown : ∀ a, uP Pc a → G a = none ∧ H a ≠ none := fun a z => by
    rcases pc a z with ⟨i, w⟩ | w
    · exact s.own i a w
    · exact (m.fd a w).2
  refine ⟨hl, Pc, ⟨by simp [hl], s.le, fun k t e => ?_, a2, fun k a z => pcown a ⟨k, z⟩⟩, fun ts' v t G2 H2 Pc' F3 s2 st tr fd3 => ?_⟩
  · rw [List.getElem?_map] at e
    cases q : ts[k]? with
    | none => rw [q] at e; cases e
    | some u =>
      rw [q] at e
      have e' : u = t := Option.some.inj (Option.some.inj e)
      subst e'
      obtain ⟨w, hw, tw⟩ := a1 k u q
      exact ⟨w, by rw [List.getElem?_map, hw]; rfl, tw⟩
  -- cells of names that were not handed over
  have stay : ∀ j a, (∀ k : Nat, as[k]? ≠ some (Ar.s j)) → P j a → ¬ uP Pc a := fun j a nj z ⟨k, y⟩ => by
    rcases a3 k a y with w | ⟨i, hi, w⟩
    · exact (m.fd a w).1 ⟨j, z⟩
    · have e := s.dis _ _ a z w
      subst e
      exact nj_of hi nj
  have stayG : ∀ j a, (∀ k : Nat, as[k]? ≠ some (Ar.s j)) → P j a → G2 a = none ∧ H2 a ≠ none ∧ ∀ o, H a = some o → H2 a = some o := fun j a nj z => by
    have n1 := stay j a nj z
    have o1 := s.own j a z
    refine ⟨?_, ?_, fun o e => st.h a o e n1⟩
    · cases q : G2 a with
      | none => rfl
      | some o =>
        rcases st.m a (by rw [q]; exact fun z => nomatch z) with w | w | w
        · exact absurd o1.1 w
        · exact absurd w n1
        · exact absurd w o1.2
    · cases q : H a with
      | none => exact absurd q o1.2
      | some o => rw [st.h a o q n1]; exact fun z => nomatch z
  let P2 : Nat → As := fun j a => (∃ k : Nat, as[k]? = some (Ar.s j) ∧ Pc' k a) ∨ ((∀ k : Nat, as[k]? ≠ some (Ar.s j)) ∧ P j a)
  have old : ∀ j a, (∀ k : Nat, as[k]? ≠ some (Ar.s j)) → P j a → ¬ (uP Pc' a ∨ F3 a) := fun j a nj z y => by
    rcases st.n a y with w | w
    · exact stay j a nj z w
    · exact (s.own j a z).2 w
  have st2 : Stp G H (fun a => uP P a ∨ X a) G2 H2 (fun a => uP P2 a ∨ F3 a) := st.wk pc fun a z => by
    rcases z with ⟨j, ⟨k, _, y⟩ | ⟨_, y⟩⟩ | z
    · exact .inl (.inl ⟨k, y⟩)
    · exact .inr (.inl (.inl ⟨j, y⟩))
    · exact .inl (.inr z)
  have stb : Stp A.G A.H A.U G2 H2 (fun a => uP P2 a ∨ F3 a) := by
    have b : Stp A.G A.H A.U G H (fun a => uP P a ∨ X a) := ⟨s.base.g, s.base.h, fun a z => by
      rcases z with z | z
      · exact s.base.n a z
      · exact m.bs a z, s.base.m⟩
    exact b.trans st2
  refine ⟨P2, ⟨⟨⟨by rw [backT_len]; exact s.len, s2.le, fun j u e => ?_, fun i j a h1 h2 => ?_, fun j a h1 => ?_⟩, stb.wk (fun _ h => h) fun a z => .inl (.inl z), s.kp⟩, st2, tr, fun a z => ⟨fun y => ?_, (fd3 a z).2⟩, fun a z => stb.n a (.inr z)⟩⟩
  · rcases backT_at as env ts' j u nd e with ⟨k, k1, k2⟩ | ⟨k1, k2⟩
    · obtain ⟨w, hw, tw⟩ := s2.slot k u k2
      obtain ⟨w2, hw2, hs⟩ := a4 k j k1
      rw [List.getElem?_map, hw2] at hw
      have ew : w2 = w := Option.some.inj (Option.some.inj hw)
      subst ew
      exact ⟨_, hs, tw.mono (Ex.refl _) (fun a z => .inl ⟨k, k1, z⟩) (fun _ _ _ e => e) fun a z => (s2.own k a z).1⟩
    · obtain ⟨w, hw, tw⟩ := s.slot j u k2
      exact ⟨w, hw, tw.mono st.g (fun a z => .inr ⟨k1, z⟩) (fun a o z => (stayG j a k1 z).2.2 o) fun a z => (stayG j a k1 z).1⟩
  · rcases h1 with ⟨k, k1, k2⟩ | ⟨k1, k2⟩ <;> rcases h2 with ⟨l, l1, l2⟩ | ⟨l1, l2⟩
    · have e := s2.dis _ _ a k2 l2
      subst e
      rw [k1] at l1
      cases l1
      rfl
    · exact absurd (.inl ⟨k, k2⟩) (old j a l1 l2)
    · exact absurd (.inl ⟨l, l2⟩) (old i a k1 k2)
    · exact s.dis _ _ a k2 l2
  · rcases h1 with ⟨k, _, k2⟩ | ⟨k1, k2⟩
    · exact s2.own k a k2
    · exact ⟨(stayG j a k1 k2).1, (stayG j a k1 k2).2.1⟩
  · obtain ⟨j, ⟨k, k1, k2⟩ | ⟨k1, k2⟩⟩ := y
    · exact (fd3 a z).1 k j k1 k2
    · exact old j a k1 k2 (.inr z)
where nj_of : ∀ {as : List Ar} {j : Nat}, j ∈ slots as → (∀ k : Nat, as[k]? ≠ some (Ar.s j)) → False
  | .t _ :: r, j, h, n => nj_of (as := r) h fun k => n (k + 1)
  | .s i :: r, j, h, n => by
    rcases List.mem_cons.mp h with e | e
    · subst e
      exact n 0 rfl
    · exact nj_of (as := r) e fun k => n (k + 1)

/-- f(..) -/
theorem we_call {n : Nat} {Sf : FS} {E : XK} {tr : TA} {Post : T → Env → Prop} (h : WA A tr env fun as e => ∃ ts, argT e as = some ts ∧ ts.length = n ∧ (slots as).Nodup ∧ Sf ts fun o => ∃ t ts', o = .ret t ts' ∧ Post t (backT e as ts')) :
    WE A (tCall (spOf A.c n Sf) [] E tr) env Post := fun G H σ P s Q k => by
  refine h G H σ P s _ fun as e1 vs G1 H1 P1 F1 p1 r1 => ?_
  obtain ⟨ts, ha, hn, nd, hS⟩ := p1
  obtain ⟨hl, Pc, sl, co⟩ := call_core r1.sr r1.tm ha nd
  rw [List.append_nil]
  refine ⟨ts, G1, Pc, _, hn, sl, hS, fun t ts' v G2 H2 P2 F2 hp s2 st tr fd => ?_, fun k fs ts' hp => ?_⟩
  · obtain ⟨t', ts'', e, hp⟩ := hp
    cases e
    obtain ⟨P3, r3⟩ := co ts' v t G2 H2 P2 F2 s2 st tr fun a z => ⟨fun k i _ y => (fd a z).1 ⟨k, y⟩, (fd a z).2⟩
    exact k t _ v G2 H2 P3 F2 hp ⟨r3.sr, r1.st.trans r3.st, r3.tm⟩
  · obtain ⟨t', ts'', e, _⟩ := hp
    cases e
/-- the receiver of a method: an instance of the k-th class, no attribute of its own so called -/
def instT (k : Nat) (m : Str) : T → Prop
  | .frz _ (.ins c fs) => c = k ∧ (fs.map (·.1)).contains m = false
  | .ins c fs => c = k ∧ (fs.map (·.1)).contains m = false
  | _ => False
def instO (env : Env) (k : Nat) (m : Str) : Ar → Prop
  | .t t => instT k m t
  | .s i => match env[i]? with
    | some (some t) => instT k m t
    | _ => False
theorem repF_none {c : Cn} {H : Hp} {m : Str} : ∀ {fs : List (Str × D)} {gs : List (Str × V)}, RepF c H fs gs → (fs.map (·.1)).contains m = false → gs.lookup m = none
  | [], gs, h, _ => by cases h; rfl
  | (f, d) :: fs, gs, ⟨v, r, e, h1, h2⟩, hc => by
    subst e
    have hc' : ((f :: fs.map (·.1)).contains m) = false := hc
    rw [List.contains_cons] at hc'
    have hb : (m == f) = false := by cases q : (m == f); rfl; rw [q] at hc'; cases hc'
    rw [hb] at hc'
    rw [List.lookup_cons, hb]
    exact repF_none h2 hc'
theorem trf_none {c : Cn} {G H : Hp} {m : Str} : ∀ {fs : List (Str × T)} {F : As} {gs : List (Str × V)}, TRf c G H fs F gs → (fs.map (·.1)).contains m = false → gs.lookup m = none
  | [], F, gs, h, _ => by cases h; rfl
  | (f, d) :: fs, F, gs, ⟨v, r, F1, F2, e, _, _, h1, h2⟩, hc => by
    subst e
    have hc' : ((f :: fs.map (·.1)).contains m) = false := hc
    rw [List.contains_cons] at hc'
    have hb : (m == f) = false := by cases q : (m == f); rfl; rw [q] at hc'; cases hc'
    rw [hb] at hc'
    rw [List.lookup_cons, hb]
    exact trf_none h2 hc'
theorem instT_ok {t : T} {k : Nat} {m : Str} {c : Cn} (le : Ex G H) (tr : TR c G H t X v) (h : instT k m t) : ∃ p dx fs, v = .ref p ∧ H p = some (.ins (c.cls k) dx fs) ∧ fs.lookup m = none := by
  cases t with
  | frz ov d => cases d with
    | ins c fs =>
      obtain ⟨rfl, hc⟩ := h
      obtain ⟨⟨p, dx, gs, e1, e2, e3⟩, _⟩ := tr
      exact ⟨p, dx, gs, e1, le _ _ e2, repF_none e3 hc⟩
    | _ => exact h.elim
  | ins c fs =>
    obtain ⟨rfl, hc⟩ := h
    obtain ⟨p, dx, gs, F2, e1, _, _, e2, _, e3⟩ := tr
    exact ⟨p, dx, gs, e1, e2, trf_none e3 hc⟩
  | _ => exact h.elim
theorem instO_ok {a : Ar} {k : Nat} {m : Str} (s : SR A G H σ env P) (tm : TmpA A G H σ P [a] X [v]) (h : instO env k m a) : ∃ p dx fs, v = .ref p ∧ H p = some (.ins (A.c.cls k) dx fs) ∧ fs.lookup m = none := by
  cases a with
  | t t =>
    obtain ⟨F1, _, m1⟩ := tm.one
    exact instT_ok s.le m1.tr h
  | s i =>
    obtain ⟨w, r', e, hw, _⟩ := tm.tr
    cases e
    have h : (match env[i]? with
      | some (some t) => instT k m t
      | _ => False) := h
    cases q : env[i]? with
    | none => rw [q] at h; exact h.elim
    | some o => cases o with
      | none => rw [q] at h; exact h.elim
      | some t =>
        rw [q] at h
        obtain ⟨w, hw2, tr⟩ := s.slot i _ q
        rw [hw] at hw2
        cases hw2
        exact instT_ok s.le tr h
/-- o.m(..) -/
theorem we_meth {n k : Nat} {m : Str} {Sf : FS} {E : XK} {to : TE} {tr : TA} {Post : T → Env → Prop} (h : WO A to env fun a e => instO e k m a ∧ WA A tr e fun as e => ∃ ts, argT e (a :: as) = some ts ∧ ts.length = n ∧ (slots (a :: as)).Nodup ∧ Sf ts fun o => ∃ t ts', o = .ret t ts' ∧ Post t (backT e (a :: as) ts')) :
    WE A (tMeth (A.c.cls k) m (spOf A.c n Sf) [] E to tr) env Post := fun G H σ P s Q kq => by
  refine h G H σ P s _ fun a e0 v0 G0 H0 P0 F0 p0 r0 => ?_
  obtain ⟨hi, p0⟩ := p0
  obtain ⟨p, dx, fs, ev, hp, hl⟩ := instO_ok r0.sr r0.tm hi
  refine ⟨p, dx, fs, ev, hp, hl, ?_⟩
  refine p0 G0 H0 σ P0 r0.sr _ fun as e1 vs G1 H1 P1 F1 p1 r1 => ?_
  obtain ⟨ts, ha, hn, nd, hS⟩ := p1
  obtain ⟨_, Pc, sl, co⟩ := call_core r1.sr ((r0.tm.carry r1.st).app r1.tm (beside r1.st r0.tm.fd).2.2) ha nd
  rw [List.append_nil]
  refine ⟨ts, G1, Pc, _, hn, sl, hS, fun t ts' v G2 H2 P2 F2 hp s2 st tr fd => ?_, fun k fs ts' hp => ?_⟩
  · obtain ⟨t', ts'', e, hp⟩ := hp
    cases e
    obtain ⟨P3, r3⟩ := co ts' v t G2 H2 P2 F2 s2 st tr fun a z => ⟨fun k i _ y => (fd a z).1 ⟨k, y⟩, (fd a z).2⟩
    exact kq t _ v G2 H2 P3 F2 hp ⟨r3.sr, (r0.st.seq r1.st).trans r3.st, r3.tm⟩
  · obtain ⟨t', ts'', e, _⟩ := hp
    cases e
theorem not_t0 {t : T} {as : List Ar} {i : Nat} (h : (Ar.t t :: as)[0]? = some (Ar.s i)) : False := by cases h
/-- C(..) -/
theorem we_make {n k : Nat} {Sf : FS} {E : XK} {tr : TA} {Post : T → Env → Prop} (h : WA A tr env fun as e => ∃ ts, argT e as = some ts ∧ ts.length + 1 = n ∧ (slots as).Nodup ∧ Sf (.ins k [] :: ts) fun o => ∃ t ts', o = .ret N_ (some t :: ts') ∧ Post t (backT e as ts')) :
    WE A (tMake (A.c.cls k) (spOf A.c n Sf) [] E tr) env Post := fun G H σ P s Q kq => by
  refine h G H σ P s _ fun as e1 vs G1 H1 P1 F1 p1 r1 => ?_
  obtain ⟨ts, ha, hn, nd, hS⟩ := p1
  intro x dx hx hdx nx
  let H2 : Hp := upd (upd H1 dx (.own x)) x (.ins (A.c.cls k) dx [])
  have e12 : Ex H1 H2 := fun a o e => by
    show upd (upd H1 dx (.own x)) x (.ins (A.c.cls k) dx []) a = some o
    rw [upd_ne (ne_of_none e hx), upd_ne (ne_of_none e hdx)]
    exact e
  have gx : G1 x = none := by
    cases q : G1 x with
    | none => rfl
    | some o => rw [r1.sr.le _ _ q] at hx; cases hx
  have st1 : Stp G1 H1 (uP P1) G1 H2 (fun a => uP P1 a ∨ a = x) := ⟨Ex.refl _, fun a o e _ => e12 a o e, fun a z => by
    rcases z with z | z
    · exact .inl z
    · exact .inr (z ▸ hx), fun a z => .inl z⟩
  have s2 : SR A G1 H2 σ e1 P1 := ⟨⟨r1.sr.len, r1.sr.le.trans e12, fun i t e => by
    obtain ⟨w, hw, tw⟩ := r1.sr.slot i t e
    exact ⟨w, hw, tw.mono (Ex.refl _) (fun _ h => h) (fun a o _ e => e12 a o e) fun a z => (r1.sr.own i a z).1⟩, r1.sr.dis, fun i a z => ⟨(r1.sr.own i a z).1, fun q => by
      cases q2 : H1 a with
      | none => exact (r1.sr.own i a z).2 q2
      | some o => rw [e12 a o q2] at q; cases q⟩⟩, r1.sr.base.trans (st1.wk (fun _ h => h) fun a z => .inl (.inl z)), r1.sr.kp⟩
  have bx : A.U x ∨ A.H x = none := by
    by_cases u : A.U x
    · exact .inl u
    · right
      cases q : A.H x with
      | none => rfl
      | some o => rw [r1.sr.base.h x o q u] at hx; cases hx
  have m0 : TmpA A G1 H2 σ P1 [.t (.ins k [])] (fun a => a = x) [.ref x] := (⟨⟨x, dx, [], noF, rfl, rfl, gx, upd_same, fun _ z => z.elim, rfl⟩, fun a z => by
    subst z
    refine ⟨fun ⟨i, y⟩ => (r1.sr.own i a y).2 hx, gx, ?_⟩
    show upd (upd H1 dx (.own a)) a (.ins (A.c.cls k) dx []) a ≠ none
    rw [upd_same]
    exact Option.some_ne_none _, fun a z => by subst z; exact bx⟩ : Tmp A G1 H2 P1 (.ins k []) (fun a => a = x) (.ref x)).one
  have m1 : TmpA A G1 H2 σ P1 as F1 vs := r1.tm.carry st1
  have m2 := m0.app m1 fun a z y => by
    subst y
    exact (r1.tm.fd a z).2.2 hx
  have ha2 : argT e1 (.t (.ins k []) :: as) = some (.ins k [] :: ts) := by
    show (argT e1 as).map _ = _
    rw [ha]; rfl
  obtain ⟨_, Pc, sl, co⟩ := call_core s2 m2 ha2 nd
  rw [List.append_nil]
  refine ⟨.ins k [] :: ts, G1, Pc, _, by simpa using hn, sl, hS, fun t ts' v G3 H3 P3 F3 hp s3 st tr fd => ?_, fun k fs ts' hp => ?_⟩
  · obtain ⟨t', ts'', e, hp⟩ := hp
    cases e
    obtain ⟨w, hw, tw⟩ := s3.slot 0 t' rfl
    cases hw
    obtain ⟨P4, r4⟩ := co _ (.ref x) t' G3 H3 P3 (P3 0) s3 (st.wk (fun _ h => h) fun a z => by
      rcases z with z | z
      · exact .inl (.inl z)
      · exact .inl (.inl ⟨0, z⟩)) tw fun a z => ⟨fun j i e y => not_t0 (s3.dis _ _ a z y ▸ e), s3.own 0 a z⟩
    refine ⟨tr.1, kq t' _ (.ref x) G3 H3 P4 (P3 0) hp ⟨r4.sr, (r1.st.trans (st1.frame F1 |>.wk (V := fun a => uP P1 a ∨ F1 a) (V1 := fun a => uP P1 a ∨ (a = x ∨ F1 a)) (fun _ h => h) fun a z => ?_)).trans r4.st, r4.tm⟩⟩
    rcases z with z | z | z
    · exact .inl (.inl (.inl z))
    · exact .inl (.inl (.inr z))
    · exact .inl (.inr z)
  · obtain ⟨t', ts'', e, _⟩ := hp
    cases e
end
end TL
/-! TL5: operations, lists. -/
namespace TL
open PySem PySem.Spec PyProof.Rows L2
section
variable {A : Amb} {G H G' H' : Hp} {σ : L2.St} {env : Env} {P P' : Nat → As} {X X' : As} {v x y z : V} {t t1 t2 : T} {vs : List V} {as : List Ar} {ta tb te : TE} {r : R2} {ts : List T} {a b : Ar} {Post : T → Env → Prop}

/-! ### what is handed on, as data -/
def arD (env : Env) : Ar → Option D
  | .t t => some t.data
  | .s i => match env[i]? with
    | some (some t) => some t.data
    | _ => none
theorem view (s : SR A G H σ env P) (m : TmpA A G H σ P [a] X [v]) {d : D} (h : arD env a = some d) : Rep A.c H d v := by
  cases a with
  | t t =>
    cases h
    obtain ⟨F1, _, m1⟩ := m.one
    exact m1.tr.view s.le
  | s i =>
    obtain ⟨w, r', e, hw, _⟩ := m.tr
    cases e
    have h' : (match env[i]? with
      | some (some t) => some t.data
      | _ => none) = some d := h
    cases q : env[i]? with
    | none => rw [q] at h'; cases h'
    | some o => cases o with
      | none => rw [q] at h'; cases h'
      | some t =>
        rw [q] at h'
        cases h'
        obtain ⟨w, hw2, tr⟩ := s.slot i t q
        rw [hw] at hw2
        cases hw2
        exact tr.view s.le
theorem TmpA.split (m : TmpA A G H σ P (a :: as) X vs) : ∃ v ws F1 F2, vs = v :: ws ∧ (∀ a, F1 a → X a) ∧ (∀ a, F2 a → X a) ∧ TmpA A G H σ P [a] F1 [v] ∧ TmpA A G H σ P as F2 ws := by
  cases a with
  | t t =>
    obtain ⟨v, ws, F1, F2, e, h1, h2, tr, r⟩ := m.tr
    exact ⟨v, ws, F1, F2, e, h1, fun a z => (h2 a z).1, ⟨⟨v, [], F1, noF, rfl, fun _ h => h, fun _ z => z.elim, tr, rfl⟩, fun a z => m.fd a (h1 a z), fun a z => m.bs a (h1 a z)⟩, ⟨r, fun a z => m.fd a (h2 a z).1, fun a z => m.bs a (h2 a z).1⟩⟩
  | s i =>
    obtain ⟨v, ws, e, h1, r⟩ := m.tr
    exact ⟨v, ws, noF, X, e, fun _ z => z.elim, fun _ z => z, ⟨⟨v, [], rfl, h1, rfl⟩, fun _ z => z.elim, fun _ z => z.elim⟩, ⟨r, m.fd, m.bs⟩⟩
theorem TmpA.split2 (m : TmpA A G H σ P [a, b] X [x, y]) : ∃ F1 F2, (∀ a, F1 a → X a) ∧ (∀ a, F2 a → X a) ∧ TmpA A G H σ P [a] F1 [x] ∧ TmpA A G H σ P [b] F2 [y] := by
  obtain ⟨v, ws, F1, F2, e, h1, h2, m1, m2⟩ := m.split
  cases e
  exact ⟨F1, F2, h1, h2, m1, m2⟩
theorem views (s : SR A G H σ env P) : ∀ {as : List Ar} {X : As} {vs : List V} {ds : List D}, TmpA A G H σ P as X vs → as.map (arD env) = ds.map some → Reps A.c H ds vs
  | [], _, _, [], m, _ => m.tr
  | [], _, _, _ :: _, _, h => by cases h
  | a :: as, _, _, [], _, h => by cases h
  | a :: as, X, vs, d :: ds, m, h => by
    obtain ⟨v, ws, F1, F2, e, h1, h2, m1, m2⟩ := m.split
    have h' : (arD env a :: as.map (arD env)) = (some d :: ds.map some) := h
    injection h' with e1 e2
    exact ⟨v, ws, e, view s m1 e1, views s m2 e2⟩

/-! ### results that are no objects -/
theorem wr_flat {d1 d2 d : D} {v0 : V} (h1 : arD env a = some d1) (h2 : arD env b = some d2) (hv : ∀ G, Rep A.c G d v0) (hr : ∀ H x y, Rep A.c H d1 x → Rep A.c H d2 y → ∀ Q : VK, Q v0 H → r x y H Q) (q : Post (.frz none d) env) : WR A r a b env Post :=
  fun G H σ P x y X s m Q k => by
    obtain ⟨F1, F2, _, _, m1, m2⟩ := m.split2
    exact hr H x y (view s m1 h1) (view s m2 h2) Q (k _ _ v0 G H P noF q (.frz' s (hv _) fun _ z => nomatch z))
theorem wu_flat {r : V → Hp → VK → Prop} {d1 d : D} {v0 : V} (h1 : arD env a = some d1) (hv : ∀ G, Rep A.c G d v0) (hr : ∀ H x, Rep A.c H d1 x → ∀ Q : VK, Q v0 H → r x H Q) (q : Post (.frz none d) env) : WU A r a env Post :=
  fun G H σ P x X s m Q k => hr H x (view s m h1) Q (k _ _ v0 G H P noF q (.frz' s (hv _) fun _ z => nomatch z))
theorem wc_flat {r : List V → Hp → VK → Prop} {ds : List D} {d : D} {v0 : V} (h1 : as.map (arD env) = ds.map some) (hv : ∀ G, Rep A.c G d v0) (hr : ∀ H vs, Reps A.c H ds vs → ∀ Q : VK, Q v0 H → r vs H Q) (q : Post (.frz none d) env) : WC A r as env Post :=
  fun G H σ P vs X s m Q k => hr H vs (views s m h1) Q (k _ _ v0 G H P noF q (.frz' s (hv _) fun _ z => nomatch z))

/-! ### new objects -/
theorem Stp.new {p : Addr} {o : HO} {U : As} (h : H p = none) : Stp G H U G (upd H p o) (fun a => U a ∨ a = p) := ⟨Ex.refl _, fun a u e _ => by
  rw [upd_ne (ne_of_none e h)]; exact e, fun a z => by
    rcases z with z | z
    · exact .inl z
    · subst z; exact .inr h, fun _ z => .inl z⟩
theorem ex_new {p : Addr} {o : HO} (h : H p = none) : Ex H (upd H p o) := fun a u e => by
  rw [upd_ne (ne_of_none e h)]; exact e
theorem SR.beside_new (s : SR A G H σ env P) {p : Addr} {o : HO} (h : H p = none) : SR A G (upd H p o) σ env P := ⟨⟨s.len, s.le.trans (ex_new h), fun i t e => by
    obtain ⟨w, hw, tw⟩ := s.slot i t e
    exact ⟨w, hw, tw.mono (Ex.refl _) (fun _ h => h) (fun a u _ e => ex_new h a u e) fun a z => (s.own i a z).1⟩, s.dis, fun i a z => ⟨(s.own i a z).1, fun q => by
      cases q2 : H a with
      | none => exact (s.own i a z).2 q2
      | some u => rw [ex_new h a u q2] at q; cases q⟩⟩, s.base.trans ((Stp.new h).wk (fun _ h => h) fun a z => .inl (.inl z)), s.kp⟩
theorem SR.gnone (s : SR A G H σ env P) {p : Addr} (h : H p = none) : G p = none := by
  cases q : G p with
  | none => rfl
  | some o => rw [s.le _ _ q] at h; cases h
theorem SR.bnew (s : SR A G H σ env P) {p : Addr} (h : H p = none) : A.U p ∨ A.H p = none := by
  by_cases u : A.U p
  · exact .inl u
  · right
    cases q : A.H p with
    | none => rfl
    | some o => rw [s.base.h p o q u] at h; cases h
theorem trs_frz {c : Cn} {X : As} : ∀ {ds : List D} {vs : List V}, Reps c G ds vs → TRs c G H (ds.map (T.frz none)) X vs
  | [], _, h => h
  | d :: ds, vs, ⟨v, r, e, h1, h2⟩ => ⟨v, r, noF, noF, e, fun _ z => z.elim, fun _ z => z.elim, ⟨h1, fun _ z => nomatch z⟩, trs_frz h2⟩
/-- a new list of things that are one's own -/
theorem alloc_lst (s : SR A G H σ env P) (tr : TRs A.c G H ts X vs) (fd : ∀ a, X a → ¬ uP P a ∧ G a = none ∧ H a ≠ none) (bs : ∀ a, X a → A.U a ∨ A.H a = none) {p : Addr} (hp : H p = none) :
    Res A G H (fun a => uP P a ∨ X a) σ (.lst ts) env (.ref p) G (upd H p (.lst vs)) P (fun a => X a ∨ a = p) where
  sr := s.beside_new hp
  st := (Stp.new hp).wk (fun _ h => h) fun a z => by
    rcases z with z | z | z
    · exact .inl (.inl (.inl z))
    · exact .inl (.inl (.inr z))
    · exact .inl (.inr z)
  tm := ⟨⟨p, vs, X, rfl, .inr rfl, s.gnone hp, upd_same, fun a z => ⟨.inl z, fun e => by subst e; exact (fd a z).2.2 hp⟩, tr.mono (Ex.refl _) (fun _ z => z) (fun a o _ e => ex_new hp a o e) fun a z => (fd a z).2.1⟩, fun a z => by
    rcases z with z | z
    · exact ⟨(fd a z).1, (fd a z).2.1, fun q => by
        cases q2 : H a with
        | none => exact (fd a z).2.2 q2
        | some u => rw [ex_new hp a u q2] at q; cases q⟩
    · subst z
      exact ⟨fun ⟨i, y⟩ => (s.own i a y).2 hp, s.gnone hp, by rw [upd_same]; exact Option.some_ne_none _⟩, fun a z => by
    rcases z with z | z
    · exact bs a z
    · subst z; exact s.bnew hp⟩
/-- a new list of things that are fixed -/
theorem alloc_frzs (s : SR A G H σ env P) {ds : List D} (rp : Reps A.c G ds vs) {U0 : As} (h0 : ∀ a, uP P a → U0 a) {p : Addr} (hp : H p = none) :
    Res A G H U0 σ (.lst (ds.map (T.frz none))) env (.ref p) G (upd H p (.lst vs)) P (fun a => noF a ∨ a = p) := by
  have r := alloc_lst s (trs_frz (H := H) (X := noF) rp) (fun _ z => z.elim) (fun _ z => z.elim) hp
  exact ⟨r.sr, r.st.wk (fun a z => by rcases z with z | z; exact h0 a z; exact z.elim) fun a z => .inl z, r.tm⟩
theorem ex_upd {p : Addr} {o : HO} (hp : G p = none) : Ex G (upd G p o) := ex_new hp
/-- a new object that is fixed at once -/
theorem SR.fixed_new (s : SR A G H σ env P) {p : Addr} {o : HO} (hp : H p = none) : SR A (upd G p o) (upd H p o) σ env P := by
  have gp := s.gnone hp
  have ne : ∀ i a, P i a → a ≠ p := fun i a z e => by subst e; exact (s.own i a z).2 hp
  refine ⟨⟨s.len, fun a u e => ?_, fun i t e => ?_, s.dis, fun i a z => ⟨by rw [upd_ne (ne i a z)]; exact (s.own i a z).1, by rw [upd_ne (ne i a z)]; exact (s.own i a z).2⟩⟩, ?_, s.kp⟩
  · by_cases e' : a = p
    · subst e'; rw [upd_same] at e ⊢; exact e
    · rw [upd_ne e'] at e ⊢; exact s.le _ _ e
  · obtain ⟨w, hw, tw⟩ := s.slot i t e
    exact ⟨w, hw, tw.mono (ex_upd gp) (fun _ h => h) (fun a u z e => by rw [upd_ne (ne i a z)]; exact e) fun a z => by rw [upd_ne (ne i a z)]; exact (s.own i a z).1⟩
  · refine s.base.trans ⟨ex_upd gp, fun a u e _ => ex_new hp a u e, fun a z => .inl z, fun a z => ?_⟩
    by_cases e : a = p
    · subst e; exact .inr (.inr hp)
    · rw [upd_ne e] at z; exact .inl z
theorem Stp.fixed_new (s : SR A G H σ env P) {p : Addr} {o : HO} (hp : H p = none) {U : As} : Stp G H U (upd G p o) (upd H p o) U := ⟨ex_upd (s.gnone hp), fun a u e _ => ex_new hp a u e, fun a z => .inl z, fun a z => by
  by_cases e : a = p
  · subst e; exact .inr (.inr hp)
  · rw [upd_ne e] at z; exact .inl z⟩
theorem alloc_tup (s : SR A G H σ env P) {ds : List D} (rp : Reps A.c G ds vs) {U0 : As} (h0 : ∀ a, uP P a → U0 a) {p : Addr} (hp : H p = none) :
    Res A G H U0 σ (.frz none (.tup ds)) env (.ref p) (upd G p (.tup vs)) (upd H p (.tup vs)) P noF :=
  ⟨s.fixed_new hp, (Stp.fixed_new s hp (U := uP P)).wk h0 fun a z => by rcases z with z | z; exact .inl z; exact z.elim, .flat ⟨p, vs, rfl, upd_same, rp.mono (ex_upd (s.gnone hp))⟩ fun _ z => nomatch z⟩

/-- values made on the way, none handed on by name -/
def tmps : List Ar → Option (List T)
  | [] => some []
  | .t t :: r => (tmps r).map (t :: ·)
  | .s _ :: _ => none
theorem tmps_tr {c : Cn} : ∀ {as : List Ar} {ts : List T} {X : As} {vs : List V}, tmps as = some ts → ArR c G H σ as X vs → TRs c G H ts X vs
  | [], ts, _, _, h, r => by cases h; exact r
  | .t t :: as, ts, X, vs, h, ⟨v, ws, F1, F2, e, h1, h2, tr, r⟩ => by
    have h' : (tmps as).map (t :: ·) = some ts := h
    cases q : tmps as with
    | none => rw [q] at h'; cases h'
    | some us =>
      rw [q] at h'
      cases h'
      exact ⟨v, ws, F1, F2, e, h1, h2, tr, tmps_tr q r⟩
  | .s i :: as, ts, _, _, h, _ => by cases h
theorem ArR.len {c : Cn} : ∀ {as : List Ar} {X : As} {vs : List V}, ArR c G H σ as X vs → vs.length = as.length
  | [], _, _, h => by cases h; rfl
  | .t t :: as, X, vs, ⟨v, ws, F1, F2, e, h1, h2, tr, r⟩ => by subst e; simp [ArR.len r]
  | .s i :: as, X, vs, ⟨v, ws, e, h1, r⟩ => by subst e; simp [ArR.len r]
/-- [a, b, ..] -/
theorem we_lst {tr : TA} (h : WA A tr env fun as e => ∃ ts, tmps as = some ts ∧ as.length ≤ 1000 ∧ Post (.lst ts) e) : WE A (tLst tr) env Post := fun G H σ P s Q k => by
  refine h G H σ P s _ fun as e vs G1 H1 P1 F1 p1 r1 => ?_
  obtain ⟨ts, ht, hl, hp⟩ := p1
  refine ⟨by rw [r1.tm.tr.len, sizeLine_eq]; omega, fun p hn => ?_⟩
  have r2 := alloc_lst r1.sr (tmps_tr ht r1.tm.tr) r1.tm.fd r1.tm.bs hn
  exact k _ _ _ _ _ _ _ hp ⟨r2.sr, r1.st.trans r2.st, r2.tm⟩
def frzs : List T → Option (List D)
  | [] => some []
  | .frz _ d :: r => (frzs r).map (d :: ·)
  | _ :: _ => none
theorem frzs_rp {c : Cn} : ∀ {ts : List T} {ds : List D} {X : As} {vs : List V}, frzs ts = some ds → TRs c G H ts X vs → Reps c G ds vs
  | [], ds, _, _, h, r => by cases h; exact r
  | .frz ov d :: ts, ds, X, vs, h, ⟨v, ws, F1, F2, e, h1, h2, tr, r⟩ => by
    have h' : (frzs ts).map (d :: ·) = some ds := h
    cases q : frzs ts with
    | none => rw [q] at h'; cases h'
    | some us =>
      rw [q] at h'
      cases h'
      exact ⟨v, ws, e, tr.1, frzs_rp q r⟩
  | .lst _ :: _, _, _, _, h, _ => by cases h
  | .tup _ :: _, _, _, _, h, _ => by cases h
  | .dik _ :: _, _, _, _, h, _ => by cases h
  | .dit _ :: _, _, _, _, h, _ => by cases h
  | .ins _ _ :: _, _, _, _, h, _ => by cases h
/-- (a, b, ..), what stands in it is fixed -/
theorem we_tup {tr : TA} (h : WA A tr env fun as e => ∃ ts, tmps as = some ts ∧ as.length ≤ 1000 ∧ Post (.frz none (.tup (T.datas ts))) e) : WE A (tTup tr) env Post := fun G H σ P s Q k => by
  refine h G H σ P s _ fun as e vs G1 H1 P1 F1 p1 r1 => ?_
  obtain ⟨ts, ht, hl, hp⟩ := p1
  refine ⟨by rw [r1.tm.tr.len, sizeLine_eq]; omega, fun p hn => ?_⟩
  -- what stands in it is fixed first
  have e1 : Ex G1 (frzH G1 H1 F1) := frzH_ex r1.sr.le
  have rp : Reps A.c (frzH G1 H1 F1) (T.datas ts) vs := (tmps_tr ht r1.tm.tr).freeze e1 fun a o f e => by rw [frzH_in f]; exact e
  have st : Stp G1 H1 (fun a => uP P1 a ∨ F1 a) (frzH G1 H1 F1) H1 (uP P1) := ⟨e1, fun _ _ e _ => e, fun a z => .inl (.inl z), fun a z => by
    by_cases f : F1 a
    · exact .inr (.inl (.inr f))
    · rw [frzH_out f] at z; exact .inl z⟩
  have out : ∀ i a, P1 i a → frzH G1 H1 F1 a = none := fun i a z => by
    rw [frzH_out fun f => (r1.tm.fd a f).1 ⟨i, z⟩]
    exact (r1.sr.own i a z).1
  have stb : Stp A.G A.H A.U G1 H1 (fun a => uP P1 a ∨ F1 a) := ⟨r1.sr.base.g, r1.sr.base.h, fun a z => by
    rcases z with z | z
    · exact r1.sr.base.n a z
    · exact r1.tm.bs a z, r1.sr.base.m⟩
  have s2 : SR A (frzH G1 H1 F1) H1 σ e P1 := ⟨⟨r1.sr.len, frzH_le r1.sr.le, fun i t e => by
    obtain ⟨w, hw, tw⟩ := r1.sr.slot i t e
    exact ⟨w, hw, tw.mono e1 (fun _ h => h) (fun _ _ _ e => e) fun a z => out i a z⟩, r1.sr.dis, fun i a z => ⟨out i a z, (r1.sr.own i a z).2⟩⟩, stb.trans st, r1.sr.kp⟩
  have r2 := alloc_tup s2 rp (fun _ z => z) hn
  exact k _ _ _ _ _ _ _ hp ⟨r2.sr, (r1.st.trans st).trans r2.st, r2.tm⟩

/-! ### an item -/
theorem reps_at {c : Cn} : ∀ {ds : List D} {vs : List V} {j : Nat} {d : D}, Reps c H ds vs → ds[j]? = some d → ∃ v, vs[j]? = some v ∧ Rep c H d v
  | d :: ds, vs, 0, _, ⟨v, r, e, h1, h2⟩, h => by cases h; subst e; exact ⟨v, rfl, h1⟩
  | d :: ds, vs, j + 1, _, ⟨v, r, e, h1, h2⟩, h => by subst e; exact reps_at (j := j) h2 h
theorem reps_len {c : Cn} : ∀ {ds : List D} {vs : List V}, Reps c H ds vs → vs.length = ds.length
  | [], _, h => by cases h; rfl
  | d :: ds, vs, ⟨v, r, e, h1, h2⟩ => by subst e; simp [reps_len h2]
theorem trs_len {c : Cn} : ∀ {ts : List T} {X : As} {vs : List V}, TRs c G H ts X vs → vs.length = ts.length
  | [], _, _, h => by cases h; rfl
  | d :: ds, X, vs, ⟨v, r, F1, F2, e, _, _, h1, h2⟩ => by subst e; simp [trs_len h2]
theorem trs_at {c : Cn} : ∀ {ts : List T} {X : As} {vs : List V} {j : Nat} {t : T}, TRs c G H ts X vs → ts[j]? = some t → ∃ v F1, vs[j]? = some v ∧ (∀ a, F1 a → X a) ∧ TR c G H t F1 v
  | d :: ds, X, vs, 0, _, ⟨v, r, F1, F2, e, h1, h2, h3, h4⟩, h => by cases h; subst e; exact ⟨v, F1, rfl, h1, h3⟩
  | d :: ds, X, vs, j + 1, _, ⟨v, r, F1, F2, e, h1, h2, h3, h4⟩, h => by
    subst e
    obtain ⟨w, F3, q1, q2, q3⟩ := trs_at (j := j) h4 h
    exact ⟨w, F3, q1, fun a z => (h2 a (q2 a z)).1, q3⟩
theorem atI_eq {α β : Type} {xs : List α} {ys : List β} {i : Int} {x : α} (h : atI xs i = some x) (e : ys.length = xs.length) : ∃ j : Nat, xs[j]? = some x ∧ atI ys i = ys[j]? := by
  unfold atI at h ⊢
  rw [e]
  cases q : ixN xs.length i with
  | none => rw [q] at h; cases h
  | some j => rw [q] at h; exact ⟨j, h, rfl⟩
/-- an item of a list, a tuple, a text -/
def rIxA (K : PySem.W.Frag) : R2 := fun x y H Q => (rIxL K x y H Q ∨ rIxT K x y H Q) ∨ rIxS x y H Q
theorem ixA {X : Cx} : IxR X (rIxA X.K) := IxR.or (IxR.or ix_list ix_tup) ix_str
theorem wr_ix_frz {ov o2 : Option V} {ds : List D} {i : Int} {d : D} (h : atI ds i = some d) (q : Post (.frz none d) env) : WR A (rIxA A.c.K) (.t (.frz ov (.lst ds))) (.t (.frz o2 (.int i))) env Post := fun G H σ P x y X s m Q k => by
  obtain ⟨F1, F2, _, _, m1, m2⟩ := m.split2
  obtain ⟨_, _, n1⟩ := m1.one
  obtain ⟨_, _, n2⟩ := m2.one
  obtain ⟨⟨p, ws, e1, e2, e3⟩, _⟩ := n1.tr
  obtain ⟨e4, _⟩ := n2.tr
  obtain ⟨j, hj, ej⟩ := atI_eq (ys := ws) h (reps_len e3)
  obtain ⟨w, hw, rw_⟩ := reps_at e3 hj
  exact .inl (.inl ⟨p, ws, i, w, e1, e4, SqL.of (s.le _ _ e2), by rw [ej, hw], k _ _ w G H P noF q (.frz' s rw_ fun _ z => nomatch z)⟩)
theorem wr_ix_tup {ov o2 : Option V} {ds : List D} {i : Int} {d : D} (h : atI ds i = some d) (q : Post (.frz none d) env) : WR A (rIxA A.c.K) (.t (.frz ov (.tup ds))) (.t (.frz o2 (.int i))) env Post := fun G H σ P x y X s m Q k => by
  obtain ⟨F1, F2, _, _, m1, m2⟩ := m.split2
  obtain ⟨_, _, n1⟩ := m1.one
  obtain ⟨_, _, n2⟩ := m2.one
  obtain ⟨⟨p, ws, e1, e2, e3⟩, _⟩ := n1.tr
  obtain ⟨e4, _⟩ := n2.tr
  obtain ⟨j, hj, ej⟩ := atI_eq (ys := ws) h (reps_len e3)
  obtain ⟨w, hw, rw_⟩ := reps_at e3 hj
  exact .inl (.inr ⟨p, ws, i, w, e1, e4, SqT.of (s.le _ _ e2), by rw [ej, hw], k _ _ w G H P noF q (.frz' s rw_ fun _ z => nomatch z)⟩)
theorem wr_ix_str {ov o2 : Option V} {w : Str} {i : Int} {c : Nat} (hl : w.length ≤ 1000000) (h : atI w.cps.toList i = some c) (q : Post (S ⟨#[c]⟩) env) : WR A (rIxA A.c.K) (.t (.frz ov (.str w))) (.t (.frz o2 (.int i))) env Post :=
  wr_flat (d := .str ⟨#[c]⟩) rfl rfl (fun _ => rfl) (fun H x y e1 e2 Q q => .inr ⟨w, i, c, e1, e2, by rw [sizeLine_eq]; omega, h, q⟩) q
theorem wr_ix_scr {ov o2 : Option V} {ns : List Int} {i : Int} {n : Int} (h : atI ns i = some n) (q : Post (I n) env) : WR A (rIxA A.c.K) (.t (.frz ov (.scr ns))) (.t (.frz o2 (.int i))) env Post :=
  wr_flat (d := .int n) rfl rfl (fun _ => rfl) (fun H x y e1 e2 Q q => by
    obtain ⟨p, e, hs⟩ := e1
    obtain ⟨j, hj, ej⟩ := atI_eq (ys := ns.map V.int) h (by simp)
    exact .inl (.inl ⟨p, _, i, .int n, e, e2, hs, by rw [ej, List.getElem?_map, hj]; rfl, q⟩)) q
/-- an item of a list made on the way: the rest is let go -/
theorem wr_ix_tmp {o2 : Option V} {ts : List T} {i : Int} {t : T} (h : atI ts i = some t) (q : Post t env) : WR A (rIxA A.c.K) (.t (.lst ts)) (.t (.frz o2 (.int i))) env Post := fun G H σ P x y X s m Q k => by
  obtain ⟨F1, F2, h1, _, m1, m2⟩ := m.split2
  obtain ⟨F3, h3, n1⟩ := m1.one
  obtain ⟨_, _, n2⟩ := m2.one
  obtain ⟨p, ws, F4, e1, _, _, e2, h4, e3⟩ := n1.tr
  obtain ⟨e4, _⟩ := n2.tr
  obtain ⟨j, hj, ej⟩ := atI_eq (ys := ws) h (trs_len e3)
  obtain ⟨w, F5, hw, h5, tw⟩ := trs_at e3 hj
  have sub : ∀ a, F5 a → F3 a := fun a z => (h4 a (h5 a z)).1
  exact .inl (.inl ⟨p, ws, i, w, e1, e4, SqL.of e2, by rw [ej, hw], k _ _ w G H P F5 q (.same s ⟨tw, fun a z => n1.fd a (sub a z), fun a z => n1.bs a (sub a z)⟩ (fun _ z => .inl z) fun a z => .inl (.inr (h1 a (h3 a (sub a z)))))⟩)
/-- an item, itself fixed, of one's own list that a name holds -/
theorem wr_ix_slot {n : Nat} {o2 ov : Option V} {ts : List T} {i : Int} {d : D} (he : env[n]? = some (some (.lst ts))) (h : atI ts i = some (.frz ov d)) (q : Post (.frz ov d) env) : WR A (rIxA A.c.K) (.s n) (.t (.frz o2 (.int i))) env Post := fun G H σ P x y X s m Q k => by
  obtain ⟨F1, F2, h1, _, m1, m2⟩ := m.split2
  obtain ⟨_, _, n2⟩ := m2.one
  obtain ⟨w, r', e, hw, _⟩ := m1.tr
  cases e
  obtain ⟨w, hw2, p, ws, F4, e1, _, _, e2, h4, e3⟩ := s.slot n _ he
  rw [hw] at hw2
  cases hw2
  obtain ⟨e4, _⟩ := n2.tr
  obtain ⟨j, hj, ej⟩ := atI_eq (ys := ws) h (trs_len e3)
  obtain ⟨u, F5, hu, h5, tu⟩ := trs_at e3 hj
  exact .inl (.inl ⟨p, ws, i, u, e1, e4, SqL.of e2, by rw [ej, hu], k _ _ u G H P noF q (.frz' s tu.1 tu.2)⟩)

/-! ### arithmetic -/
theorem wr_I0 {g : Int → Int → Int} {o1 o2 : Option V} {i j : Int} (q : Post (I (g i j)) env) : WR A (rI0 fun i j => .int (g i j)) (.t (.frz o1 (.int i))) (.t (.frz o2 (.int j))) env Post :=
  wr_flat (d := .int (g i j)) rfl rfl (fun _ => rfl) (fun H x y e1 e2 Q q => ⟨i, j, e1, e2, q⟩) q
theorem wr_Ib {g : Int → Int → Bool} {o1 o2 : Option V} {i j : Int} (q : Post (B (g i j)) env) : WR A (rI0 fun i j => .bl (g i j)) (.t (.frz o1 (.int i))) (.t (.frz o2 (.int j))) env Post :=
  wr_flat (d := .bl (g i j)) rfl rfl (fun _ => rfl) (fun H x y e1 e2 Q q => ⟨i, j, e1, e2, q⟩) q
theorem wr_I {C : Int → Int → Prop} {g : Int → Int → Int} {o1 o2 : Option V} {i j : Int} (hc : C i j) (q : Post (I (g i j)) env) : WR A (rI C fun i j => .int (g i j)) (.t (.frz o1 (.int i))) (.t (.frz o2 (.int j))) env Post :=
  wr_flat (d := .int (g i j)) rfl rfl (fun _ => rfl) (fun H x y e1 e2 Q q => ⟨i, j, e1, e2, hc, q⟩) q
theorem wu_I {g : Int → Int} {o1 : Option V} {i : Int} (q : Post (I (g i)) env) : WU A (rU fun i => .int (g i)) (.t (.frz o1 (.int i))) env Post :=
  wu_flat (d := .int (g i)) rfl (fun _ => rfl) (fun H x e1 Q q => ⟨i, e1, q⟩) q
/-- a + b of ints, lists, texts, tuples -/
def rAddStr : R2 := fun x y H Q => ∃ i j, x = .str i ∧ y = .str j ∧ i.length + j.length ≤ sizeLine ∧ Q (.str (i ++ j)) H
def rAddA (K : PySem.W.Frag) : R2 := fun x y H Q => ((rI0 (fun i j => .int (i + j)) x y H Q ∨ rCat x y H Q) ∨ rAddStr x y H Q) ∨ rCatT K x y H Q
theorem op_addA {X : Cx} : OpR X (binaryOp .Add) (rAddA X.K) := OpR.or (OpR.or (OpR.or op_add op_cat) op_add_str) op_catT
theorem wr_add_int {o1 o2 : Option V} {i j : Int} (q : Post (I (i + j)) env) : WR A (rAddA A.c.K) (.t (.frz o1 (.int i))) (.t (.frz o2 (.int j))) env Post :=
  wr_flat (d := .int (i + j)) rfl rfl (fun _ => rfl) (fun H x y e1 e2 Q q => .inl (.inl (.inl ⟨i, j, e1, e2, q⟩))) q
theorem wr_add_str {o1 o2 : Option V} {i j : Str} (hl : i.length + j.length ≤ 1000000) (q : Post (S (i ++ j)) env) : WR A (rAddA A.c.K) (.t (.frz o1 (.str i))) (.t (.frz o2 (.str j))) env Post :=
  wr_flat (d := .str (i ++ j)) rfl rfl (fun _ => rfl) (fun H x y e1 e2 Q q => .inl (.inr ⟨i, j, e1, e2, by rw [sizeLine_eq]; omega, q⟩)) q

/-! ### == -/
def D.scal : D → D → Bool
  | .int _, .int _ => true
  | .bl _, .bl _ => true
  | .str _, .str _ => true
  | .non, .non => true
  | _, _ => false
def D.same : D → D → Bool
  | .int i, .int j => decide (i = j)
  | .bl i, .bl j => decide (i = j)
  | .str i, .str j => decide (i = j)
  | .non, .non => true
  | _, _ => false
def rEqA (K : PySem.W.Frag) : R2 := fun x y H Q => rEq x y H Q ∨ rEqD K x y H Q
def rNeA (K : PySem.W.Frag) : R2 := fun x y H Q => rNe x y H Q ∨ rNeD K x y H Q
theorem op_eqA {X : Cx} (hu : X.A.units + 64 < cLine) : OpR X (compareOp .Eq) (rEqA X.K) := OpR.or op_eq (op_eqD hu)
theorem op_neA {X : Cx} (hu : X.A.units + 64 < cLine) : OpR X (compareOp .NotEq) (rNeA X.K) := OpR.or op_ne (op_neD hu)
end
end TL
/-! TG: defs that stand under no repr; repr of data; a law's end. -/
namespace TL
open PySem PySem.Spec PyProof.Rows L2

/-- as FnOk, where no repr is under way -/
structure FnG (P : Program) (w : World) (K : PySem.W.Frag) (mg : Str → Option Value) (base : Heap) (k : Nat) (f : Addr) (fd : FuncData) (ps : List Str) (sp : Sp) : Prop where
  len : ∀ vs H Q E, sp vs H Q E → vs.length = ps.length
  run : ∀ (A : Around), A.guards = some [] → Room k A → ∀ (outer : List PySem.Env) (s : Shared) (H : Hp) (args : Args) (us : List Value) (vs : List V) (Q : VK) (E : XK),
    Env0 P w K mg base A outer s H → BindsTo s fd args (ps.zip us) → Vals vs us → sp vs H Q E → codeAny (model P w) A (.call (.ref f) args) (CR CX0 outer P w H s Q E) s
section
variable {P : Program} {w : World} {K : PySem.W.Frag} {mg : Str → Option Value} {base : Heap} {k j : Nat} {f : Addr} {fd : FuncData} {ps : List Str} {sp : Sp}
theorem FnG.of (F : FnOk P w K mg base CX0 k f fd ps sp) : FnG P w K mg base k f fd ps sp := ⟨F.len, fun A _ hr outer s H args us vs Q E e b r h => F.run A outer s H args us vs Q E hr e b r h⟩
theorem FnG.mono (F : FnG P w K mg base j f fd ps sp) (h : j ≤ k) : FnG P w K mg base k f fd ps sp := ⟨F.len, fun A g hr => F.run A g (hr.mono h)⟩
theorem fng_of {x qual : Str} {params : Arguments} {body : List Stmt} {scope : Scope} {N : List Str} (F : FunD K x qual params body scope [] [] f fd) (S : FnScope N ps scope) (len : ∀ vs H Q E, sp vs H Q E → vs.length = ps.length)
    (hb : ∀ (cdv : Value) (A : Around) (outer : List PySem.Env) (s : Shared) (H : Hp) (vs : List V) (Q : VK) (E : XK), (A.deeper (envOfC qual scope s.heap.objs.size f cdv)).guards = some [] → Room k (A.deeper (envOfC qual scope s.heap.objs.size f cdv)) → sp vs H Q E →
      ∃ t, PSs (cxOf CX0 P w K mg base N qual scope f cdv A outer s H E).nox body t ∧ t { nx := fun _ H' => Q .non H', rt := Q } (L2.start N vs) H) : FnG P w K mg base (k + 1) f fd ps sp := by
  obtain ⟨oc, od, dV, kV, doc, pm, an, cdv, ct, osl, rfl, lk, hcd, _, _⟩ := F.ex
  refine ⟨len, fun A g hr outer s H args us vs Q E e0 bd rv hsp => ?_⟩
  have hl := len _ _ _ _ hsp
  have up : ∀ (b : Addr) (o : Obj), base.get? b = some o → s.heap.get? b = some o := fun b o e => (e0.bs b o e).1
  have KX := e0.mod.kin.keeps up
  have slotOk : ∀ y ∈ ps.zip us, scope.names.lookup y.1 = some .local ∨
      (scope.names.lookup y.1 = some .cell ∧ ((cellsFrom (s.heap.objs.size + 1) scope.names []).lookup y.1).isSome = true) := by
    rintro ⟨n, v⟩ hy
    rcases S.par n (List.of_mem_zip hy).1 with q | q
    · exact Or.inl q
    · exact Or.inr ⟨q, PySem.W.cellsFrom_some _ _ _ (Or.inl q)⟩
  refine codeAny_call_function hr.depth (KX _ _ lk) rfl S.co S.gen rfl (PySem.W.codeRec_of KX hcd) (bd _ _ _ _ ?_)
  refine wpAny_newFunctionEnv_cells S.kind slotOk fun env he s1 x => ?_
  cases he
  refine ⟨(e0.mod.nolimit.keeps up).keeps x.toInCall.keep, codeAny_func ?_⟩
  obtain ⟨t, ht, hq⟩ := hb cdv A outer s H vs Q E g (hr.deeper _) hsp
  have I := inv_start (CX := CX0) (E := E) S hr.hd e0 hl rv x
  refine wpAny_mono (ht.nox.run [] s1 _ H _ I hq) (fun fl s' hs => ?_) fun e s' hs => hs
  cases fl with
  | next =>
    obtain ⟨_, H', J, q⟩ := hs
    exact ⟨V.non, H', J.os, J.bare, J.base, J.hok, rfl, q⟩
  | ret u =>
    obtain ⟨v, _, H', J, r1, q⟩ := hs
    exact ⟨v, H', J.os, J.bare, J.base, J.hok, r1, q⟩
  | brk => exact hs.elim fun _ z => z.elim fun _ z => z.2.elim
  | cont => exact hs.elim fun _ z => z.elim fun _ z => z.2.elim
end
section
variable {X : Cx} {k : Nat} {f : Addr} {fd : FuncData} {ps : List Str} {sp : Sp} {E : XK} {x : Str} {p pos : Pos} {e : Expr} {es : List Expr} {t : TA}
theorem run_fng {pins : List (Addr × Obj)} {σ : L2.St} {H : Hp} {s : Shared} {Q : VK} {us : List Value} {vs : List V} (F : FnG X.prog X.w X.K X.mg X.base k f fd ps sp) (hg : X.A.guards = some []) (hr : Room k X.A) (hb : Binds X.K fd ps [])
    (I : Inv X pins σ H s) (r : Vals vs us) (h : sp vs H Q E) : wpAny (model X.prog X.w) X.A (call (.ref f) us) (EP X pins σ Q) X.xe s := by
  have hl : us.length = ps.length := r.length.symm.trans (F.len _ _ _ _ h)
  have b := hb s us I.kIn (by rw [List.append_nil, hl])
  rw [List.append_nil] at b
  refine wpAny_call (codeAny_mono (F.run X.A hg hr X.stack s H ⟨us, []⟩ us vs Q E I.env0 b r h) ?_)
  intro r s' q
  match r, q with
  | .ok (.ret u), q => exact I.after q
/-- f(e, ..) -/
theorem pe_callG (F : FnG X.prog X.w X.K X.mg X.base k f fd ps sp) (hg : X.A.guards = some []) (hr : Room k X.A) (hgl : Gl X x) (hm : X.mg x = some (.ref f)) (hk : PySem.W.keepIn X.K (.ref f) = true) (hb : Binds X.K fd ps [])
    (ha : PA X (e :: es) t) (hd : (x == ("__debug__" : Str)) = false := by decide) (hs : starEach (e :: es) X.env = (false, eval e X.env) :: starEach es X.env := by rfl)
    (hp : (backTo pos (starEach es X.env)).any (·.1) = false := by rfl) : PE X (.Call (.Name x p) (e :: es) [] pos) (tCall sp [] E t) := ⟨fun pins s σ H Q I h => by
  refine wpAny_Call_Name_kw (ld_glob I hgl hm ?_ hd)
  refine PySem.W.callWith_K (h₀ := X.base) I.ok.mod.kin hk (thn (ha.run pos pins s σ H _ I h) ?_) hs hp
  rintro us s1 ⟨vs, H1, I1, r, q⟩
  rw [List.append_nil] at q
  exact ⟨I1.kIn, run_fng F hg hr hb I1 r q⟩⟩
/-- f() -/
theorem pe_callG0 (F : FnG X.prog X.w X.K X.mg X.base k f fd ps sp) (hg : X.A.guards = some []) (hr : Room k X.A) (hgl : Gl X x) (hm : X.mg x = some (.ref f)) (hk : PySem.W.keepIn X.K (.ref f) = true) (hb : Binds X.K fd ps [])
    (hd : (x == ("__debug__" : Str)) = false := by decide) : PE X (.Call (.Name x p) [] [] pos) (tCall sp [] E tNil) := ⟨fun pins s σ H Q I h => by
  refine wpAny_Call_Name_kw (ld_glob I hgl hm ?_ hd)
  exact PySem.W.callWith_K0 I.kIn hk (run_fng (us := []) (vs := []) F hg hr hb I .nil h)⟩

/-! ### repr -/
/-- repr(x), x data without a dict -/
def rRepr (K : PySem.W.Frag) : List V → Hp → VK → Prop := fun xs H Q => ∃ x d, xs = [x] ∧ Dp K H x d ∧ d.showable = true ∧ d.hasDict = false ∧ d.depth ≤ 100 ∧ d.shown.length ≤ sizeLine ∧ Q (.str d.shown) H
theorem repr_flat {prog : Program} {w : World} {A : Around} {E : Value → Shared → Prop} {s : Shared} {Q : Value → Shared → Prop} {u : Value} {d : PyData} {as : List Addr} (r : Reads s.heap u d as) (hs : d.showable = true) (hsz : d.shown.length ≤ sizeLine) (hr : ∀ a, u ≠ .ref a)
    (h : ∀ tk u, Q (.str d.shown u) { s with toks := tk }) : wpAny (model prog w) A (call (.builtin "repr") [u]) Q E s := by
  cases r with
  | none => exact PySem.P.repr_of_none (h _ _)
  | bool b =>
    have e : (PyData.bool b).shown = (if b then "True" else "False" : Str) := by cases b <;> simp [PyData.shown]
    refine PySem.P.repr_of_bool ?_
    rw [← e]; exact h _ _
  | int i t =>
    have hi : i.natAbs.log2 < 1920 := by
      have := hs
      simp only [PyData.showable] at this
      simpa using this
    have e : (PyData.int i).shown = (toString i : Str) := by simp [PyData.shown]
    refine PySem.P.repr_of_int hi ?_
    rw [← e]; exact h _ _
  | str x t =>
    have e : (PyData.str x).shown = reprText x := by simp [PyData.shown]
    rw [e] at hsz
    refine PySem.P.repr_of_str ?_ hsz
    rw [← e]; exact h _ _
  | list => exact absurd rfl (hr _)
  | tuple => exact absurd rfl (hr _)
  | dict => exact absurd rfl (hr _)
end
end TL
/-! TG2: repr as a call; a law's end. -/
namespace TL
open PySem PySem.Spec PyProof.Rows L2
section
variable {X : Cx}
theorem call_repr (hg : X.A.guards = some []) (hu : X.A.units + 200 < cLine) : CallR X (.builtin "repr") (rRepr X.K) := by
  intro pins s σ H xs us Q I r h
  obtain ⟨x, d, rfl, hd, hs, hn, hdp, hsz, q⟩ := h
  obtain ⟨u, rfl, ru⟩ := vals1 r
  obtain ⟨as, rd⟩ := Dp.reads I d x u hd ru
  cases u with
  | ref a =>
    refine PySem.repr_of_reads' rd hs (fun z => absurd (hn.symm.trans z) Bool.false_ne_true) hg (by omega) (fun _ _ e => e) (fun h' u tk hk => ?_) hsz
    exact ⟨.str d.shown, H, I.kept hk, ⟨u, rfl⟩, q⟩
  | _ => exact repr_flat rd hs hsz (fun _ z => nomatch z) fun tk u => ⟨.str d.shown, H, I.tok tk, ⟨u, rfl⟩, q⟩
end

/-! ### the end of a law's row -/
theorem law_end {P : Program} {w : World} {K : PySem.W.Frag} {mg mb : Str → Option Value} {k : Nat} {fa a : Addr} {fd : FuncData} {x : Str} {sp : Sp} {s1 : Shared} {vs : List Value} {ns : List Int}
    (KX : K.In s1.heap) (hns : s1.heap.Ns mainGlobals mg) (hb : s1.heap.Ns builtinsNs mb) (hbb : ∀ x : Str, x ≠ "__name__" → mb x = bootBuiltins x) (hlim : s1.heap.NoLimit) (hg : s1.gens = #[])
    (ha : s1.heap.get? a = some { cls := .type "list", data := .seq vs.toArray }) (hi : IntsAre vs ns) (hl : ns.length ≤ sizeLine) (hr : Room k callerA)
    (F : ∀ base : Heap, K.In base → base.Ns mainGlobals mg → FnG P w K mg base k fa fd [x] sp) (hbind : ∀ (s : Shared) (u : Value), BindsTo s fd ⟨[u], []⟩ [(x, u)])
    (hsp : ∀ H : Hp, Only H → SqL K H a (ns.map V.int) → sp [.ref a] H (fun v _ => v = .bl true) fun _ _ _ => False) :
    codeAny (model P w) callerA (.call (.ref fa) ⟨[.ref a], []⟩) (fun r s' => r = .ok (.ret (.bool true)) ∧ OldK s1.heap s'.heap ∧ s'.os = s1.os ∧ AllBare s'.gens) s1 := by
  have rv := vals_ints hi
  -- over any tracked part that holds the script at most
  suffices core : ∀ H : Hp, Only H → SqL K H a (ns.map V.int) → HOk P w H s1.heap → (∀ b, H b ≠ none → b = a) → (H a ≠ none → K.lookup a = none) →
      codeAny (model P w) callerA (.call (.ref fa) ⟨[.ref a], []⟩) (fun r s' => r = .ok (.ret (.bool true)) ∧ OldK s1.heap s'.heap ∧ s'.os = s1.os ∧ AllBare s'.gens) s1 by
    cases q : K.lookup a with
    | none =>
      let ob : Obj := { cls := .type "list", data := .seq vs.toArray }
      let H : Hp := fun b => if b = a then some (.frz ob (.lst (ns.map V.int))) else none
      have Ha : H a = some (.frz ob (.lst (ns.map V.int))) := if_pos rfl
      have Hn : ∀ b, b ≠ a → H b = none := fun b e => if_neg e
      refine core H (fun b => ?_) (.inl (.inr ⟨ob, Ha⟩)) (fun b u z => ?_) (fun b z => ?_) fun _ => q
      · by_cases e : b = a
        · subst e; exact .inr ⟨_, _, Ha⟩
        · exact .inl (Hn b e)
      · by_cases e : b = a
        · subst e
          rw [Ha] at z
          cases z
          exact ⟨ha, by rw [List.length_map]; exact hl, vs, _, rv, ha⟩
        · rw [Hn b e] at z; cases z
      · by_cases e : b = a
        · exact e
        · exact absurd (Hn b e) z
    | some o =>
      have e := KX a o q
      rw [ha] at e
      cases e
      exact core (fun _ => none) (fun _ => .inl rfl) (.inr ⟨_, vs.toArray, _, q, rfl, rfl, rfl, by rw [List.size_toArray, hi.length]; exact hl, by simpa using rv⟩) (fun b u z => nomatch z) (fun b z => absurd rfl z) fun z => absurd rfl z
  intro H hO hS hok hA hK
  have isA : ∀ {b : Addr} {u : HO}, H b = some u → b = a := fun {b u} z => hA b (by rw [z]; exact Option.some_ne_none _)
  have free : ∀ {b : Addr} {o : Obj} {es : Array DictEntry} {ep : Nat}, s1.heap.get? b = some o → o.data = .dict es ep → H b = none := fun {b o es ep} e d => by
    cases q : H b with
    | none => rfl
    | some u =>
      have z := isA q
      subst z
      rw [ha] at e
      cases e
      cases d
  have ns' : ∀ {b : Addr} {m : Str → Option Value}, s1.heap.Ns b m → (hidT s1.heap H).Ns b m := fun {b m} ⟨o, es, ep, e, d, r⟩ => ⟨o, es, ep, hidT_get e (free e d), d, r⟩
  have KB : K.In (hidT s1.heap H) := fun b o e => hidT_get (KX b o e) (by
    cases q : H b with
    | none => rfl
    | some u =>
      have z := isA q
      subst z
      rw [hK (by rw [q]; exact Option.some_ne_none _)] at e
      cases e)
  obtain ⟨mc, c1, c2⟩ := hlim
  have e0 : Env0 P w K mg (hidT s1.heap H) callerA [] s1 H :=
    { frames := rfl, mod := ⟨KB, ns' hns, ⟨mb, ns' hb, hbb⟩, mc, ns' c1, c2⟩, bs := fun b o e => of_hidT e, bsz := Nat.le_of_eq (hidT_size _ _), funs := trivial,
      frf := fun b hb => absurd (show b ∈ ([] : List Addr) from hb) List.not_mem_nil, hok := hok, bare := .of_eq hg }
  refine codeAny_mono ((F _ KB (ns' hns)).run callerA rfl hr [] s1 H ⟨[.ref a], []⟩ [.ref a] [.ref a] _ _ e0 (hbind s1 (.ref a)) (.cons rfl .nil) (hsp H hO hS)) ?_
  intro r s' h
  match r, h with
  | .ok (.ret u), ⟨v, H', os, bare, un, hok', rl, q⟩ =>
    have q' : v = .bl true := q
    subst q'
    have eu : u = Value.bool true := rl
    subst eu
    refine ⟨rfl, OldK.of_keep fun b o e => ?_, os, bare⟩
    cases q : H b with
    | none => exact un.keep b o e q (fun z => absurd (show b ∈ ([] : List Addr) from z) List.not_mem_nil) (by simp)
    | some u =>
      rcases hO b with z | ⟨ob, xs, z⟩
      · rw [q] at z; cases z
      · obtain ⟨e1, _⟩ := hok b _ z
        obtain ⟨e2, _⟩ := hok' b _ (un.frzs b ob _ z)
        rw [e] at e1
        cases e1
        exact e2
/-- a law over a head by facts; the script's items have at most a million bits -/
theorem walk_end {l : PySem.W.OpenLaw} {n k : Nat} {q : Program} {loose : List Str} {XP : (Str → Option Value) → Heap → Prop} {YP : World → Heap → Prop} {d : DefRec} {x : Str}
    (hn : l.most = some n) (hn2 : n ≤ sizeLine) (hdf : d.params.defaults = []) (hr : Room k callerA)
    (F : ∀ (w : World) (mg : Str → Option Value) (fa : Addr) (h : Heap), YP w h → h.Ns mainGlobals mg → mg d.name = some (.ref fa) →
      ∃ (K : PySem.W.Frag) (fd : FuncData) (sp : Sp), K.In h ∧ (∀ (s : Shared) (u : Value), BindsTo s fd ⟨[u], []⟩ [(x, u)]) ∧
        (∀ (H : Hp) (a : Addr) (ns : List Int), ns.length ≤ n → (∀ z ∈ ns, Builtin.Int.intBits z ≤ 1048576) → SqL K H a (ns.map V.int) → sp [.ref a] H (fun v _ => v = .bl true) fun _ _ _ => False) ∧
        ∀ base : Heap, K.In base → base.Ns mainGlobals mg → FnG l.prog w K mg base k fa fd [x] sp) :
    PySem.W.WalkO q loose XP YP l.row.toRowW d [] (fun f vs => PySem.call f vs) := by
  refine Att.attach_callB hn hdf ?_
  intro w s0 s1 mg mb fa o pm cd doc a vs ns G Y ho hd hcd hmg hobj hints hlen hbits hg
  obtain ⟨K, fd, sp, KX, hb, hsp, hF⟩ := F w mg fa _ Y G.T.g hmg
  exact law_end KX G.T.g G.T.b G.T.builtins G.T.nolimit hg hobj hints (Nat.le_trans hlen hn2) hr hF hb fun H _ hS => hsp H a ns hlen hbits hS
end TL
section
open PySem PySem.W PySem.Calls PyProof.Rows L2
theorem TL.finis (F : ∀ (w : World) (mg : PySem.Str → Option Value) (fa : Addr) (h : Heap), TL.hk.says w h → h.Ns mainGlobals mg → mg ("law" : PySem.Str) = some (.ref fa) →
      ∃ (K : PySem.W.Frag) (fd : FuncData) (sp : Sp), K.In h ∧ (∀ (s : Shared) (u : Value), BindsTo s fd ⟨[u], []⟩ [("_law_script", u)]) ∧
        (∀ (H : Hp) (a : Addr) (ns : List Int), ns.length ≤ 63 → (∀ z ∈ ns, Builtin.Int.intBits z ≤ 1048576) → SqL K H a (ns.map V.int) → sp [.ref a] H (fun v _ => v = .bl true) fun _ _ _ => False) ∧
        ∀ base : Heap, K.In base → base.Ns mainGlobals mg → TL.FnG PySem.Challenge.rw_halvedpictures_k04_texts_written_and_rea.prog w K mg base 7 fa fd ["_law_script"] sp) : PySem.Challenge.rw_halvedpictures_k04_texts_written_and_rea.Holds := by
  w_on; o_law
  refine HandSHeadRun.head_any (r := OpenLaw.row PySem.Challenge.rw_halvedpictures_k04_texts_written_and_rea) (q := TL.qv) (H := TL.hk) (ob := TL.ob) (M := 9000) (loose := TL.lo) (d := HandSHeadRun.topDef (OpenLaw.row PySem.Challenge.rw_halvedpictures_k04_texts_written_and_rea).prog 28) (kwd := []) TL.ob_eq
    (by kernel_rfl) (fun s => by kernel_rfl) TL.run (by kernel_rfl) (by kernel_rfl) (by kernel_rfl) (by rfl) (by first | assumption | decide +kernel) (by decide +kernel) ⟨rfl, rfl, rfl, rfl, rfl, by decide +kernel⟩ ?hw ?hc
  case hw => w_witness2
  case hc =>
    refine TL.walk_end (l := PySem.Challenge.rw_halvedpictures_k04_texts_written_and_rea) (n := 63) (k := 7) (x := "_law_script") rfl (by decide) (by kernel_rfl) ⟨rfl, by decide, by decide⟩ ?F
    intro w mg fa h Y G hmg0
    have hmg : mg ("law" : PySem.Str) = some (.ref fa) := by
      have e : (HandSHeadRun.topDef (OpenLaw.row PySem.Challenge.rw_halvedpictures_k04_texts_written_and_rea).prog 28).name = ("law" : PySem.Str) := by kernel_rfl
      rw [← e]
      exact hmg0
    exact F w mg fa h Y G hmg
end
/-! TL6: iterators, comprehensions, stores, methods of lists. -/
namespace TL
open PySem PySem.Spec PyProof.Rows L2
section
variable {A : Amb} {G H G' H' : Hp} {σ : L2.St} {env : Env} {P P' : Nat → As} {X X' : As} {v x y z : V} {t t1 t2 : T} {vs : List V} {as : List Ar} {ta tb te : TE} {r : R2} {ts : List T} {a b : Ar} {Post : T → Env → Prop} {nx bk ct : Env → Prop} {rt : T → Env → Prop}

theorem fixT (s : SR A G H σ env P) (m : Tmp A G H P t X v) : SR A (frzH G H X) H σ env P ∧ Stp G H (fun a => uP P a ∨ X a) (frzH G H X) H (uP P) ∧ Rep A.c (frzH G H X) t.data v := by
  have e1 : Ex G (frzH G H X) := frzH_ex s.le
  have rp : Rep A.c (frzH G H X) t.data v := m.tr.freeze e1 fun a o f e => by rw [frzH_in f]; exact e
  have st : Stp G H (fun a => uP P a ∨ X a) (frzH G H X) H (uP P) := ⟨e1, fun _ _ e _ => e, fun a z => .inl (.inl z), fun a z => by
    by_cases f : X a
    · exact .inr (.inl (.inr f))
    · rw [frzH_out f] at z; exact .inl z⟩
  have out : ∀ i a, P i a → frzH G H X a = none := fun i a z => by
    rw [frzH_out fun f => (m.fd a f).1 ⟨i, z⟩]
    exact (s.own i a z).1
  exact ⟨⟨⟨s.len, frzH_le s.le, fun i t e => by
    obtain ⟨w, hw, tw⟩ := s.slot i t e
    exact ⟨w, hw, tw.mono e1 (fun _ h => h) (fun _ _ _ e => e) fun a z => out i a z⟩, s.dis, fun i a z => ⟨out i a z, (s.own i a z).2⟩⟩, (m.stp s).trans st, s.kp⟩, st, rp⟩

/-! ### ranges -/
theorem itr_int (J : It) (n : Nat) (f : Nat → Int) (h1 : ∀ i H, n ≤ i → J.stop i H) (h2 : ∀ i H, i < n → J.go i H) (h3 : ∀ i H x H', J.yld i H x H' → H' = H ∧ x = .int (f i)) : ItR A G J n (fun i => .int (f i)) := fun G' H σ env P s e i =>
  ⟨fun e => h1 i H (Nat.le_of_eq e.symm), fun hi => ⟨h2 i H hi, fun x H' y => by
    obtain ⟨e1, e2⟩ := h3 i H x H' y
    subst e1
    exact ⟨G', s, Ex.refl _, Stp.refl, e2⟩⟩⟩
theorem itr_rng {lo : Int} {n : Nat} : ItR A G (Itr lo n) n (fun i => .int (lo + i)) := itr_int _ _ _ (fun _ _ h => h) (fun _ _ h => h) fun _ _ _ _ y => y
theorem itr_c {lo c : Int} {n : Nat} : ItR A G (Itc lo c n) n (fun i => .int (lo + i * c)) := itr_int _ _ _ (fun _ _ h => h) (fun _ _ h => h) fun _ _ _ _ y => y
theorem ArR.one {c : Cn} (h : ArR c G H σ [.t t] X vs) : ∃ v F1, vs = [v] ∧ (∀ a, F1 a → X a) ∧ TR c G H t F1 v := by
  obtain ⟨v, r, F1, F2, e, h1, h2, h3, h4⟩ := h
  cases h4
  exact ⟨v, F1, e, h1, h3⟩
theorem ArR.two {c : Cn} (h : ArR c G H σ [.t t1, .t t2] X vs) : ∃ v w F1 F2, vs = [v, w] ∧ TR c G H t1 F1 v ∧ TR c G H t2 F2 w := by
  obtain ⟨v, r, F1, F2, e, h1, h2, h3, h4⟩ := h
  obtain ⟨w, F3, e2, _, h5⟩ := h4.one
  subst e2
  exact ⟨v, w, F1, F3, e, h3, h5⟩
theorem ResA.drop {env' : Env} (r : ResA A G H (uP P) σ as env' vs G' H' P' X) : Stp G H (uP P) G' H' (uP P') := r.st.wk (fun _ h => h) fun _ z => .inl (.inl z)
theorem wi_rng1 {tr : TA} {Post : Nat → (Nat → D) → Env → Prop} (h : WA A tr env fun as e => ∃ o j, as = [.t (.frz o (.int j))] ∧ -(2 ^ 62) ≤ j ∧ j < 2 ^ 62 ∧ Post j.toNat (fun i => .int (0 + i)) e) : WI A (iRng1 tr) env Post := fun G H σ P s R k => by
  refine h G H σ P s _ fun as e vs G1 H1 P1 F1 p1 r1 => ?_
  obtain ⟨o, j, rfl, h1, h2, hp⟩ := p1
  obtain ⟨v, F2, rfl, _, tr⟩ := r1.tm.tr.one
  exact ⟨j, by rw [show v = .int j from tr.1], h1, h2, k _ _ _ _ _ _ _ hp r1.sr r1.drop itr_rng⟩
theorem wi_rng2 {tr : TA} {Post : Nat → (Nat → D) → Env → Prop} (h : WA A tr env fun as e => ∃ o o2 i j, as = [.t (.frz o (.int i)), .t (.frz o2 (.int j))] ∧ (-(2 ^ 62) ≤ i ∧ i < 2 ^ 62 ∧ -(2 ^ 62) ≤ j ∧ j < 2 ^ 62) ∧ Post (j - i).toNat (fun n => .int (i + n)) e) : WI A (iRng2 tr) env Post := fun G H σ P s R k => by
  refine h G H σ P s _ fun as e vs G1 H1 P1 F1 p1 r1 => ?_
  obtain ⟨o, o2, i, j, rfl, h1, hp⟩ := p1
  obtain ⟨v, w, F2, F3, rfl, tr1, tr2⟩ := r1.tm.tr.two
  exact ⟨i, j, by rw [show v = .int i from tr1.1, show w = .int j from tr2.1], h1, k _ _ _ _ _ _ _ hp r1.sr r1.drop itr_rng⟩
/-- over a list; one made on the way, or a name's own one, is fixed -/
theorem wi_list {tl : TE} {Post : Nat → (Nat → D) → Env → Prop} (h : WE A tl env fun t e => ∃ ds, t.data = .lst ds ∧ Post ds.length (fun i => ds.getD i .non) e) : WI A (iList A.c.K tl) env Post := fun G H σ P s R k => by
  refine h G H σ P s _ fun t e v G1 H1 P1 F1 p1 r1 => ?_
  obtain ⟨ds, hd, hp⟩ := p1
  obtain ⟨s2, st2, rp⟩ := fixT r1.sr r1.tm
  rw [hd] at rp
  obtain ⟨p, ws, rfl, hp2, hr⟩ := rp
  refine ⟨p, rfl, ⟨ws, SqL.of (s2.le _ _ hp2)⟩, k _ _ _ _ _ _ _ hp s2 (r1.st.trans st2) fun G' H' σ' env' P' s' ex i => ?_⟩
  have hq : SqL A.c.K H' p ws := SqL.of (s'.le _ _ (ex _ _ hp2))
  have hl := reps_len hr
  refine ⟨fun hi => ⟨ws, hq, by omega⟩, fun hi => ?_⟩
  obtain ⟨w, hw, rw_⟩ := reps_at hr (j := i) (d := ds.getD i .non) (by rw [List.getD_eq_getElem?_getD, List.getElem?_eq_getElem hi]; rfl)
  refine ⟨⟨ws, w, hq, hw⟩, fun x H2 y => ?_⟩
  obtain ⟨e1, y2⟩ := y
  subst e1
  have e2 := y2 ws hq
  rw [hw] at e2
  cases e2
  exact ⟨G', s', Ex.refl _, Stp.refl, rw_.mono ex⟩
/-- over a tuple -/
theorem wi_tup {tl : TE} {Post : Nat → (Nat → D) → Env → Prop} (h : WE A tl env fun t e => ∃ ds, t.data = .tup ds ∧ Post ds.length (fun i => ds.getD i .non) e) : WI A (iTup A.c.K tl) env Post := fun G H σ P s R k => by
  refine h G H σ P s _ fun t e v G1 H1 P1 F1 p1 r1 => ?_
  obtain ⟨ds, hd, hp⟩ := p1
  obtain ⟨s2, st2, rp⟩ := fixT r1.sr r1.tm
  rw [hd] at rp
  obtain ⟨p, ws, rfl, hp2, hr⟩ := rp
  refine ⟨p, rfl, ⟨ws, SqT.of (s2.le _ _ hp2)⟩, k _ _ _ _ _ _ _ hp s2 (r1.st.trans st2) fun G' H' σ' env' P' s' ex i => ?_⟩
  have hq : SqT A.c.K H' p ws := SqT.of (s'.le _ _ (ex _ _ hp2))
  have hl := reps_len hr
  refine ⟨fun hi => ⟨ws, hq, by omega⟩, fun hi => ?_⟩
  obtain ⟨w, hw, rw_⟩ := reps_at hr (j := i) (d := ds.getD i .non) (by rw [List.getD_eq_getElem?_getD, List.getElem?_eq_getElem hi]; rfl)
  refine ⟨⟨ws, w, hq, hw⟩, fun x H2 y => ?_⟩
  obtain ⟨e1, y2⟩ := y
  subst e1
  have e2 := y2 ws hq
  rw [hw] at e2
  cases e2
  exact ⟨G', s', Ex.refl _, Stp.refl, rw_.mono ex⟩
end
end TL
/-! TL7: comprehensions, targets, stores, methods of lists. -/
namespace TL
open PySem PySem.Spec PyProof.Rows L2
section
variable {A : Amb} {G H G' H' : Hp} {σ : L2.St} {env : Env} {P P' : Nat → As} {X X' X1 : As} {v x y z : V} {t t1 t2 : T} {vs : List V} {as : List Ar} {ta tb te : TE} {r : R2} {ts : List T} {a b : Ar} {Post : T → Env → Prop} {nx bk ct : Env → Prop} {rt : T → Env → Prop}

/-! ### one more item -/
theorem trs_app {c : Cn} : ∀ {ts us : List T} {F1 F2 F : As} {vs ws : List V}, TRs c G H ts F1 vs → TRs c G H us F2 ws → (∀ a, F1 a → F a) → (∀ a, F2 a → F a ∧ ¬ F1 a) → (∀ a, F a → G a = none) → TRs c G H (ts ++ us) F (vs ++ ws)
  | [], us, F1, F2, F, vs, ws, h, hb, _, h2, g => by
    cases h
    exact hb.mono (Ex.refl _) (fun a x => (h2 a x).1) (fun _ _ _ e => e) fun a x => g a (h2 a x).1
  | t :: r, us, F1, F2, F, vs, ws, ⟨v, r', X1, X2, e, h2, h3, h4, h5⟩, hb, k1, k2, g => by
    subst e
    refine ⟨v, r' ++ ws, X1, fun a => X2 a ∨ F2 a, rfl, fun a x => k1 a (h2 a x), fun a x => ?_, h4, trs_app h5 hb (fun a x => .inl x) (fun a x => ⟨.inr x, fun y => (k2 a x).2 (h3 a y).1⟩) fun a x => ?_⟩
    · rcases x with x | x
      · exact ⟨k1 a (h3 a x).1, (h3 a x).2⟩
      · exact ⟨(k2 a x).1, fun y => (k2 a x).2 (h2 a y)⟩
    · rcases x with x | x
      · exact g a (k1 a (h3 a x).1)
      · exact g a (k2 a x).1
/-- a list made on the way grows by things made on the way -/
theorem Tmp.grow {us : List T} {ws ws' : List V} {D : Addr} (m : Tmp A G H P (.lst ts) X (.ref D)) (n : TRs A.c G H us X1 ws) (fd : ∀ a, X1 a → ¬ uP P a ∧ G a = none ∧ H a ≠ none) (bs : ∀ a, X1 a → A.U a ∨ A.H a = none) (d : ∀ a, X1 a → ¬ X a) (hD : H D = some (.lst ws')) :
    Tmp A G (upd H D (.lst (ws' ++ ws))) P (.lst (ts ++ us)) (fun a => X a ∨ X1 a) (.ref D) := by
  obtain ⟨p, vs, F1, e, h1, h2, h3, h4, h5⟩ := m.tr
  cases e
  rw [hD] at h3
  cases h3
  have keep : ∀ a o, a ≠ D → H a = some o → upd H D (.lst (ws' ++ ws)) a = some o := fun a o ne e => by rw [upd_ne ne]; exact e
  have nn : ∀ a, H a ≠ none → upd H D (.lst (ws' ++ ws)) a ≠ none := fun a q => by
    by_cases e : a = D
    · subst e; rw [upd_same]; exact Option.some_ne_none _
    · rw [upd_ne e]; exact q
  have g : ∀ a, X a ∨ X1 a → G a = none := fun a z => by
    rcases z with z | z
    · exact (m.fd a z).2.1
    · exact (fd a z).2.1
  refine ⟨⟨D, _, fun a => F1 a ∨ X1 a, rfl, .inl h1, h2, upd_same, fun a z => ?_, ?_⟩, fun a z => ?_, fun a z => ?_⟩
  · rcases z with z | z
    · exact ⟨.inl (h4 a z).1, (h4 a z).2⟩
    · exact ⟨.inr z, fun e => d a z (by subst e; exact h1)⟩
  · refine trs_app (F1 := F1) (F2 := X1) (h5.mono (Ex.refl _) (fun _ z => z) (fun a o z e => keep a o (h4 a z).2 e) fun a z => g a (.inl (h4 a z).1)) (n.mono (Ex.refl _) (fun _ z => z) (fun a o z e => keep a o (fun q => d a z (by subst q; exact h1)) e) fun a z => g a (.inr z)) (fun a z => .inl z) (fun a z => ⟨.inr z, fun y => d a z (h4 a y).1⟩) fun a z => ?_
    rcases z with z | z
    · exact g a (.inl (h4 a z).1)
    · exact g a (.inr z)
  · rcases z with z | z
    · exact ⟨(m.fd a z).1, (m.fd a z).2.1, nn a (m.fd a z).2.2⟩
    · exact ⟨(fd a z).1, (fd a z).2.1, nn a (fd a z).2.2⟩
  · rcases z with z | z
    · exact m.bs a z
    · exact bs a z
/-- a cell of what was made on the way is written -/
theorem SR.write (s : SR A G H σ env P) {D : Addr} {o : HO} (h1 : ¬ uP P D) (h2 : G D = none) (h3 : H D ≠ none) (h4 : A.U D ∨ A.H D = none) : SR A G (upd H D o) σ env P := by
  have ne : ∀ i a, P i a → a ≠ D := fun i a z e => by subst e; exact h1 ⟨i, z⟩
  refine ⟨⟨s.len, fun a u e => ?_, fun i t e => ?_, s.dis, fun i a z => ⟨(s.own i a z).1, by rw [upd_ne (ne i a z)]; exact (s.own i a z).2⟩⟩, ⟨s.base.g, fun a u e n => ?_, s.base.n, s.base.m⟩, s.kp⟩
  · by_cases q : a = D
    · subst q; rw [h2] at e; cases e
    · rw [upd_ne q]; exact s.le _ _ e
  · obtain ⟨w, hw, tw⟩ := s.slot i t e
    exact ⟨w, hw, tw.mono (Ex.refl _) (fun _ h => h) (fun a u z e => by rw [upd_ne (ne i a z)]; exact e) fun a z => (s.own i a z).1⟩
  · by_cases q : a = D
    · subst q
      rcases h4 with z | z
      · exact absurd z n
      · rw [z] at e; cases e
    · rw [upd_ne q]; exact s.base.h a u e n
theorem Stp.write {D : Addr} {o : HO} {U : As} (h : U D) (h3 : H D ≠ none) : Stp G H U G (upd H D o) U := ⟨Ex.refl _, fun a u e n => by
  rw [upd_ne fun (q : a = D) => n (q ▸ h)]; exact e, fun a z => .inl z, fun a z => .inl z⟩

/-! ### comprehensions -/
/-- the slots of the block's own names forgotten -/
def wipeE (env : Env) : List Nat → Env
  | [] => env
  | v :: vs => (wipeE env vs).set v none
theorem wipeE_len (env : Env) : ∀ vs, (wipeE env vs).length = env.length
  | [] => rfl
  | v :: vs => by unfold wipeE; rw [List.length_set, wipeE_len env vs]
theorem wipeE_some {i : Nat} : ∀ {vs : List Nat}, (wipeE env vs)[i]? = some (some t) → env[i]? = some (some t) ∧ i ∉ vs
  | [], h => ⟨h, List.not_mem_nil⟩
  | v :: vs, h => by
    unfold wipeE at h
    by_cases e : v = i
    · subst e
      rw [List.getElem?_set] at h
      split at h
      · split at h
        · cases h
        · cases h
      · exact absurd rfl ‹_›
    · rw [List.getElem?_set_ne e] at h
      obtain ⟨h1, h2⟩ := wipeE_some (vs := vs) h
      exact ⟨h1, fun z => by
        rcases List.mem_cons.mp z with z | z
        · exact e z.symm
        · exact h2 z⟩
theorem wipe_at {i : Nat} : ∀ {vs : List Nat}, i ∉ vs → (wipe σ vs)[i]? = σ[i]?
  | [], _ => rfl
  | v :: vs, h => by
    unfold wipe
    rw [List.getElem?_set_ne fun (e : v = i) => h (e ▸ List.mem_cons_self)]
    exact wipe_at fun z => h (List.mem_cons_of_mem _ z)
theorem wipe_in {i : Nat} (hi : i < σ.length) : ∀ {vs : List Nat}, i ∈ vs → (wipe σ vs)[i]? = some none
  | v :: vs, h => by
    unfold wipe
    by_cases e : v = i
    · subst e
      rw [List.getElem?_set_self (by rw [wipe_length]; exact hi)]
    · rw [List.getElem?_set_ne e]
      rcases List.mem_cons.mp h with z | z
      · exact absurd z.symm e
      · exact wipe_in hi z
theorem wipe_ext {σ2 : L2.St} {vs : List Nat} (hl : σ2.length = σ.length) (h : ∀ j, ¬ j ∈ vs → σ2[j]? = (wipe σ vs)[j]?) : wipe σ2 vs = wipe σ vs := by
  refine List.ext_getElem? fun j => ?_
  by_cases hj : j ∈ vs
  · by_cases hi : j < σ.length
    · rw [wipe_in (by rw [hl]; exact hi) hj, wipe_in hi hj]
    · rw [List.getElem?_eq_none (by rw [wipe_length, hl]; omega), List.getElem?_eq_none (by rw [wipe_length]; omega)]
  · rw [wipe_at hj, h j hj]
theorem SR.wiped (s : SR A G H σ env P) (ws : List Nat) (hk : ∀ i ∈ A.keep, i ∉ ws) : SR A G H (wipe σ ws) (wipeE env ws) (fun j a => P j a ∧ j ∉ ws) where
  len := by rw [wipe_length, wipeE_len]; exact s.len
  le := s.le
  slot := fun i t e => by
    obtain ⟨h1, h2⟩ := wipeE_some e
    obtain ⟨w, hw, tw⟩ := s.slot i t h1
    exact ⟨w, by rw [wipe_at h2]; exact hw, tw.mono (Ex.refl _) (fun a z => ⟨z, h2⟩) (fun _ _ _ e => e) fun a z => (s.own i a z).1⟩
  dis := fun i j a h h' => s.dis i j a h.1 h'.1
  own := fun i a h => s.own i a h.1
  base := s.base.wk (fun _ h => h) fun a ⟨j, z⟩ => .inl ⟨j, z.1⟩
  kp := fun i hi => by rw [wipe_at (hk i hi)]; exact s.kp i hi
/-- behind a comprehension a name that it has bound too holds what it held, if that was fixed -/
def restore (e0 : Env) : List Nat → Env → Env
  | [], e => e
  | v :: vs, e => (restore e0 vs e).set v (match e0[v]? with
    | some (some t) => frzO t
    | _ => none)
theorem restore_len (e0 : Env) (e : Env) : ∀ vs, (restore e0 vs e).length = e.length
  | [] => rfl
  | v :: vs => by unfold restore; rw [List.length_set, restore_len e0 e vs]
theorem restore_some {e0 e : Env} {i : Nat} : ∀ {vs : List Nat}, (restore e0 vs e)[i]? = some (some t) → (i ∉ vs ∧ e[i]? = some (some t)) ∨ (∃ ov d, t = .frz ov d ∧ e0[i]? = some (some t))
  | [], h => .inl ⟨List.not_mem_nil, h⟩
  | v :: vs, h => by
    unfold restore at h
    by_cases e' : v = i
    · subst e'
      rw [List.getElem?_set] at h
      simp only [if_true] at h
      split at h
      · have h2 := Option.some.inj h
        split at h2
        · rename_i u hu
          cases u <;> simp [frzO] at h2
          subst h2
          exact .inr ⟨_, _, rfl, hu⟩
        · cases h2
      · cases h
    · rw [List.getElem?_set_ne e'] at h
      rcases restore_some (vs := vs) h with ⟨h1, h2⟩ | h1
      · refine .inl ⟨fun z => ?_, h2⟩
        rcases List.mem_cons.mp z with z | z
        · exact e' z.symm
        · exact h1 z
      · exact .inr h1
theorem we_lc {wi : TI} {g : TG} {tt : TT} {ws : List Nat} (hk : (A.keep.all fun i => !ws.contains i) = true)
    (h : WI A wi env fun n it e0 => n ≤ 100000 ∧ ∃ Inv : Nat → List T → Env → Prop, Inv 0 [] (wipeE e0 ws) ∧
      (∀ i acc e, i < n → acc.length ≤ i → Inv i acc e → WG A (fun j => j ∈ ws) g (.frz none (it i)) e fun e1 => WT A tt e1 fun b e2 => (b = true → WE A te e2 fun t e3 => Inv (i + 1) (acc ++ [t]) (wipeE e3 ws)) ∧ (b = false → Inv (i + 1) acc (wipeE e2 ws))) ∧
      ∀ acc e, acc.length ≤ n → Inv n acc e → Post (.lst acc) (restore e0 ws e)) : WE A (tLc wi g tt te ws) env Post := fun G H σ P s Q k => by
  have hk' : ∀ i ∈ A.keep, i ∉ ws := fun i hi z => by
    have := List.all_eq_true.mp hk i hi
    rw [List.contains_iff_mem.mpr z] at this
    cases this
  refine h G H σ P s _ fun n it e0 J G1 H1 P1 q s1 st1 itr => ?_
  obtain ⟨hn, Inv, h0, hs, hd⟩ := q
  intro D hD
  -- the state between two turns
  let PV : Nat → Hp → Prop := fun i H2 => ∃ acc e G2 P2 X2 accv, Inv i acc e ∧ acc.length ≤ i ∧ SR A G2 H2 (wipe σ ws) e P2 ∧ Tmp A G2 H2 P2 (.lst acc) X2 (.ref D) ∧ Stp G1 H1 (uP P1) G2 H2 (fun a => uP P2 a ∨ X2 a) ∧ H2 D = some (.lst accv) ∧ accv.length = acc.length
  have s1w := s1.wiped ws hk'
  refine ⟨fun i m H2 => m = n - i ∧ i ≤ n ∧ PV i H2, ⟨n, by simp, Nat.zero_le _, ?_⟩, ?_⟩
  · have r := alloc_lst (ts := []) (X := noF) (vs := []) s1w rfl (fun _ z => z.elim) (fun _ z => z.elim) hD
    refine ⟨[], _, G1, _, _, [], h0, Nat.le_refl _, r.sr, r.tm, (r.st.wk (V := uP P1) (fun a z => ?_) fun a z => .inl z), upd_same, rfl⟩
    rcases z with ⟨j, z⟩ | z
    · exact ⟨j, z.1⟩
    · exact z.elim
  · rintro i m H2 ⟨rfl, hi, acc, e2, G2, P2, X2, accv, q2, la, s2, m2, st2, hD2, lv⟩
    have x12 : Ex G1 G2 := st2.g
    obtain ⟨stop, go⟩ := itr G2 H2 (wipe σ ws) e2 P2 s2 x12 i
    by_cases hlt : i < n
    · obtain ⟨g1, yl⟩ := go hlt
      refine .inr ⟨g1, PV (i + 1), fun H' p' => ⟨n - (i + 1), by omega, rfl, hlt, p'⟩, fun x H' y => ?_⟩
      obtain ⟨G3, s3, x3, st3, rp⟩ := yl x H' y
      have m3 := m2.carry (F' := noF) (st3.wk (V1 := fun a => uP P2 a ∨ noF a) (fun _ h => h) fun a z => by
        rcases z with z | z
        · exact .inl z
        · exact z.elim)
      refine hs i acc e2 hlt la q2 G3 H' (wipe σ ws) P2 x noF s3 (.flat rp fun _ z => nomatch z) _ fun e4 G4 H4 σ4 P4 q4 s4 st4 l4 w4 => ?_
      have st4' : Stp G3 H' (uP P2) G4 H4 (uP P4) := ⟨st4.g, fun a o e u => st4.h a o e fun z => by
        rcases z with z | z
        · exact u z
        · exact z.elim, fun a z => by
        rcases st4.n a z with (z | z) | z
        · exact .inl z
        · exact z.elim
        · exact .inr z, fun a z => by
        rcases st4.m a z with z | (z | z) | z
        · exact .inl z
        · exact .inr (.inl z)
        · exact z.elim
        · exact .inr (.inr z)⟩
      have weq : wipe σ4 ws = wipe σ ws := wipe_ext (by rw [l4, wipe_length]) w4
      refine ⟨weq, ?_⟩
      have m4 := m3.carry (F' := noF) (st4'.wk (V1 := fun a => uP P4 a ∨ noF a) (fun _ h => h) fun a z => by
        rcases z with z | z
        · exact .inl z
        · exact z.elim)
      have st24 : Stp G2 H2 (uP P2) G4 H4 (uP P4) := st3.trans st4'
      refine q4 G4 H4 σ4 P4 s4 _ fun b e5 G5 H5 P5 q5 s5 st5 => ?_
      have m5 := m4.carry (F' := noF) (st5.wk (V1 := fun a => uP P5 a ∨ noF a) (fun _ h => h) fun a z => by
        rcases z with z | z
        · exact .inl z
        · exact z.elim)
      have st25 := st24.trans st5
      cases b with
      | false =>
        have s5w := s5.wiped ws hk'
        rw [weq] at s5w
        have hd5 : ∃ accv', H5 D = some (.lst accv') ∧ accv'.length = acc.length := by
          obtain ⟨p, vs, F1, e, _, _, h3, _, h5⟩ := m5.tr
          cases e
          exact ⟨vs, h3, trs_len h5⟩
        obtain ⟨accv', hv1, hv2⟩ := hd5
        refine ⟨acc, _, G5, _, X2, accv', q5.2 rfl, by omega, s5w, ⟨m5.tr, fun a z => ⟨fun ⟨j, y⟩ => (m5.fd a z).1 ⟨j, y.1⟩, (m5.fd a z).2⟩, m5.bs⟩, (st2.trans (st25.frame X2)).wk (fun _ h => h) fun a z => ?_, hv1, hv2⟩
        rcases z with ⟨j, z⟩ | z
        · exact .inl (.inl ⟨j, z.1⟩)
        · exact .inl (.inr z)
      | true =>
        refine q5.1 rfl G5 H5 σ4 P5 s5 _ fun t e6 y G6 H6 P6 F6 q6 r6 => ?_
        have m6 := m5.carry r6.st
        have dis := (beside r6.st m5.fd).2.2
        have hd6 : ∃ accv', H6 D = some (.lst accv') ∧ accv'.length = acc.length ∧ X2 D := by
          obtain ⟨p, vs, F1, e, hp1, _, h3, _, h5⟩ := m6.tr
          cases e
          exact ⟨vs, h3, trs_len h5, hp1⟩
        obtain ⟨accv', hv1, hv2, hX⟩ := hd6
        refine ⟨accv', hv1, by rw [hv2, sizeLine_eq]; omega, ?_⟩
        have one : TRs A.c G6 H6 [t] F6 [y] := ⟨y, [], F6, noF, rfl, fun _ h => h, fun _ z => z.elim, r6.tm.tr, rfl⟩
        have m7 := m6.grow one r6.tm.fd r6.tm.bs dis hv1
        have s7 := (r6.sr.write (o := .lst (accv' ++ [y])) (m6.fd D hX).1 (m6.fd D hX).2.1 (m6.fd D hX).2.2 (m6.bs D hX)).wiped ws hk'
        rw [weq] at s7
        refine ⟨acc ++ [t], _, G6, _, _, _, q6, by rw [List.length_append, List.length_singleton]; omega, s7, ⟨m7.tr, fun a z => ⟨fun ⟨j, y⟩ => (m7.fd a z).1 ⟨j, y.1⟩, (m7.fd a z).2⟩, m7.bs⟩, ?_, upd_same, by rw [List.length_append, List.length_append, hv2]; rfl⟩
        have stA : Stp G1 H1 (uP P1) G6 H6 (fun a => (uP P6 a ∨ F6 a) ∨ X2 a) := (st2.trans (st25.frame X2)).trans (r6.st.frame X2)
        refine (stA.trans (Stp.write (.inr hX) (m6.fd D hX).2.2)).wk (fun _ h => h) fun a z => ?_
        rcases z with ⟨j, z⟩ | z | z
        · exact .inl (.inl (.inl ⟨j, z.1⟩))
        · exact .inl (.inr z)
        · exact .inl (.inl (.inr z))
    · have e : i = n := by omega
      subst e
      refine .inl ⟨stop rfl, ?_⟩
      -- the names hold again what they held
      have hres : SR A G2 H2 σ (restore e0 ws e2) (fun j a => P2 j a ∧ j ∉ ws) := by
        refine ⟨⟨?_, s2.le, fun j u eu => ?_, fun i j a h h' => s2.dis i j a h.1 h'.1, fun j a h => s2.own j a h.1⟩, s2.base.wk (fun _ h => h) fun a ⟨j, z⟩ => .inl ⟨j, z.1⟩, fun j hj => ?_⟩
        · rw [restore_len, ← s2.len, wipe_length]
        · rcases restore_some eu with ⟨h1, h2⟩ | ⟨ov, d, rfl, h1⟩
          · obtain ⟨w, hw, tw⟩ := s2.slot j u h2
            rw [wipe_at h1] at hw
            exact ⟨w, hw, tw.mono (Ex.refl _) (fun a z => ⟨z, h1⟩) (fun _ _ _ e => e) fun a z => (s2.own j a z).1⟩
          · obtain ⟨w, hw, tw⟩ := s1.slot j _ h1
            exact ⟨w, hw, tw.1.mono x12, tw.2⟩
        · have := s2.kp j hj
          rw [wipe_at (hk' j hj)] at this
          exact this
      refine k (.lst acc) _ (.ref D) G2 H2 _ X2 (hd acc e2 la q2) ⟨hres, (st1.trans st2).wk (fun _ h => h) fun a z => ?_, ⟨m2.tr, fun a z => ⟨fun ⟨j, y⟩ => (m2.fd a z).1 ⟨j, y.1⟩, (m2.fd a z).2⟩, m2.bs⟩⟩
      rcases z with ⟨j, z⟩ | z
      · exact .inl (.inl ⟨j, z.1⟩)
      · exact .inl (.inr z)
end
end TL
/-! TL8: targets, stores, methods of lists, slices. -/
namespace TL
open PySem PySem.Spec PyProof.Rows L2
section
variable {A : Amb} {G H G' H' : Hp} {σ : L2.St} {env : Env} {P P' : Nat → As} {X X' X1 : As} {v x y z : V} {t t1 t2 : T} {vs : List V} {as : List Ar} {ta tb te : TE} {r : R2} {ts : List T} {a b : Ar} {Post : T → Env → Prop} {nx bk ct : Env → Prop} {rt : T → Env → Prop}

/-! ### targets -/
def WGs (A : Amb) (W : Nat → Prop) (g : TGs) (ds : List D) (env : Env) (Post : Env → Prop) : Prop := ∀ G H σ P vs, SR A G H σ env P → Reps A.c G ds vs → ∀ Q : L2.St → Hp → Prop,
  (∀ env' G' H' σ' P', Post env' → SR A G' H' σ' env' P' → Stp G H (uP P) G' H' (uP P') → σ'.length = σ.length → (∀ j, ¬ W j → σ'[j]? = σ[j]?) → Q σ' H') → g vs σ H Q
theorem wgs_nil {W : Nat → Prop} {Post : Env → Prop} (h : Post env) : WGs A W gNil [] env Post := fun G H σ P vs s rp Q k => ⟨rp, k _ G H σ P h s Stp.refl rfl fun _ _ => rfl⟩
theorem noF_stp {U U' : As} (S : Stp G H (fun a => U a ∨ noF a) G' H' U') : Stp G H U G' H' U' := ⟨S.g, fun a o e n => S.h a o e fun z => by
    rcases z with z | z
    · exact n z
    · exact z.elim, fun a z => by
    rcases S.n a z with (z | z) | z
    · exact .inl z
    · exact z.elim
    · exact .inr z, fun a z => by
    rcases S.m a z with z | (z | z) | z
    · exact .inl z
    · exact .inr (.inl z)
    · exact z.elim
    · exact .inr (.inr z)⟩
theorem wgs_cons {W : Nat → Prop} {g : TG} {gs : TGs} {d : D} {ds : List D} {Post : Env → Prop} (h : WG A W g (.frz none d) env fun e => WGs A W gs ds e Post) : WGs A W (gCons g gs) (d :: ds) env Post := fun G H σ P vs s ⟨v, r, e, h1, h2⟩ Q k => by
  refine ⟨v, r, e, h G H σ P v noF s (.flat h1 fun _ z => nomatch z) _ fun e1 G1 H1 σ1 P1 q1 s1 st1 l1 w1 => ?_⟩
  refine q1 G1 H1 σ1 P1 r s1 (h2.mono st1.g) Q fun e2 G2 H2 σ2 P2 q2 s2 st2 l2 w2 => ?_
  exact k e2 G2 H2 σ2 P2 q2 s2 ((noF_stp st1).trans st2) (l2.trans l1) fun j hj => (w2 j hj).trans (w1 j hj)
theorem wg_tup {W : Nat → Prop} {n : Nat} {gs : TGs} {ov : Option V} {ds : List D} {Post : Env → Prop} (hn : ds.length = n) (h : WGs A W gs ds env Post) : WG A W (gTup A.c.K n gs) (.frz ov (.tup ds)) env Post := fun G H σ P v X s m Q k => by
  obtain ⟨⟨a, ws, e1, e2, e3⟩, _⟩ := m.tr
  exact ⟨a, ws, e1, SqT.of (s.le _ _ e2), by rw [reps_len e3, hn], h G H σ P ws s e3 Q fun e G' H' σ' P' q s' st l w => k e G' H' σ' P' q s' (st.wk (fun _ z => .inl z) fun _ z => .inl z) l w⟩
/-- a, b = e1, e2 -/
theorem ws_par {i j : Nat} {tr : TA} (hi : i < env.length) (hj : j < env.length) (h : WA A tr env fun as e => ∃ t1 t2, as = [.t t1, .t t2] ∧ e.length = env.length ∧ A.keep.contains i = false ∧ A.keep.contains j = false ∧ nx ((e.set i (some t1)).set j (some t2))) :
    WS A (tPar i j tr) env nx rt bk ct := fun G H σ P s D nx rt bk ct => by
  refine h G H σ P s _ fun as e vs G1 H1 P1 F1 p1 r1 => ?_
  obtain ⟨t1, t2, rfl, hl, k1, k2, hp⟩ := p1
  obtain ⟨v, r, Fa, Fb, e1, h1, h2, h3, h4⟩ := r1.tm.tr
  obtain ⟨w, Fc, e2, h5, h6⟩ := h4.one
  subst e2
  refine ⟨v, w, e1, ?_⟩
  have m1 : Tmp A G1 H1 P1 t1 Fa v := ⟨h3, fun a z => r1.tm.fd a (h1 a z), fun a z => r1.tm.bs a (h1 a z)⟩
  have s1 := r1.sr.put m1 i (by omega) (fun z => by rw [List.contains_iff_mem.mpr z] at k1; cases k1)
  have m2 : Tmp A G1 H1 (fun k a => if k = i then Fa a else P1 k a) t2 Fc w := ⟨h6, fun a z => ⟨fun ⟨k, y⟩ => ?_, (r1.tm.fd a (h2 a (h5 a z)).1).2⟩, fun a z => r1.tm.bs a (h2 a (h5 a z)).1⟩
  · have s2 := s1.put m2 j (by rw [List.length_set]; omega) (fun z => by rw [List.contains_iff_mem.mpr z] at k2; cases k2)
    exact nx _ _ _ _ _ hp s2 r1.st.g
  · by_cases e : k = i <;> simp only [e, if_true, if_false] at y
    · exact (h2 a (h5 a z)).2 y
    · exact (r1.tm.fd a (h2 a (h5 a z)).1).1 ⟨k, y⟩

/-! ### what a name holds as its own is changed in its place -/
theorem SR.modify (s : SR A G H σ env P) {n : Nat} {t0 t1 : T} {v : V} (he : env[n]? = some (some t0)) (hv : σ[n]? = some (some v)) (fd : ∀ a, X a → ¬ uP P a ∧ G a = none ∧ H a ≠ none) (bs : ∀ a, X a → A.U a ∨ A.H a = none)
    (tr : TR A.c G H' t1 (fun a => P n a ∨ X a) v) (keep : ∀ a o, ¬ P n a → H a = some o → H' a = some o) (nn : ∀ a, P n a → H' a ≠ none) :
    SR A G H' σ (env.set n (some t1)) (fun j a => P j a ∨ (j = n ∧ X a)) ∧ Stp G H (fun a => uP P a ∨ X a) G H' (uP fun j a => P j a ∨ (j = n ∧ X a)) := by
  have nP : ∀ a, uP P a → H' a ≠ none := fun a ⟨j, z⟩ => by
    by_cases q : P n a
    · exact nn a q
    · cases q2 : H a with
      | none => exact absurd q2 (s.own j a z).2
      | some o => rw [keep a o q q2]; exact Option.some_ne_none _
  have nX : ∀ a, X a → H' a ≠ none := fun a z => by
    cases q2 : H a with
    | none => exact absurd q2 (fd a z).2.2
    | some o => rw [keep a o (fun q => (fd a z).1 ⟨n, q⟩) q2]; exact Option.some_ne_none _
  have st : Stp G H (fun a => uP P a ∨ X a) G H' (uP fun j a => P j a ∨ (j = n ∧ X a)) := ⟨Ex.refl _, fun a o e u => keep a o (fun q => u (.inl ⟨n, q⟩)) e, fun a ⟨j, z⟩ => by
    rcases z with z | z
    · exact .inl (.inl ⟨j, z⟩)
    · exact .inl (.inr z.2), fun a z => .inl z⟩
  have b : Stp A.G A.H A.U G H (fun a => uP P a ∨ X a) := ⟨s.base.g, s.base.h, fun a z => by
    rcases z with z | z
    · exact s.base.n a z
    · exact bs a z, s.base.m⟩
  refine ⟨⟨⟨by rw [List.length_set]; exact s.len, fun a o e => ?_, fun j u e => ?_, fun i j a h h' => ?_, fun j a h => ?_⟩, b.trans st, s.kp⟩, st⟩
  · refine keep a o (fun q => ?_) (s.le _ _ e)
    rw [(s.own n a q).1] at e; cases e
  · by_cases ne : j = n
    · subst ne
      have hl : j < env.length := (List.getElem?_eq_some_iff.mp he).1
      rw [List.getElem?_set_self hl] at e
      cases e
      exact ⟨v, hv, tr.mono (Ex.refl _) (fun a z => by rcases z with z | z; exact .inl z; exact .inr ⟨rfl, z⟩) (fun _ _ _ e => e) fun a z => by
        rcases z with z | z
        · exact (s.own j a z).1
        · exact (fd a z).2.1⟩
    · rw [List.getElem?_set_ne (Ne.symm ne)] at e
      obtain ⟨w, hw, tw⟩ := s.slot j u e
      exact ⟨w, hw, tw.mono (Ex.refl _) (fun a z => .inl z) (fun a o z e => keep a o (fun q => ne (s.dis _ _ _ z q)) e) fun a z => (s.own j a z).1⟩
  · rcases h with h | ⟨e1, h⟩ <;> rcases h' with h' | ⟨e2, h'⟩
    · exact s.dis i j a h h'
    · exact absurd ⟨i, h⟩ (fd a h').1
    · exact absurd ⟨j, h'⟩ (fd a h).1
    · rw [e1, e2]
  · rcases h with h | ⟨e1, h⟩
    · exact ⟨(s.own j a h).1, nP a ⟨j, h⟩⟩
    · exact ⟨(fd a h).2.1, nX a h⟩
theorem trs_set {c : Cn} : ∀ {ts : List T} {F1 F2 F : As} {vs : List V} {j : Nat} {t : T} {v : V}, TRs c G H ts F1 vs → TR c G H t F2 v → (∀ a, F1 a → F a) → (∀ a, F2 a → F a ∧ ¬ F1 a) → (∀ a, F a → G a = none) → TRs c G H (ts.set j t) F (vs.set j v)
  | [], F1, F2, F, vs, j, t, v, h, _, _, _, _ => by cases h; exact rfl
  | u :: r, F1, F2, F, vs, 0, t, v, ⟨w, r', X1, X2, e, h2, h3, h4, h5⟩, hb, k1, k2, g => by
    subst e
    exact ⟨v, r', F2, X2, rfl, fun a x => (k2 a x).1, fun a x => ⟨k1 a (h3 a x).1, fun y => (k2 a y).2 (h3 a x).1⟩, hb, h5⟩
  | u :: r, F1, F2, F, vs, j + 1, t, v, ⟨w, r', X1, X2, e, h2, h3, h4, h5⟩, hb, k1, k2, g => by
    subst e
    refine ⟨w, r'.set j v, X1, fun a => X2 a ∨ F2 a, rfl, fun a x => k1 a (h2 a x), fun a x => ?_, h4, trs_set h5 hb (fun a x => .inl x) (fun a x => ⟨.inr x, fun y => (k2 a x).2 (h3 a y).1⟩) fun a x => ?_⟩
    · rcases x with x | x
      · exact ⟨k1 a (h3 a x).1, (h3 a x).2⟩
      · exact ⟨(k2 a x).1, fun y => (k2 a x).2 (h2 a y)⟩
    · rcases x with x | x
      · exact g a (k1 a (h3 a x).1)
      · exact g a (k2 a x).1
/-- a list that a name holds takes other items -/
theorem slot_list (s : SR A G H σ env P) {n : Nat} {ts us : List T} (he : env[n]? = some (some (.lst ts))) (fd : ∀ a, X a → ¬ uP P a ∧ G a = none ∧ H a ≠ none) (bs : ∀ a, X a → A.U a ∨ A.H a = none) :
    ∃ p vs F1, σ[n]? = some (some (.ref p)) ∧ H p = some (.lst vs) ∧ P n p ∧ (∀ a, F1 a → P n a ∧ a ≠ p) ∧ TRs A.c G H ts F1 vs ∧
      ∀ ws, (∀ H2, (∀ a o, a ≠ p → H a = some o → H2 a = some o) → TRs A.c G H2 us (fun a => F1 a ∨ X a) ws) →
        SR A G (upd H p (.lst ws)) σ (env.set n (some (.lst us))) (fun j a => P j a ∨ (j = n ∧ X a)) ∧ Stp G H (fun a => uP P a ∨ X a) G (upd H p (.lst ws)) (uP fun j a => P j a ∨ (j = n ∧ X a)) := by
  obtain ⟨v, hv, p, vs, F1, e1, h2, h3, h4, h5, h6⟩ := s.slot n _ he
  subst e1
  refine ⟨p, vs, F1, hv, h4, h2, h5, h6, fun ws hw => ?_⟩
  have keep : ∀ a o, a ≠ p → H a = some o → upd H p (.lst ws) a = some o := fun a o ne e => by rw [upd_ne ne]; exact e
  refine s.modify he hv fd bs (t1 := .lst us) ⟨p, ws, fun a => F1 a ∨ X a, rfl, .inl h2, h3, upd_same, fun a z => ?_, hw _ keep⟩ (fun a o n' e => keep a o (fun q => n' (q ▸ h2)) e) fun a z => ?_
  · rcases z with z | z
    · exact ⟨.inl (h5 a z).1, (h5 a z).2⟩
    · exact ⟨.inr z, fun e => (fd a z).1 ⟨n, by subst e; exact h2⟩⟩
  · by_cases q : a = p
    · subst q; rw [upd_same]; exact Option.some_ne_none _
    · rw [upd_ne q]; exact (s.own n a z).2

/-! ### xs[i] = e -/
theorem wg_sub {n : Nat} {ti : TE} {Post : Env → Prop} {W : Nat → Prop} (h : WE A ti env fun t2 e => ∃ o k, t2 = .frz o (.int k) ∧ ∃ ts j, e[n]? = some (some (.lst ts)) ∧ ixN ts.length k = some j ∧ Post (e.set n (some (.lst (ts.set j t))))) (hn : ∃ u, env[n]? = some (some u)) :
    WG A W (gSub (tVar n) ti rSetL) t env Post := fun G H σ P v X s m Q k => by
  obtain ⟨u, hu⟩ := hn
  obtain ⟨w, hw, _⟩ := s.slot n u hu
  refine ⟨w, hw, h G H σ P s _ fun t2 e1 v2 G1 H1 P1 F1 p1 r1 => ?_⟩
  obtain ⟨o, i, rfl, ts, j, he, hj, hp⟩ := p1
  have m1 := m.carry r1.st
  obtain ⟨q, ws, F2, hσ, hq, hPq, hF, tr, mk⟩ := slot_list r1.sr he m1.fd m1.bs (us := ts.set j t)
  rw [hw] at hσ
  cases hσ
  have hv2 : v2 = .int i := r1.tm.tr.1
  subst hv2
  refine ⟨q, ws, i, j, rfl, rfl, hq, by rw [trs_len tr]; exact hj, ?_⟩
  obtain ⟨s2, st2⟩ := mk (ws.set j v) fun H2 keep => trs_set (tr.mono (Ex.refl _) (fun _ z => z) (fun a o z e => keep a o (hF a z).2 e) fun a z => (r1.sr.own n a (hF a z).1).1)
    (m1.tr.mono (Ex.refl _) (fun _ z => z) (fun a o z e => keep a o (fun y => (m1.fd a z).1 ⟨n, by subst y; exact hPq⟩) e) fun a z => (m1.fd a z).2.1) (fun a z => .inl z) (fun a z => ⟨.inr z, fun y => (m1.fd a z).1 ⟨n, (hF a y).1⟩⟩) fun a z => by
      rcases z with z | z
      · exact (r1.sr.own n a (hF a z).1).1
      · exact (m1.fd a z).2.1
  refine k _ _ _ σ _ hp s2 ((r1.st.frame X).trans (st2.wk (V := fun a => (uP P1 a ∨ F1 a) ∨ X a) (fun a z => ?_) fun a z => .inl z)) rfl fun _ _ => rfl
  rcases z with z | z
  · exact .inl (.inl z)
  · exact .inr z

/-! ### methods of a list that a name holds -/
theorem ty_slot (s : SR A G H σ env P) {n : Nat} {ts : List T} (he : env[n]? = some (some (.lst ts))) : ∃ p vs, σ[n]? = some (some (.ref p)) ∧ H p = some (.lst vs) ∧ vs.length = ts.length := by
  obtain ⟨v, hv, p, vs, F1, e1, h2, h3, h4, h5, h6⟩ := s.slot n _ he
  subst e1
  exact ⟨p, vs, hv, h4, trs_len h6⟩
theorem we_append {n : Nat} {ts0 : List T} (h0 : env[n]? = some (some (.lst ts0))) {tr : TA} (h : WA A tr env fun as e => ∃ t ts, as = [.t t] ∧ e[n]? = some (some (.lst ts)) ∧ ts.length ≤ 1000000 ∧ Post N_ (e.set n (some (.lst (ts ++ [t]))))) :
    WE A (tBM A.c.K "list" rAppend (tVar n) tr) env Post := fun G H σ P s Q k => by
  obtain ⟨p0, vs0, hσ0, hp0, _⟩ := ty_slot s h0
  refine ⟨_, hσ0, .inl ⟨rfl, _, SqL.of hp0⟩, h G H σ P s _ fun as e1 vs G1 H1 P1 F1 p1 r1 => ?_⟩
  obtain ⟨t, ts, rfl, he, hl, hp⟩ := p1
  obtain ⟨y, F2, rfl, hF2, tr⟩ := r1.tm.tr.one
  obtain ⟨q, ws, F3, hσ, hq, hPq, hF, trs, mk⟩ := slot_list r1.sr he r1.tm.fd r1.tm.bs (us := ts ++ [t])
  rw [hσ0] at hσ
  cases hσ
  refine ⟨p0, ws, y, rfl, rfl, hq, by rw [trs_len trs, sizeLine_eq]; omega, ?_⟩
  obtain ⟨s2, st2⟩ := mk (ws ++ [y]) fun H2 keep => trs_app (F1 := F3) (F2 := F1) (trs.mono (Ex.refl _) (fun _ z => z) (fun a o z e => keep a o (hF a z).2 e) fun a z => (r1.sr.own n a (hF a z).1).1)
    ⟨y, [], F1, noF, rfl, fun _ z => z, fun _ z => z.elim, tr.mono (Ex.refl _) hF2 (fun a o z e => keep a o (fun y => (r1.tm.fd a (hF2 a z)).1 ⟨n, by subst y; exact hPq⟩) e) fun a z => (r1.tm.fd a (hF2 a z)).2.1, rfl⟩ (fun a z => .inl z) (fun a z => ⟨.inr z, fun y => (r1.tm.fd a z).1 ⟨n, (hF a y).1⟩⟩) fun a z => by
      rcases z with z | z
      · exact (r1.sr.own n a (hF a z).1).1
      · exact (r1.tm.fd a z).2.1
  exact k N_ _ .non _ _ _ noF hp ⟨s2, (r1.st.trans st2).wk (fun _ h => h) fun a z => by
    rcases z with z | z
    · exact .inl z
    · exact z.elim, .flat rfl fun _ z => nomatch z⟩
end
end TL
/-! TL9: calls of built-ins, comparisons, slices. -/
namespace TL
open PySem PySem.Spec PyProof.Rows L2

/-! ### plain data -/
mutual
def D.plain : D → Bool
  | .non => true | .bl _ => true | .int _ => true | .str _ => true
  | .lst ds => D.plains ds
  | .tup ds => D.plains ds
  | _ => false
def D.plains : List D → Bool
  | [] => true
  | d :: ds => d.plain && D.plains ds
end
mutual
def D.py : D → PyData
  | .non => .none | .bl b => .bool b | .int i => .int i | .str s => .str s
  | .lst ds => .list (D.pys ds)
  | .tup ds => .tuple (D.pys ds)
  | _ => .none
def D.pys : List D → List PyData
  | [] => []
  | d :: ds => d.py :: D.pys ds
end
mutual
theorem Rep.dp0 {c : Cn} {H : Hp} : ∀ (d : D) (v : V), Rep c H d v → d.plain = true → Dp c.K H v d.py
  | .non, v, h, _ => by have e : v = .non := h; rw [e]; exact .non
  | .bl b, v, h, _ => by have e : v = .bl b := h; rw [e]; exact .bl b
  | .int b, v, h, _ => by have e : v = .int b := h; rw [e]; exact .int b
  | .str b, v, h, _ => by have e : v = .str b := h; rw [e]; exact .str b
  | .lst ds, v, h, hp => by
    obtain ⟨a, vs, e, h1, h2⟩ := h
    rw [e]
    exact .lst (SqL.of h1) (Reps.dp0 ds vs h2 hp)
  | .tup ds, v, h, hp => by
    obtain ⟨a, vs, e, h1, h2⟩ := h
    rw [e]
    exact .tup (SqT.of h1) (Reps.dp0 ds vs h2 hp)
  | .dik _, _, _, hp => absurd (show false = true from hp) Bool.false_ne_true
  | .dit _, _, _, hp => absurd (show false = true from hp) Bool.false_ne_true
  | .ins _ _, _, _, hp => absurd (show false = true from hp) Bool.false_ne_true
  | .scr _, _, _, hp => absurd (show false = true from hp) Bool.false_ne_true
  | .oth _, _, _, hp => absurd (show false = true from hp) Bool.false_ne_true
theorem Reps.dp0 {c : Cn} {H : Hp} : ∀ (ds : List D) (vs : List V), Reps c H ds vs → D.plains ds = true → DpAll c.K H vs (D.pys ds)
  | [], vs, h, _ => by have e : vs = [] := h; rw [e]; exact .nil
  | d :: ds, vs, h, hp => by
    obtain ⟨v, r, e, h1, h2⟩ := h
    obtain ⟨p1, p2⟩ := Bool.and_eq_true_iff.mp (show (d.plain && D.plains ds) = true from hp)
    rw [e]
    exact .cons (Rep.dp0 d v h1 p1) (Reps.dp0 ds r h2 p2)
end
theorem Rep.dp {c : Cn} {H : Hp} {d : D} {v : V} (h : Rep c H d v) (p : d.plain = true) : Dp c.K H v d.py := Rep.dp0 d v h p
section
variable {A : Amb} {G H G' H' : Hp} {σ : L2.St} {env : Env} {P P' : Nat → As} {X X' X1 : As} {v x y z : V} {t t1 t2 : T} {vs : List V} {as : List Ar} {ta tb te : TE} {r : R2} {ts : List T} {a b : Ar} {Post : T → Env → Prop} {nx bk ct : Env → Prop} {rt : T → Env → Prop}

/-! ### == -/
theorem wr_eqA {d1 d2 : D} (h1 : arD env a = some d1) (h2 : arD env b = some d2) (p1 : d1.plain = true) (p2 : d2.plain = true) (s1 : SeqAt.shaped d1.py = true) (s2 : SeqAt.shaped d2.py = true) (q : Post (B (PyData.eqv d1.py d2.py)) env) : WR A (rEqA A.c.K) a b env Post :=
  wr_flat (d := .bl (PyData.eqv d1.py d2.py)) h1 h2 (fun _ => rfl) (fun H x y e1 e2 Q q => .inr ⟨_, _, e1.dp p1, e2.dp p2, s1, s2, q⟩) q
theorem wr_neA {d1 d2 : D} (h1 : arD env a = some d1) (h2 : arD env b = some d2) (p1 : d1.plain = true) (p2 : d2.plain = true) (s1 : SeqAt.shaped d1.py = true) (s2 : SeqAt.shaped d2.py = true) (q : Post (B (!PyData.eqv d1.py d2.py)) env) : WR A (rNeA A.c.K) a b env Post :=
  wr_flat (d := .bl (!PyData.eqv d1.py d2.py)) h1 h2 (fun _ => rfl) (fun H x y e1 e2 Q q => .inr ⟨_, _, e1.dp p1, e2.dp p2, s1, s2, q⟩) q
theorem wr_eq_int {i j : Int} {o1 o2 : Option V} (q : Post (B (decide (i = j))) env) : WR A (rEqA A.c.K) (.t (.frz o1 (.int i))) (.t (.frz o2 (.int j))) env Post :=
  wr_flat (d := .bl (decide (i = j))) rfl rfl (fun _ => rfl) (fun H x y e1 e2 Q q => by
    cases e1; cases e2
    refine .inl ⟨rfl, ?_⟩
    have e : decide (V.int i = V.int j) = decide (i = j) := by by_cases h : i = j <;> simp [h]
    rw [e]; exact q) q
theorem wr_ne_int {i j : Int} {o1 o2 : Option V} (q : Post (B (!decide (i = j))) env) : WR A (rNeA A.c.K) (.t (.frz o1 (.int i))) (.t (.frz o2 (.int j))) env Post :=
  wr_flat (d := .bl (!decide (i = j))) rfl rfl (fun _ => rfl) (fun H x y e1 e2 Q q => by
    cases e1; cases e2
    refine .inl ⟨rfl, ?_⟩
    have e : decide (V.int i = V.int j) = decide (i = j) := by by_cases h : i = j <;> simp [h]
    rw [e]; exact q) q
theorem wr_eq_bl {i j : Bool} {o1 o2 : Option V} (q : Post (B (decide (i = j))) env) : WR A (rEqA A.c.K) (.t (.frz o1 (.bl i))) (.t (.frz o2 (.bl j))) env Post :=
  wr_flat (d := .bl (decide (i = j))) rfl rfl (fun _ => rfl) (fun H x y e1 e2 Q q => by
    cases e1; cases e2
    refine .inl ⟨rfl, ?_⟩
    have e : decide (V.bl i = V.bl j) = decide (i = j) := by by_cases h : i = j <;> simp [h]
    rw [e]; exact q) q
theorem wr_ne_bl {i j : Bool} {o1 o2 : Option V} (q : Post (B (!decide (i = j))) env) : WR A (rNeA A.c.K) (.t (.frz o1 (.bl i))) (.t (.frz o2 (.bl j))) env Post :=
  wr_flat (d := .bl (!decide (i = j))) rfl rfl (fun _ => rfl) (fun H x y e1 e2 Q q => by
    cases e1; cases e2
    refine .inl ⟨rfl, ?_⟩
    have e : decide (V.bl i = V.bl j) = decide (i = j) := by by_cases h : i = j <;> simp [h]
    rw [e]; exact q) q
theorem wr_eq_str {i j : Str} {o1 o2 : Option V} (q : Post (B (decide (i = j))) env) : WR A (rEqA A.c.K) (.t (.frz o1 (.str i))) (.t (.frz o2 (.str j))) env Post :=
  wr_flat (d := .bl (decide (i = j))) rfl rfl (fun _ => rfl) (fun H x y e1 e2 Q q => by
    cases e1; cases e2
    refine .inl ⟨rfl, ?_⟩
    have e : decide (V.str i = V.str j) = decide (i = j) := by by_cases h : i = j <;> simp [h]
    rw [e]; exact q) q
theorem wr_ne_str {i j : Str} {o1 o2 : Option V} (q : Post (B (!decide (i = j))) env) : WR A (rNeA A.c.K) (.t (.frz o1 (.str i))) (.t (.frz o2 (.str j))) env Post :=
  wr_flat (d := .bl (!decide (i = j))) rfl rfl (fun _ => rfl) (fun H x y e1 e2 Q q => by
    cases e1; cases e2
    refine .inl ⟨rfl, ?_⟩
    have e : decide (V.str i = V.str j) = decide (i = j) := by by_cases h : i = j <;> simp [h]
    rw [e]; exact q) q

/-! ### len -/
abbrev rLenA (K : PySem.W.Frag) : List V → Hp → VK → Prop := fun xs H Q => ∃ x n, xs = [x] ∧ LenV K x H n ∧ Q (.int n) H
def D.len? : D → Option Nat
  | .lst ds => some ds.length
  | .tup ds => some ds.length
  | .scr ns => some ns.length
  | .str s => if s.length ≤ 1000000 then some s.length else none
  | _ => none
theorem wc_len {n : Nat} {d : D} (h : arD env a = some d) (hl : d.len? = some n) (q : Post (I n) env) : WC A (rLenA A.c.K) [a] env Post :=
  wc_flat (d := .int n) (ds := [d]) (by simp [h]) (fun _ => rfl) (fun H vs rp Q q => by
    obtain ⟨v, r, e, h1, h2⟩ := rp
    cases h2
    subst e
    cases d with
    | lst ds =>
      cases hl
      obtain ⟨p, ws, e, h1, h2⟩ := h1
      subst e
      exact ⟨_, _, rfl, .inl ⟨ws, SqL.of h1, (reps_len h2).symm⟩, q⟩
    | tup ds =>
      cases hl
      obtain ⟨p, ws, e, h1, h2⟩ := h1
      subst e
      exact ⟨_, _, rfl, .inr ⟨ws, SqT.of h1, (reps_len h2).symm⟩, q⟩
    | scr ns =>
      cases hl
      obtain ⟨p, e, h1⟩ := h1
      subst e
      exact ⟨_, _, rfl, .inl ⟨_, h1, by simp⟩, q⟩
    | str s =>
      simp only [D.len?] at hl
      split at hl
      · cases hl
        have e : v = .str s := h1
        subst e
        exact ⟨_, _, rfl, ⟨by rw [sizeLine_eq]; omega, rfl⟩, q⟩
      · cases hl
    | _ => cases hl) q

/-! ### isinstance -/
def D.tyn : D → Option String
  | .non => some "NoneType" | .bl _ => some "bool" | .int _ => some "int" | .str _ => some "str"
  | .lst _ => some "list" | .tup _ => some "tuple" | .dik _ => some "dict"
  | _ => none
theorem tyx {c : Cn} {d : D} {n : String} (h : Rep c H d v) (e : d.tyn = some n) : TyX c.K H v (.type n) := by
  cases d with
  | non => cases e; cases h; exact .base .non
  | bl b => cases e; cases h; exact .base (.bl b)
  | int b => cases e; cases h; exact .base (.int b)
  | str b => cases e; cases h; exact .base (.str b)
  | lst ds => cases e; obtain ⟨p, ws, e, h1, _⟩ := h; subst e; exact .base (.lst h1)
  | tup ds => cases e; obtain ⟨p, ws, e, h1, _⟩ := h; subst e; exact .base (.tup h1)
  | dik ds =>
    cases e; obtain ⟨p, ws, e, h1, _⟩ := h; subst e
    rcases h1 with h1 | ⟨o, h1⟩
    · exact .base (.dK h1)
    · exact .fDict h1
  | _ => cases e
/-- isinstance(x, T), T a built-in type -/
theorem wc_isi {n m : String} {d : D} {k : Bool} {o : Option V} (h : arD env a = some d) (ht : d.tyn = some n) (hk : kitB n m = some k) (q : Post (B k) env) : WC A (rIsi A.c.K) [a, .t (.frz o (.oth (.ty m)))] env Post :=
  wc_flat (d := .bl k) (ds := [d, .oth (.ty m)]) (by simp only [List.map_cons, List.map_nil, h]; rfl) (fun _ => rfl) (fun H vs rp Q q => by
    obtain ⟨v, r, e, h1, w, r', e2, h2, h3⟩ := rp
    cases h3
    cases h2
    subst e2 e
    exact ⟨v, .ty m, .type n, .type m, k, rfl, .ty m, tyx h1 ht, kit_ty hk, q⟩) q
/-- an instance: what its class says -/
theorem wc_isi_ins {k : Nat} {fs : List (Str × D)} {c : V} {u : Value} {bo : Bool} {o : Option V} (h : arD env a = some (.ins k fs)) (hc : ClsV c u) (hk : PySem.W.kitOne A.c.K (.ref (A.c.cls k)) u = some bo) (cl : Cls A.c.K (A.c.cls k))
    (f1 : PySem.W.findIn A.c.K (.ref (A.c.cls k)) "__class__" = some (some (.builtin "object.__class__"))) (f2 : PySem.W.specialIn A.c.K (.builtin "object.__class__") "__get__" = some (some (.builtin "getset_descriptor.__get__")))
    (f3 : PySem.W.takesIn A.c.K (.builtin "object.__class__") = some true) (f4 : PySem.W.mroIn A.c.K (A.c.cls k) (.type "object") = some true) (q : Post (B bo) env) : WC A (rIsi A.c.K) [a, .t (.frz o (.oth c))] env Post :=
  wc_flat (d := .bl bo) (ds := [.ins k fs, .oth c]) (by simp only [List.map_cons, List.map_nil, h]; rfl) (fun _ => rfl) (fun H vs rp Q q => by
    obtain ⟨v, r, e, h1, w, r', e2, h2, h3⟩ := rp
    cases h3
    cases h2
    subst e2 e
    obtain ⟨p, dx, gs, e3, h4, _⟩ := h1
    subst e3
    exact ⟨_, c, _, u, bo, rfl, hc, .base (.ins h4 cl f1 f2 f3 f4), hk, q⟩) q

/-! ### int, str, abs, max, min, list, tuple, repr -/
theorem wc_one {f : V → Hp → VK → Prop} {d d' : D} {v0 : V} {r : List V → Hp → VK → Prop} (h : arD env a = some d) (hv : ∀ G, Rep A.c G d' v0) (hr : ∀ H x, Rep A.c H d x → ∀ Q : VK, Q v0 H → r [x] H Q) (q : Post (.frz none d') env) : WC A r [a] env Post :=
  wc_flat (ds := [d]) (by simp [h]) hv (fun H vs rp Q q => by
    obtain ⟨v, r, e, h1, h2⟩ := rp
    cases h2
    subst e
    exact hr H v h1 Q q) q
theorem wc_two {d1 d2 d' : D} {v0 : V} {r : List V → Hp → VK → Prop} (h1 : arD env a = some d1) (h2 : arD env b = some d2) (hv : ∀ G, Rep A.c G d' v0) (hr : ∀ H x y, Rep A.c H d1 x → Rep A.c H d2 y → ∀ Q : VK, Q v0 H → r [x, y] H Q) (q : Post (.frz none d') env) : WC A r [a, b] env Post :=
  wc_flat (ds := [d1, d2]) (by simp [h1, h2]) hv (fun H vs rp Q q => by
    obtain ⟨v, r, e, h1, w, r', e2, h2, h3⟩ := rp
    cases h3
    subst e2 e
    exact hr H v w h1 h2 Q q) q
abbrev rAbs : List V → Hp → VK → Prop := fun xs H Q => ∃ i, xs = [.int i] ∧ Q (.int (if i < 0 then -i else i)) H
abbrev rMax2 : List V → Hp → VK → Prop := fun xs H Q => ∃ i j, xs = [.int i, .int j] ∧ Q (.int (if j > i then j else i)) H
abbrev rMin2 : List V → Hp → VK → Prop := fun xs H Q => ∃ i j, xs = [.int i, .int j] ∧ Q (.int (if j < i then j else i)) H
theorem wc_abs {i : Int} {o : Option V} (q : Post (I (if i < 0 then -i else i)) env) : WC A rAbs [.t (.frz o (.int i))] env Post :=
  wc_one (f := fun _ _ _ => True) (d := .int i) (d' := .int (if i < 0 then -i else i)) rfl (fun _ => rfl) (fun H x e Q q => ⟨i, by rw [show x = .int i from e], q⟩) q
theorem wc_max2 {i j : Int} {o o2 : Option V} (q : Post (I (if j > i then j else i)) env) : WC A rMax2 [.t (.frz o (.int i)), .t (.frz o2 (.int j))] env Post :=
  wc_two (d1 := .int i) (d2 := .int j) (d' := .int (if j > i then j else i)) rfl rfl (fun _ => rfl) (fun H x y e1 e2 Q q => ⟨i, j, by rw [show x = .int i from e1, show y = .int j from e2], q⟩) q
theorem wc_min2 {i j : Int} {o o2 : Option V} (q : Post (I (if j < i then j else i)) env) : WC A rMin2 [.t (.frz o (.int i)), .t (.frz o2 (.int j))] env Post :=
  wc_two (d1 := .int i) (d2 := .int j) (d' := .int (if j < i then j else i)) rfl rfl (fun _ => rfl) (fun H x y e1 e2 Q q => ⟨i, j, by rw [show x = .int i from e1, show y = .int j from e2], q⟩) q
abbrev rInt1 : List V → Hp → VK → Prop := fun xs H Q => (∃ i, xs = [.int i] ∧ Q (.int i) H) ∨ ∃ k, xs = [.bl k] ∧ Q (.int (if k then 1 else 0)) H
theorem wc_int_bl {k : Bool} {o : Option V} (q : Post (I (if k then 1 else 0)) env) : WC A rInt1 [.t (.frz o (.bl k))] env Post :=
  wc_one (f := fun _ _ _ => True) (d := .bl k) (d' := .int (if k then 1 else 0)) rfl (fun _ => rfl) (fun H x e Q q => .inr ⟨k, by rw [show x = .bl k from e], q⟩) q
abbrev rStr1 : List V → Hp → VK → Prop := fun xs H Q => ∃ i, xs = [.int i] ∧ i.natAbs.log2 < 1920 ∧ Q (.str (toString i)) H
theorem wc_str_int {i : Int} {o : Option V} (hi : i.natAbs.log2 < 1920) (q : Post (S (toString i)) env) : WC A rStr1 [.t (.frz o (.int i))] env Post :=
  wc_one (f := fun _ _ _ => True) (d := .int i) (d' := .str (toString i)) rfl (fun _ => rfl) (fun H x e Q q => ⟨i, by rw [show x = .int i from e], hi, q⟩) q
/-- what repr shows of data -/
def D.ok (d : D) : Prop := d.plain = true ∧ d.py.showable = true ∧ d.py.hasDict = false ∧ d.py.depth ≤ 100 ∧ d.py.shown.length ≤ sizeLine
theorem wc_repr {d : D} (h : arD env a = some d) (hd : d.ok) (q : Post (S d.py.shown) env) : WC A (rRepr A.c.K) [a] env Post :=
  wc_one (f := fun _ _ _ => True) (d' := .str d.py.shown) h (fun _ => rfl) (fun H x e Q q => ⟨x, d.py, rfl, e.dp hd.1, hd.2.1, hd.2.2.1, hd.2.2.2.1, hd.2.2.2.2, q⟩) q
/-- list(x) of a list or a tuple whose things are fixed -/
abbrev rListOf (K : PySem.W.Frag) : List V → Hp → VK → Prop := fun xs H Q => ∃ p ys, xs = [.ref p] ∧ (SqL K H p ys ∨ SqT K H p ys) ∧ ∀ l, H l = none → Q (.ref l) (upd H l (.lst ys))
theorem wc_list_frz {ov : Option V} {ds : List D} (q : Post (.lst (ds.map (T.frz none))) env) : WC A (rListOf A.c.K) [.t (.frz ov (.lst ds))] env Post := fun G H σ P vs X s m Q k => by
  obtain ⟨v, F1, rfl, _, tr⟩ := m.tr.one
  obtain ⟨⟨p, ws, rfl, h1, h2⟩, _⟩ := tr
  exact ⟨p, ws, rfl, .inl (SqL.of (s.le _ _ h1)), fun l hl => k _ _ _ _ _ _ _ q (alloc_frzs s h2 (fun _ z => .inl z) hl)⟩
theorem wc_list_tup {ov : Option V} {ds : List D} (q : Post (.lst (ds.map (T.frz none))) env) : WC A (rListOf A.c.K) [.t (.frz ov (.tup ds))] env Post := fun G H σ P vs X s m Q k => by
  obtain ⟨v, F1, rfl, _, tr⟩ := m.tr.one
  obtain ⟨⟨p, ws, rfl, h1, h2⟩, _⟩ := tr
  exact ⟨p, ws, rfl, .inr (SqT.of (s.le _ _ h1)), fun l hl => k _ _ _ _ _ _ _ q (alloc_frzs s h2 (fun _ z => .inl z) hl)⟩
/-- of one's own list that a name holds: its things fixed -/
theorem wc_list_slot {n : Nat} {ts : List T} {ds : List D} (he : env[n]? = some (some (.lst ts))) (hf : frzs ts = some ds) (q : Post (.lst (ds.map (T.frz none))) env) : WC A (rListOf A.c.K) [.s n] env Post := fun G H σ P vs X s m Q k => by
  obtain ⟨w, r', e, hw, e2⟩ := m.tr
  cases e2
  subst e
  obtain ⟨w2, hw2, p, ws, F4, e1, _, _, e2, h4, e3⟩ := s.slot n _ he
  rw [hw] at hw2
  cases hw2
  subst e1
  exact ⟨p, ws, rfl, .inl (SqL.of e2), fun l hl => k _ _ _ _ _ _ _ q (alloc_frzs s (frzs_rp hf e3) (fun _ z => .inl z) hl)⟩
abbrev rTupOf (K : PySem.W.Frag) : List V → Hp → VK → Prop := fun xs H Q => ∃ p ys, xs = [.ref p] ∧ ((SqL K H p ys ∧ ∀ l, H l = none → Q (.ref l) (upd H l (.tup ys))) ∨ (SqT K H p ys ∧ Q (.ref p) H))
theorem wc_tup_frz {ov : Option V} {ds : List D} (q : Post (.frz none (.tup ds)) env) : WC A (rTupOf A.c.K) [.t (.frz ov (.lst ds))] env Post := fun G H σ P vs X s m Q k => by
  obtain ⟨v, F1, rfl, _, tr⟩ := m.tr.one
  obtain ⟨⟨p, ws, rfl, h1, h2⟩, _⟩ := tr
  exact ⟨p, ws, rfl, .inl ⟨SqL.of (s.le _ _ h1), fun l hl => k _ _ _ _ _ _ _ q (alloc_tup s h2 (fun _ z => .inl z) hl)⟩⟩
theorem wc_tup_slot {n : Nat} {ts : List T} {ds : List D} (he : env[n]? = some (some (.lst ts))) (hf : frzs ts = some ds) (q : Post (.frz none (.tup ds)) env) : WC A (rTupOf A.c.K) [.s n] env Post := fun G H σ P vs X s m Q k => by
  obtain ⟨w, r', e, hw, e2⟩ := m.tr
  cases e2
  subst e
  obtain ⟨w2, hw2, p, ws, F4, e1, _, _, e2, h4, e3⟩ := s.slot n _ he
  rw [hw] at hw2
  cases hw2
  subst e1
  exact ⟨p, ws, rfl, .inl ⟨SqL.of e2, fun l hl => k _ _ _ _ _ _ _ q (alloc_tup s (frzs_rp hf e3) (fun _ z => .inl z) hl)⟩⟩
/-- a dict without things -/
theorem we_dictK (q : Post (.dik []) env) : WE A tDNewK env Post := fun G H σ P s Q k => fun p hp => by
  have r := s.beside_new (o := .dK []) hp
  refine k _ _ _ _ _ _ (fun a => a = p) q ⟨r, Stp.new hp, ⟨p, [], noF, rfl, rfl, s.gnone hp, upd_same, fun _ z => z.elim, rfl⟩, fun a z => ?_, fun a z => ?_⟩
  · subst z
    exact ⟨fun ⟨i, y⟩ => (s.own i a y).2 hp, s.gnone hp, by rw [upd_same]; exact Option.some_ne_none _⟩
  · subst z; exact s.bnew hp
end
end TL
/-! TX: defs by name. -/
namespace TL
open PySem PySem.Spec PyProof.Rows L2
theorem b_len : bootBuiltins "len" = some (.builtin "len") := by decide +kernel
theorem b_isinstance : bootBuiltins "isinstance" = some (.builtin "isinstance") := by decide +kernel
theorem b_max : bootBuiltins "max" = some (.builtin "max") := by decide +kernel
theorem b_min : bootBuiltins "min" = some (.builtin "min") := by decide +kernel
theorem b_abs : bootBuiltins "abs" = some (.builtin "abs") := by decide +kernel
theorem b_repr : bootBuiltins "repr" = some (.builtin "repr") := by decide +kernel
theorem b_sum : bootBuiltins "sum" = some (.builtin "sum") := by decide +kernel
theorem b_sorted : bootBuiltins "sorted" = some (.builtin "sorted") := by decide +kernel
theorem b_ord : bootBuiltins "ord" = some (.builtin "ord") := by decide +kernel
theorem b_divmod : bootBuiltins "divmod" = some (.builtin "divmod") := by decide +kernel
theorem b_int : bootBuiltins "int" = some (.type "int") := by decide +kernel
theorem b_str : bootBuiltins "str" = some (.type "str") := by decide +kernel
theorem b_bool : bootBuiltins "bool" = some (.type "bool") := by decide +kernel
theorem b_list : bootBuiltins "list" = some (.type "list") := by decide +kernel
theorem b_tuple : bootBuiltins "tuple" = some (.type "tuple") := by decide +kernel
theorem b_dict : bootBuiltins "dict" = some (.type "dict") := by decide +kernel
theorem b_set : bootBuiltins "set" = some (.type "set") := by decide +kernel
theorem b_ValueError : bootBuiltins "ValueError" = some (.type "ValueError") := by decide +kernel

/-- a def of the module by its name; Fo: whoever calls it -/
structure Fo (P : Program) (w : World) (K : PySem.W.Frag) (mg : Str → Option Value) (base : Heap) (k : Nat) (x : Str) (ps : List Str) (sp : Sp) : Prop where
  ex : ∃ f fd, mg x = some (.ref f) ∧ PySem.W.keepIn K (.ref f) = true ∧ Binds K fd ps [] ∧ FnOk P w K mg base CX0 k f fd ps sp
/-- Fg: whoever stands under no repr -/
structure Fg (P : Program) (w : World) (K : PySem.W.Frag) (mg : Str → Option Value) (base : Heap) (k : Nat) (x : Str) (ps : List Str) (sp : Sp) : Prop where
  ex : ∃ f fd, mg x = some (.ref f) ∧ PySem.W.keepIn K (.ref f) = true ∧ Binds K fd ps [] ∧ FnG P w K mg base k f fd ps sp
/-- a method -/
structure Fm (P : Program) (w : World) (K : PySem.W.Frag) (mg : Str → Option Value) (base : Heap) (k : Nat) (C : Addr) (m : Str) (ps : List Str) (sp : Sp) : Prop where
  ex : ∃ f fd, Cls K C ∧ Meth K C m f ∧ Binds K fd ps [] ∧ FnOk P w K mg base CX0 k f fd ps sp
/-- a class that is called -/
structure Fi (P : Program) (w : World) (K : PySem.W.Frag) (mg : Str → Option Value) (base : Heap) (k : Nat) (x : Str) (C : Addr) (ps : List Str) (sp : Sp) : Prop where
  ex : ∃ f fd, mg x = some (.ref C) ∧ Mk K C f ∧ Binds K fd ps [] ∧ FnOk P w K mg base CX0 k f fd ps sp
theorem Fo.g {P : Program} {w : World} {K : PySem.W.Frag} {mg : Str → Option Value} {base : Heap} {k : Nat} {x : Str} {ps : List Str} {sp : Sp} (h : Fo P w K mg base k x ps sp) : Fg P w K mg base k x ps sp := by
  obtain ⟨f, fd, h1, h2, h3, h4⟩ := h.ex
  exact ⟨f, fd, h1, h2, h3, .of h4⟩
section
variable {X : Cx} {k : Nat} {x m : Str} {C : Addr} {ps : List Str} {sp : Sp} {p pos apos : Pos} {e o : Expr} {es : List Expr} {t : TA} {to : TE}
theorem pe_o (h : Fo X.prog X.w X.K X.mg X.base k x ps sp) (hr : Room k X.A) (ha : PA X (e :: es) t) (hgl : Gl X x := by rfl) (hd : (x == ("__debug__" : Str)) = false := by decide)
    (hs : starEach (e :: es) X.env = (false, eval e X.env) :: starEach es X.env := by rfl) (hp : (backTo pos (starEach es X.env)).any (·.1) = false := by rfl) : PE X (.Call (.Name x p) (e :: es) [] pos) (tCall sp [] E0 t) := by
  obtain ⟨f, fd, h1, h2, h3, h4⟩ := h.ex
  exact pe_call h4 hr hgl h1 h2 h3 .nil pass0 ha hd hs hp
theorem pe_o0 (h : Fo X.prog X.w X.K X.mg X.base k x ps sp) (hr : Room k X.A) (hgl : Gl X x := by rfl) (hd : (x == ("__debug__" : Str)) = false := by decide) : PE X (.Call (.Name x p) [] [] pos) (tCall sp [] E0 tNil) := by
  obtain ⟨f, fd, h1, h2, h3, h4⟩ := h.ex
  exact pe_call0 h4 hr hgl h1 h2 h3 .nil pass0 hd
theorem pe_g (h : Fg X.prog X.w X.K X.mg X.base k x ps sp) (hg : X.A.guards = some []) (hr : Room k X.A) (ha : PA X (e :: es) t) (hgl : Gl X x := by rfl) (hd : (x == ("__debug__" : Str)) = false := by decide)
    (hs : starEach (e :: es) X.env = (false, eval e X.env) :: starEach es X.env := by rfl) (hp : (backTo pos (starEach es X.env)).any (·.1) = false := by rfl) : PE X (.Call (.Name x p) (e :: es) [] pos) (tCall sp [] E0 t) := by
  obtain ⟨f, fd, h1, h2, h3, h4⟩ := h.ex
  exact pe_callG h4 hg hr hgl h1 h2 h3 ha hd hs hp
theorem pe_g0 (h : Fg X.prog X.w X.K X.mg X.base k x ps sp) (hg : X.A.guards = some []) (hr : Room k X.A) (hgl : Gl X x := by rfl) (hd : (x == ("__debug__" : Str)) = false := by decide) : PE X (.Call (.Name x p) [] [] pos) (tCall sp [] E0 tNil) := by
  obtain ⟨f, fd, h1, h2, h3, h4⟩ := h.ex
  exact pe_callG0 h4 hg hr hgl h1 h2 h3 hd
theorem pe_i (h : Fi X.prog X.w X.K X.mg X.base k x C ps sp) (hr : Room (k + 1) X.A) (ha : PA X (e :: es) t) (hgl : Gl X x := by rfl) (hd : (x == ("__debug__" : Str)) = false := by decide)
    (hs : starEach (e :: es) X.env = (false, eval e X.env) :: starEach es X.env := by rfl) (hp : (backTo pos (starEach es X.env)).any (·.1) = false := by rfl) : PE X (.Call (.Name x p) (e :: es) [] pos) (tMake C sp [] E0 t) := by
  obtain ⟨f, fd, h1, h2, h3, h4⟩ := h.ex
  exact pe_make h2 h4 hr hgl h1 h3 .nil pass0 ha hd hs hp
theorem pe_m {pl : Sem Bool} (ho : PE X o to) (h : Fm X.prog X.w X.K X.mg X.base k C m ps sp) (hr : Room k X.A) (ha : PA X (e :: es) t)
    (hs : starEach (e :: es) X.env = (false, eval e X.env) :: starEach es X.env := by rfl) (hp : (backTo pos (starEach es X.env)).any (·.1) = false := by rfl)
    (ht : eval (.Call (.Attribute o m apos) (e :: es) [] pos) X.env = (do
      let ov ← eval o X.env
      standAt apos.atName
      let (f, first) ← holding [ov] (getMethod ov m pl)
      callWith pos f first (backTo pos (starEach (e :: es) X.env)) (backToKw pos (keywordEach [] X.env))) := by rfl) : PE X (.Call (.Attribute o m apos) (e :: es) [] pos) (tMeth C m sp [] E0 to t) := by
  obtain ⟨f, fd, h1, h2, h3, h4⟩ := h.ex
  exact pe_meth ho h1 h2 h4 hr h3 .nil pass0 ha hs hp ht
theorem pe_m0 {pl : Sem Bool} (ho : PE X o to) (h : Fm X.prog X.w X.K X.mg X.base k C m ps sp) (hr : Room k X.A)
    (ht : eval (.Call (.Attribute o m apos) [] [] pos) X.env = (do
      let ov ← eval o X.env
      standAt apos.atName
      let (f, first) ← holding [ov] (getMethod ov m pl)
      callWith pos f first (backTo pos (starEach [] X.env)) (backToKw pos (keywordEach [] X.env))) := by rfl) : PE X (.Call (.Attribute o m apos) [] [] pos) (tMeth C m sp [] E0 to tNil) := by
  obtain ⟨f, fd, h1, h2, h3, h4⟩ := h.ex
  exact pe_meth0 ho h1 h2 h4 hr h3 .nil pass0 ht
/-- an int of the module's -/
theorem pe_gint {i : Int} (h : ∃ t, X.mg x = some (.int i t)) (hg : Gl X x := by rfl) (hd : (x == ("__debug__" : Str)) = false := by decide) : PE X (.Name x pos) (tC (.int i)) := by
  obtain ⟨t, h⟩ := h
  exact pe_glob hg h ⟨t, rfl⟩ hd
theorem r200 {A : Around} (hr : Room k A) : A.units + 200 < cLine := by have := hr.un; omega
end
section
variable {P : Program} {w : World} {c : Cn} {mg : Str → Option Value} {base : Heap} {N ps : List Str} {x qual : Str} {params : Arguments} {body : List Stmt} {scope : Scope} {f : Addr} {fd : FuncData} {Sf : FS}
/-- THE RULE for a def at the level of trees -/
theorem fo_of (k n m : Nat) (keep : List Nat) (F : FunD c.K x qual params body scope [] [] f fd) (hm : mg x = some (.ref f)) (hn : ps.length = n) (sc : FnScope N ps scope)
    (hb : ∀ (kV doc pm : Value) (an : Option Addr) (cdv ct : Value) (us : List Value), us.length = ps.length → bindArgs (PySem.W.fnOf x qual params body scope .none kV doc pm an cdv ct) ⟨us, []⟩ = pure (ps.zip us))
    (hk : keep.all (fun i => decide (i < n)) = true) (hl : N.length - n = m)
    (t : TS) (ht : ∀ (cdv : Value) (A : Around) (outer : List PySem.Env) (s : Shared) (H : Hp) (E : XK), Room k (A.deeper (envOfC qual scope s.heap.objs.size f cdv)) → PSs (cxOf CX0 P w c.K mg base N qual scope f cdv A outer s H E).nox body t)
    (hw : ∀ ts Post, Sf ts Post → ts.length = n → ∀ A : Amb, A.c = c → A.keep = keep → WS A t (env0 m ts)
      (fun e => Post (.ret N_ (fin keep 0 ts e))) (fun t e => Post (.ret t (fin keep 0 ts e))) (fun _ => False) (fun _ => False)) : Fo P w c.K mg base (k + 1) x ps (spOf c n Sf) :=
  ⟨f, fd, hm, F.kp, F.bindsN hb, F.ok sc (fun vs H Q E h => by rw [spOf_len vs H Q E h, hn]) fun cdv A outer s H vs Q E hr hs =>
    ⟨t, (ht cdv A outer s H E hr).nox, fn_body keep (fun i hi => by simpa using List.all_eq_true.mp hk i hi) hl hw vs H Q E hs⟩⟩
theorem fg_of (k n m : Nat) (keep : List Nat) (F : FunD c.K x qual params body scope [] [] f fd) (hm : mg x = some (.ref f)) (hn : ps.length = n) (sc : FnScope N ps scope)
    (hb : ∀ (kV doc pm : Value) (an : Option Addr) (cdv ct : Value) (us : List Value), us.length = ps.length → bindArgs (PySem.W.fnOf x qual params body scope .none kV doc pm an cdv ct) ⟨us, []⟩ = pure (ps.zip us))
    (hk : keep.all (fun i => decide (i < n)) = true) (hl : N.length - n = m)
    (t : TS) (ht : ∀ (cdv : Value) (A : Around) (outer : List PySem.Env) (s : Shared) (H : Hp) (E : XK), (A.deeper (envOfC qual scope s.heap.objs.size f cdv)).guards = some [] → Room k (A.deeper (envOfC qual scope s.heap.objs.size f cdv)) → PSs (cxOf CX0 P w c.K mg base N qual scope f cdv A outer s H E).nox body t)
    (hw : ∀ ts Post, Sf ts Post → ts.length = n → ∀ A : Amb, A.c = c → A.keep = keep → WS A t (env0 m ts)
      (fun e => Post (.ret N_ (fin keep 0 ts e))) (fun t e => Post (.ret t (fin keep 0 ts e))) (fun _ => False) (fun _ => False)) : Fg P w c.K mg base (k + 1) x ps (spOf c n Sf) :=
  ⟨f, fd, hm, F.kp, F.bindsN hb, fng_of F sc (fun vs H Q E h => by rw [spOf_len vs H Q E h, hn]) fun cdv A outer s H vs Q E hg hr hs =>
    ⟨t, ht cdv A outer s H E hg hr, fn_body keep (fun i hi => by simpa using List.all_eq_true.mp hk i hi) hl hw vs H Q E hs⟩⟩
end
end TL
/-! TM: more operations in the forms that the texts use. -/
namespace TL
open PySem PySem.Spec PyProof.Rows L2
/-- a text once or not at all -/
def rRepS : R2 := fun x y H Q => ∃ (w : Str) (k : Int), x = .str w ∧ y = .int k ∧ ((k = 0 ∧ Q (.str Str.empty) H) ∨ (k = 1 ∧ Q (.str w) H))
theorem op_repS {X : Cx} : OpR X (binaryOp .Mult) rRepS := fun pins s σ H x y v u Q I rx ry h => by
  obtain ⟨w, k, rfl, rfl, h⟩ := h
  obtain ⟨t, rfl⟩ := rx
  obtain ⟨t', rfl⟩ := ry
  rcases h with ⟨rfl, q⟩ | ⟨rfl, q⟩
  · exact PySem.P.mul_str_none (by decide) (by decide) ⟨.str Str.empty, H, Inv.tok I (s.toks + 1), ⟨s.toks, rfl⟩, q⟩
  · refine PySem.P.mul_str (by decide) (fun _ z => by simp at z) (fun _ z => by simp at z) ?_
    rw [if_neg (by decide), if_pos (by rfl)]
    exact ⟨.str w, _, I, ⟨t, rfl⟩, q⟩
/-- a * b -/
def rMulA : R2 := fun x y H Q => ((rI CMul (fun i j => .int (i * j)) x y H Q ∨ rI CMulW (fun i j => .int (i * j)) x y H Q) ∨ rRep x y H Q) ∨ rRepS x y H Q
theorem op_mulA {X : Cx} : OpR X (binaryOp .Mult) rMulA := OpR.or (OpR.or (OpR.or op_mul op_mulW) op_rep) op_repS
def rInStr : R2 := fun x y H Q => ∃ i j, x = .str i ∧ y = .str j ∧ Q (.bl (!(Builtin.Str.occurrences j i 0 j.length 1).isEmpty)) H
def rNiStr : R2 := fun x y H Q => ∃ i j, x = .str i ∧ y = .str j ∧ Q (.bl (!(!(Builtin.Str.occurrences j i 0 j.length 1).isEmpty))) H
def rInS : R2 := fun x y H Q => ∃ (c : Nat) (z : Str), x = .str ⟨#[c]⟩ ∧ y = .str z ∧ Q (.bl (decide (c ∈ z.cps.toList))) H
def rNotInS : R2 := fun x y H Q => ∃ (c : Nat) (z : Str), x = .str ⟨#[c]⟩ ∧ y = .str z ∧ Q (.bl (!decide (c ∈ z.cps.toList))) H
def rInA (K : PySem.W.Frag) : R2 := fun x y H Q => (rIn K false x y H Q ∨ rInS x y H Q) ∨ rInStr x y H Q
def rNiA (K : PySem.W.Frag) : R2 := fun x y H Q => (rIn K true x y H Q ∨ rNotInS x y H Q) ∨ rNiStr x y H Q
theorem op_inA {X : Cx} : OpR X (compareOp .In) (rInA X.K) := OpR.or (OpR.or op_in_seq op_in_sign) op_in_str
theorem op_niA {X : Cx} : OpR X (compareOp .NotIn) (rNiA X.K) := OpR.or (OpR.or op_notIn_seq op_notIn_sign) op_notIn_str
def rIntA : List V → Hp → VK → Prop := fun xs H Q => rInt1 xs H Q ∨ ∃ a n, xs = [.str a] ∧ PySem.intText? a = some n ∧ a.length ≤ 640 ∧ Q (.int n) H
theorem call_intA {X : Cx} : CallR X (.type "int") rIntA := CallR.or call_int1 call_int_str
def rSlA (K : PySem.W.Frag) : V → Option Int → Option Int → Hp → VK → Prop := fun x lo hi H Q => rSlL K x lo hi H Q ∨ rSlS x lo hi H Q
theorem slA {X : Cx} : SlR X (rSlA X.K) := SlR.or sl_list sl_str
def tOrE (t u : TE) : TE := fun σ H Q => t σ H Q ∨ u σ H Q
theorem pe_or {X : Cx} {e : Expr} {t u : TE} (h : PE X e t) (h2 : PE X e u) : PE X e (tOrE t u) := ⟨fun pins s σ H Q I q => by
  rcases q with q | q
  · exact h.run pins s σ H Q I q
  · exact h2.run pins s σ H Q I q⟩
section
variable {A : Amb} {G H G' H' : Hp} {σ : L2.St} {env : Env} {P P' : Nat → As} {X X' X1 : As} {v x y z : V} {t t1 t2 : T} {vs : List V} {as : List Ar} {ta tb te : TE} {r : R2} {ts : List T} {a b : Ar} {Post : T → Env → Prop} {nx bk ct : Env → Prop} {rt : T → Env → Prop}
theorem wr_mul {o1 o2 : Option V} {i j : Int} (hc : CMul i j ∨ CMulW i j) (q : Post (I (i * j)) env) : WR A rMulA (.t (.frz o1 (.int i))) (.t (.frz o2 (.int j))) env Post :=
  wr_flat (d := .int (i * j)) rfl rfl (fun _ => rfl) (fun H x y e1 e2 Q q => by
    rcases hc with hc | hc
    · exact .inl (.inl (.inl ⟨i, j, e1, e2, hc, q⟩))
    · exact .inl (.inl (.inr ⟨i, j, e1, e2, hc, q⟩))) q
theorem wr_repS {o1 o2 : Option V} {w w' : Str} {k : Int} (h : (k = 0 ∧ w' = Str.empty) ∨ (k = 1 ∧ w' = w)) (q : Post (S w') env) : WR A rMulA (.t (.frz o1 (.str w))) (.t (.frz o2 (.int k))) env Post :=
  wr_flat (d := .str w') rfl rfl (fun _ => rfl) (fun H x y e1 e2 Q q => .inr ⟨w, k, e1, e2, by
    rcases h with ⟨rfl, rfl⟩ | ⟨rfl, rfl⟩
    · exact .inl ⟨rfl, q⟩
    · exact .inr ⟨rfl, q⟩⟩) q
theorem we_orL {u : TE} (h : WE A te env Post) : WE A (tOrE te u) env Post := fun G H σ P s Q k => .inl (h G H σ P s Q k)
theorem we_orR {u : TE} (h : WE A u env Post) : WE A (tOrE te u) env Post := fun G H σ P s Q k => .inr (h G H σ P s Q k)
/-- the kinds of plain things -/
def D.isInt : D → Bool
  | .int _ => true | .bl _ => true | _ => false
def D.isBool : D → Bool
  | .bl _ => true | _ => false
def D.isStr : D → Bool
  | .str _ => true | _ => false
def D.isList : D → Bool
  | .lst _ => true | _ => false
def D.isTuple : D → Bool
  | .tup _ => true | _ => false
theorem kit_tab : (kitB "NoneType" "int" = some false ∧ kitB "bool" "int" = some true ∧ kitB "int" "int" = some true ∧ kitB "str" "int" = some false ∧ kitB "list" "int" = some false ∧ kitB "tuple" "int" = some false ∧ kitB "dict" "int" = some false) ∧
    (kitB "NoneType" "bool" = some false ∧ kitB "bool" "bool" = some true ∧ kitB "int" "bool" = some false ∧ kitB "str" "bool" = some false ∧ kitB "list" "bool" = some false ∧ kitB "tuple" "bool" = some false ∧ kitB "dict" "bool" = some false) ∧
    (kitB "NoneType" "str" = some false ∧ kitB "bool" "str" = some false ∧ kitB "int" "str" = some false ∧ kitB "str" "str" = some true ∧ kitB "list" "str" = some false ∧ kitB "tuple" "str" = some false ∧ kitB "dict" "str" = some false) ∧
    (kitB "NoneType" "list" = some false ∧ kitB "bool" "list" = some false ∧ kitB "int" "list" = some false ∧ kitB "str" "list" = some false ∧ kitB "list" "list" = some true ∧ kitB "tuple" "list" = some false ∧ kitB "dict" "list" = some false) ∧
    (kitB "NoneType" "tuple" = some false ∧ kitB "bool" "tuple" = some false ∧ kitB "int" "tuple" = some false ∧ kitB "str" "tuple" = some false ∧ kitB "list" "tuple" = some false ∧ kitB "tuple" "tuple" = some true ∧ kitB "dict" "tuple" = some false) := by decide +kernel
theorem kit_int {d : D} {n : String} (h : d.tyn = some n) : kitB n "int" = some d.isInt := by
  obtain ⟨⟨h1, h2, h3, h4, h5, h6, h7⟩, _⟩ := kit_tab
  cases d <;> cases h <;> assumption
theorem kit_bool {d : D} {n : String} (h : d.tyn = some n) : kitB n "bool" = some d.isBool := by
  obtain ⟨_, ⟨h1, h2, h3, h4, h5, h6, h7⟩, _⟩ := kit_tab
  cases d <;> cases h <;> assumption
theorem kit_str {d : D} {n : String} (h : d.tyn = some n) : kitB n "str" = some d.isStr := by
  obtain ⟨_, _, ⟨h1, h2, h3, h4, h5, h6, h7⟩, _⟩ := kit_tab
  cases d <;> cases h <;> assumption
theorem kit_list {d : D} {n : String} (h : d.tyn = some n) : kitB n "list" = some d.isList := by
  obtain ⟨_, _, _, ⟨h1, h2, h3, h4, h5, h6, h7⟩, _⟩ := kit_tab
  cases d <;> cases h <;> assumption
theorem kit_tuple {d : D} {n : String} (h : d.tyn = some n) : kitB n "tuple" = some d.isTuple := by
  obtain ⟨_, _, _, _, ⟨h1, h2, h3, h4, h5, h6, h7⟩⟩ := kit_tab
  cases d <;> cases h <;> assumption
/-- d's kind is known -/
abbrev D.typ (d : D) : Prop := ∃ n, d.tyn = some n
theorem wi_int {d : D} {o : Option V} (h : arD env a = some d) (ht : d.typ) (q : Post (B d.isInt) env) : WC A (rIsi A.c.K) [a, .t (.frz o (.oth (.ty "int")))] env Post := let ⟨_, e⟩ := ht; wc_isi h e (kit_int e) q
theorem wi_bool {d : D} {o : Option V} (h : arD env a = some d) (ht : d.typ) (q : Post (B d.isBool) env) : WC A (rIsi A.c.K) [a, .t (.frz o (.oth (.ty "bool")))] env Post := let ⟨_, e⟩ := ht; wc_isi h e (kit_bool e) q
theorem wi_str {d : D} {o : Option V} (h : arD env a = some d) (ht : d.typ) (q : Post (B d.isStr) env) : WC A (rIsi A.c.K) [a, .t (.frz o (.oth (.ty "str")))] env Post := let ⟨_, e⟩ := ht; wc_isi h e (kit_str e) q
theorem wi_list_ {d : D} {o : Option V} (h : arD env a = some d) (ht : d.typ) (q : Post (B d.isList) env) : WC A (rIsi A.c.K) [a, .t (.frz o (.oth (.ty "list")))] env Post := let ⟨_, e⟩ := ht; wc_isi h e (kit_list e) q
theorem wi_tuple {d : D} {o : Option V} (h : arD env a = some d) (ht : d.typ) (q : Post (B d.isTuple) env) : WC A (rIsi A.c.K) [a, .t (.frz o (.oth (.ty "tuple")))] env Post := let ⟨_, e⟩ := ht; wc_isi h e (kit_tuple e) q
/-- a for over a list -/
theorem ws_for_list {tl : TE} {g : TG} {tb : TS} (h : WE A tl env fun t e => ∃ ds, t.data = .lst ds ∧ ∃ Iv : Nat → Env → Prop, Iv 0 e ∧ (∀ i d e, ds[i]? = some d → Iv i e → WG A wAll g (.frz none d) e fun e => WS A tb e (Iv (i + 1)) rt nx (Iv (i + 1))) ∧ ∀ e, Iv ds.length e → nx e) :
    WS A (tFor (iList A.c.K tl) g tb) env nx rt bk ct := ws_for (wi_list (we_imp h fun t e ⟨ds, e1, Iv, h0, hs, hd⟩ => ⟨ds, e1, Iv, h0, fun i e hi q => hs i _ e (by show ds[i]? = some (ds.getD i .non); rw [List.getD_eq_getElem?_getD, List.getElem?_eq_getElem hi]; rfl) q, hd⟩))
/-- a for over range(n) -/
theorem ws_for_rng1 {tr : TA} {g : TG} {tb : TS} (h : WA A tr env fun as e => ∃ o j, as = [.t (.frz o (.int j))] ∧ -(2 ^ 62) ≤ j ∧ j < 2 ^ 62 ∧ ∃ Iv : Nat → Env → Prop, Iv 0 e ∧ (∀ (i : Nat) e, (i : Int) < j → Iv i e → WG A wAll g (I i) e fun e => WS A tb e (Iv (i + 1)) rt nx (Iv (i + 1))) ∧ ∀ e, Iv j.toNat e → nx e) :
    WS A (tFor (iRng1 tr) g tb) env nx rt bk ct := ws_for (wi_rng1 fun G H σ P s Q k => h G H σ P s Q fun as e vs G' H' P' F q r => k as e vs G' H' P' F (by
  obtain ⟨o, j, e1, h1, h2, Iv, h0, hs, hd⟩ := q
  refine ⟨o, j, e1, h1, h2, Iv, h0, fun i e hi q => ?_, hd⟩
  have := hs i e (by omega) q
  show WG A wAll g (.frz none (.int (0 + (i : Int)))) e _
  rw [Int.zero_add]
  exact this) r)
theorem we_lc_rng1 {tr : TA} {g : TG} {tt : TT} {ws : List Nat} (hk : (A.keep.all fun i => !ws.contains i) = true)
    (h : WA A tr env fun as e0 => ∃ o j, as = [.t (.frz o (.int j))] ∧ -(2 ^ 62) ≤ j ∧ j ≤ 100000 ∧ ∃ Iv : Nat → List T → Env → Prop, Iv 0 [] (wipeE e0 ws) ∧
      (∀ (i : Nat) acc e, (i : Int) < j → acc.length ≤ i → Iv i acc e → WG A (fun j => j ∈ ws) g (I i) e fun e1 => WT A tt e1 fun b e2 => (b = true → WE A te e2 fun t e3 => Iv (i + 1) (acc ++ [t]) (wipeE e3 ws)) ∧ (b = false → Iv (i + 1) acc (wipeE e2 ws))) ∧
      ∀ acc e, acc.length ≤ j.toNat → Iv j.toNat acc e → Post (.lst acc) (restore e0 ws e)) : WE A (tLc (iRng1 tr) g tt te ws) env Post := we_lc hk (wi_rng1 fun G H σ P s Q k => h G H σ P s Q fun as e vs G' H' P' F q r => k as e vs G' H' P' F (by
  obtain ⟨o, j, e1, h1, h2, Iv, h0, hs, hd⟩ := q
  refine ⟨o, j, e1, h1, by omega, by omega, Iv, h0, fun i acc e hi l q => ?_, hd⟩
  have := hs i acc e (by omega) l q
  show WG A _ g (.frz none (.int (0 + (i : Int)))) e _
  rw [Int.zero_add]
  exact this) r)
theorem wt_yes {Post : Bool → Env → Prop} (q : Post true env) : WT A tYes env Post := fun G H σ P s Q k => k true env G H P q s Stp.refl
end
end TL
/-! TN: operations in the shapes that the walk meets; branches; arithmetic. -/
namespace TL
open PySem PySem.Spec PyProof.Rows L2
section
variable {A : Amb} {G H G' H' : Hp} {σ : L2.St} {env : Env} {P P' : Nat → As} {X X' X1 : As} {v x y z : V} {t t1 t2 : T} {vs : List V} {as : List Ar} {ta tb te : TE} {r : R2} {ts : List T} {a b : Ar} {Post : T → Env → Prop} {nx bk ct : Env → Prop} {rt : T → Env → Prop}
theorem fi_int {d : D} {o o2 : Option V} (ht : d.typ) (q : Post (B d.isInt) env) : WC A (rIsi A.c.K) [.t (.frz o2 d), .t (.frz o (.oth (.ty "int")))] env Post := wi_int rfl ht q
theorem fi_bool {d : D} {o o2 : Option V} (ht : d.typ) (q : Post (B d.isBool) env) : WC A (rIsi A.c.K) [.t (.frz o2 d), .t (.frz o (.oth (.ty "bool")))] env Post := wi_bool rfl ht q
theorem fi_str {d : D} {o o2 : Option V} (ht : d.typ) (q : Post (B d.isStr) env) : WC A (rIsi A.c.K) [.t (.frz o2 d), .t (.frz o (.oth (.ty "str")))] env Post := wi_str rfl ht q
theorem fi_list {d : D} {o o2 : Option V} (ht : d.typ) (q : Post (B d.isList) env) : WC A (rIsi A.c.K) [.t (.frz o2 d), .t (.frz o (.oth (.ty "list")))] env Post := wi_list_ rfl ht q
theorem fi_tuple {d : D} {o o2 : Option V} (ht : d.typ) (q : Post (B d.isTuple) env) : WC A (rIsi A.c.K) [.t (.frz o2 d), .t (.frz o (.oth (.ty "tuple")))] env Post := wi_tuple rfl ht q
theorem fl_lst {ds : List D} {o : Option V} (q : Post (I ds.length) env) : WC A (rLenA A.c.K) [.t (.frz o (.lst ds))] env Post := wc_len rfl rfl q
theorem fl_tup {ds : List D} {o : Option V} (q : Post (I ds.length) env) : WC A (rLenA A.c.K) [.t (.frz o (.tup ds))] env Post := wc_len rfl rfl q
theorem fl_scr {ns : List Int} {o : Option V} (q : Post (I ns.length) env) : WC A (rLenA A.c.K) [.t (.frz o (.scr ns))] env Post := wc_len rfl rfl q
theorem fl_str {s : Str} {o : Option V} (hl : s.length ≤ 1000000) (q : Post (I s.length) env) : WC A (rLenA A.c.K) [.t (.frz o (.str s))] env Post := wc_len rfl (show (if s.length ≤ 1000000 then some s.length else none) = _ from if_pos hl) q
theorem datas_len : ∀ ts : List T, (T.datas ts).length = ts.length
  | [] => rfl
  | t :: ts => by show (T.datas ts).length + 1 = ts.length + 1; rw [datas_len ts]
theorem fl_slot {n : Nat} {ts : List T} (he : env[n]? = some (some (.lst ts))) (q : Post (I ts.length) env) : WC A (rLenA A.c.K) [.s n] env Post := wc_len (d := .lst (T.datas ts)) (by show (match env[n]? with | some (some t) => some t.data | _ => none) = _; rw [he]; rfl) (by show some (T.datas ts).length = some ts.length; rw [datas_len]) q
theorem fl_tmp {ts : List T} (q : Post (I ts.length) env) : WC A (rLenA A.c.K) [.t (.lst ts)] env Post := wc_len (d := .lst (T.datas ts)) rfl (by show some (T.datas ts).length = some ts.length; rw [datas_len]) q
theorem wc_int_int {i : Int} {o : Option V} (q : Post (I i) env) : WC A rIntA [.t (.frz o (.int i))] env Post :=
  wc_one (f := fun _ _ _ => True) (d := .int i) (d' := .int i) rfl (fun _ => rfl) (fun H x e Q q => .inl (.inl ⟨i, by rw [show x = .int i from e], q⟩)) q
theorem wc_intb {k : Bool} {o : Option V} (q : Post (I (if k then 1 else 0)) env) : WC A rIntA [.t (.frz o (.bl k))] env Post :=
  wc_one (f := fun _ _ _ => True) (d := .bl k) (d' := .int (if k then 1 else 0)) rfl (fun _ => rfl) (fun H x e Q q => .inl (.inr ⟨k, by rw [show x = .bl k from e], q⟩)) q
end
/-! ### branches -/
section
variable {p : Prop} [Decidable p] {P Q : Prop}
theorem br_dec (h1 : p → P) (h2 : ¬ p → Q) : (decide p = true → P) ∧ (decide p = false → Q) := ⟨fun h => h1 (of_decide_eq_true h), fun h => h2 (of_decide_eq_false h)⟩
theorem br_ndec (h1 : ¬ p → P) (h2 : p → Q) : ((!decide p) = true → P) ∧ ((!decide p) = false → Q) := ⟨fun h => h1 (by simpa using h), fun h => h2 (by simpa using h)⟩
theorem br_nndec (h1 : p → P) (h2 : ¬ p → Q) : ((!!decide p) = true → P) ∧ ((!!decide p) = false → Q) := ⟨fun h => h1 (by simpa using h), fun h => h2 (by simpa using h)⟩
theorem br_decF (h1 : ¬ p → P) (h2 : p → Q) : (decide p = false → P) ∧ (decide p = true → Q) := ⟨fun h => h1 (of_decide_eq_false h), fun h => h2 (of_decide_eq_true h)⟩
theorem br_ndecF (h1 : p → P) (h2 : ¬ p → Q) : ((!decide p) = false → P) ∧ ((!decide p) = true → Q) := ⟨fun h => h1 (by simpa using h), fun h => h2 (by simpa using h)⟩
theorem br_T {P Q : Prop} (h : P) : (true = true → P) ∧ (true = false → Q) := ⟨fun _ => h, fun h => Bool.noConfusion h⟩
theorem br_F {P Q : Prop} (h : Q) : (false = true → P) ∧ (false = false → Q) := ⟨fun h => Bool.noConfusion h, fun _ => h⟩
theorem br_T' {P Q : Prop} (h : Q) : (true = false → P) ∧ (true = true → Q) := ⟨fun h => Bool.noConfusion h, fun _ => h⟩
theorem br_F' {P Q : Prop} (h : P) : (false = false → P) ∧ (false = true → Q) := ⟨fun _ => h, fun h => Bool.noConfusion h⟩
theorem br_nT {P Q : Prop} (h : Q) : ((!true) = true → P) ∧ ((!true) = false → Q) := ⟨fun h => Bool.noConfusion h, fun _ => h⟩
theorem br_nF {P Q : Prop} (h : P) : ((!false) = true → P) ∧ ((!false) = false → Q) := ⟨fun _ => h, fun h => Bool.noConfusion h⟩
theorem br_nT' {P Q : Prop} (h : P) : ((!true) = false → P) ∧ ((!true) = true → Q) := ⟨fun _ => h, fun h => Bool.noConfusion h⟩
theorem br_nF' {P Q : Prop} (h : Q) : ((!false) = false → P) ∧ ((!false) = true → Q) := ⟨fun h => Bool.noConfusion h, fun _ => h⟩
theorem br_n {b : Bool} {P Q : Prop} (h1 : b = false → P) (h2 : b = true → Q) : ((!b) = true → P) ∧ ((!b) = false → Q) := ⟨fun h => h1 (by simpa using h), fun h => h2 (by simpa using h)⟩
theorem br_nn {b : Bool} {P Q : Prop} (h1 : b = true → P) (h2 : b = false → Q) : ((!b) = false → P) ∧ ((!b) = true → Q) := ⟨fun h => h1 (by simpa using h), fun h => h2 (by simpa using h)⟩
end
theorem ret_B {Post : FO → Prop} {b b' : Bool} {ts ts' : Env} (h : Post (.ret (B b) ts)) (e : b' = b) (e2 : ts' = ts) : Post (.ret (B b') ts') := by rw [e, e2]; exact h
/-! ### items of a list made on the way -/
def intsOf : List T → Option (List Int)
  | [] => some []
  | .frz none (.int i) :: r => (intsOf r).map (i :: ·)
  | _ => none
theorem intsOf_eq : ∀ {ts : List T} {is : List Int}, intsOf ts = some is → ts = is.map I
  | [], is, h => by cases h; rfl
  | t :: r, is, h => by
    unfold intsOf at h
    split at h
    · rename_i e; cases e
    · rename_i i r' e
      cases e
      cases q : intsOf r with
      | none => rw [q] at h; cases h
      | some is' =>
        rw [q] at h
        cases h
        rw [intsOf_eq q]; rfl
    · cases h
theorem atI_nat {α : Type} {xs : List α} {i : Int} (h0 : 0 ≤ i) (h1 : i < xs.length) : ∃ j : Nat, (j : Int) = i ∧ ∃ hj : j < xs.length, atI xs i = some (xs[j]) := by
  obtain ⟨j, rfl⟩ := Int.eq_ofNat_of_zero_le h0
  have hj : j < xs.length := by omega
  refine ⟨j, rfl, hj, ?_⟩
  unfold atI ixN
  have e1 : ¬ ((j : Int) < 0) := by omega
  simp [e1, hj]
section
variable {A : Amb} {G H G' H' : Hp} {σ : L2.St} {env : Env} {P P' : Nat → As} {X X' X1 : As} {v x y z : V} {t t1 t2 : T} {vs : List V} {as : List Ar} {ta tb te : TE} {r : R2} {ts : List T} {a b : Ar} {Post : T → Env → Prop}
theorem wr_ix_tmpI {o2 : Option V} {ts : List T} {is : List Int} {i : Int} (h : intsOf ts = some is) (h0 : 0 ≤ i) (h1 : i < is.length) (q : ∀ n, n ∈ is → Post (I n) env) : WR A (rIxA A.c.K) (.t (.lst ts)) (.t (.frz o2 (.int i))) env Post := by
  obtain ⟨j, _, hj, e⟩ := atI_nat (xs := is) h0 h1
  have e2 := intsOf_eq h
  subst e2
  obtain ⟨j2, hj2, e3⟩ := atI_eq (ys := is.map I) e (by simp)
  refine wr_ix_tmp (t := I (is[j])) ?_ (q _ (List.getElem_mem hj))
  rw [e3, List.getElem?_map, hj2]; rfl
/-- what a reading gives, fixed -/
theorem WR.fixd (h : WR A r a b env fun t e => Post (.frz none t.data) e) : WR A r a b env Post := fun G H σ P x y X s m Q k => h G H σ P x y X s m Q fun t e v G' H' P' F q r => by
  obtain ⟨s2, st2, rp⟩ := fixT r.sr r.tm
  exact k _ e v _ H' P' noF q ⟨s2, (r.st.trans st2).wk (fun _ h => h) (fun a z => by rcases z with z | z; exact .inl z; exact z.elim), .flat rp fun _ z => nomatch z⟩
theorem datas_mem : ∀ {ts : List T} {t : T}, t ∈ ts → t.data ∈ T.datas ts
  | t :: ts, u, h => by
    show u.data ∈ t.data :: T.datas ts
    rcases List.mem_cons.mp h with e | e
    · subst e; exact List.mem_cons_self
    · exact List.mem_cons_of_mem _ (datas_mem e)
theorem wr_ix_tmpD {o2 : Option V} {ts : List T} {i : Int} (h0 : 0 ≤ i) (h1 : i < ts.length) (q : ∀ d, d ∈ T.datas ts → Post (F d) env) : WR A (rIxA A.c.K) (.t (.lst ts)) (.t (.frz o2 (.int i))) env Post := by
  obtain ⟨j, _, hj, e⟩ := atI_nat (xs := ts) h0 h1
  exact WR.fixd (wr_ix_tmp e (q _ (datas_mem (List.getElem_mem hj))))
/-! ### arithmetic -/
theorem wr_pow {o1 o2 : Option V} {i j k : Int} (hc : CPow i j) (hk : i ^ j.toNat = k) (q : Post (I k) env) : WR A (rI CPow fun i j => .int (i ^ j.toNat)) (.t (.frz o1 (.int i))) (.t (.frz o2 (.int j))) env Post := by
  subst hk; exact wr_I (g := fun i j => i ^ j.toNat) hc q
theorem wr_mod {o1 o2 : Option V} {i j : Int} (hc : 0 < j) (q : ∀ r, r = i % j → 0 ≤ r → r < j → Post (I r) env) : WR A (rI (fun _ j => 0 < j) fun i j => .int (i % j)) (.t (.frz o1 (.int i))) (.t (.frz o2 (.int j))) env Post :=
  wr_I (C := fun _ j => 0 < j) (g := fun i j => i % j) hc (q _ rfl (Int.emod_nonneg _ (by omega)) (Int.emod_lt_of_pos _ hc))
theorem wr_div {o1 o2 : Option V} {i j : Int} (hc : CDivW i j) (q : Post (I (i / j)) env) : WR A (rI CDivW fun i j => .int (i / j)) (.t (.frz o1 (.int i))) (.t (.frz o2 (.int j))) env Post :=
  wr_I (C := CDivW) (g := fun i j => i / j) hc q
end
theorem cdivw {i j : Int} (h : 0 < j) (h2 : j < 10 ^ 60) : CDivW i j := ⟨h, by
  have h3 : j.natAbs < 2 ^ 200 := by
    have : (10 : Int) ^ 60 < 2 ^ 200 := by decide
    omega
  have : j.natAbs ≠ 0 := by omega
  have := (Nat.log2_lt this).mpr h3
  omega⟩
theorem cmul1 {i j : Int} (h1 : -(2 ^ 64) < i) (h2 : i < 2 ^ 64) : CMul i j ∨ CMulW i j := .inl (.inl ⟨h1, h2⟩)
theorem cmul2 {i j : Int} (h1 : -(2 ^ 64) < j) (h2 : j < 2 ^ 64) : CMul i j ∨ CMulW i j := .inl (.inr ⟨h1, h2⟩)
theorem cpow {i j : Int} (h0 : 0 ≤ j) (h1 : j ≤ 1000000) (h2 : -(2 ^ 64) < i) (h3 : i < 2 ^ 64) : CPow i j := ⟨h0, h1, by omega⟩
end TL
/-! TS: what the laws share: boxes of numbers, small data. -/
namespace TL
open PySem PySem.Spec PyProof.Rows L2
def Wk (c : Cn) (n m : Nat) (keep : List Nat) (Sf : FS) (t : TS) : Prop := ∀ ts Post, Sf ts Post → ts.length = n → ∀ A : Amb, A.c = c → A.keep = keep → WS A t (env0 m ts)
  (fun e => Post (.ret N_ (fin keep 0 ts e))) (fun t e => Post (.ret t (fin keep 0 ts e))) (fun _ => False) (fun _ => False)
/-- the laws' box of numbers: rest, seed, turns -/
def Box (m : Nat) (t : T) : Prop := ∃ a b c : Int, t = .lst [I a, I b, I c] ∧ 0 ≤ a ∧ 0 ≤ b ∧ b < 2147483647 ∧ 0 ≤ c ∧ c ≤ m
theorem box_mk {a b c : Int} {m : Nat} (h1 : 0 ≤ a) (h2 : 0 ≤ b) (h3 : b < 2147483647) (h4 : 0 ≤ c) (h5 : c ≤ m) : Box m (.lst [I a, I b, I c]) := ⟨a, b, c, rfl, h1, h2, h3, h4, h5⟩
theorem box_up {t : T} {m n : Nat} (h : Box m t) (h2 : m ≤ n) : Box n t := let ⟨a, b, c, e, h1, h3, h4, h5, h6⟩ := h; ⟨a, b, c, e, h1, h3, h4, h5, by omega⟩
theorem log2_lt {i : Int} (h : -(10 ^ 60) < i) (h2 : i < 10 ^ 60) : i.natAbs.log2 < 1920 := by
  have h3 : i.natAbs < 2 ^ 200 := by
    have : (10 : Int) ^ 60 < 2 ^ 200 := by decide
    omega
  by_cases z : i.natAbs = 0
  · rw [z]; decide
  · have := (Nat.log2_lt z).mpr h3
    omega
section
variable {A : Amb} {G H G' H' : Hp} {σ : L2.St} {env : Env} {P P' : Nat → As} {X X' X1 : As} {v x y z : V} {t t1 t2 : T} {vs : List V} {as : List Ar} {ta tb te : TE} {r : R2} {ts : List T} {a b : Ar} {Post : T → Env → Prop} {nx bk ct : Env → Prop} {rt : T → Env → Prop}
theorem wr_ix_scrI {ov o2 : Option V} {ns : List Int} {i : Int} (h0 : 0 ≤ i) (h1 : i < ns.length) (q : ∀ n, n ∈ ns → Post (I n) env) : WR A (rIxA A.c.K) (.t (.frz ov (.scr ns))) (.t (.frz o2 (.int i))) env Post := by
  obtain ⟨j, _, hj, e⟩ := atI_nat (xs := ns) h0 h1
  exact wr_ix_scr e (q _ (List.getElem_mem hj))
theorem wg_nameK {W : Nat → Prop} {i : Nat} {t : T} {K : List Nat} {Post : Env → Prop} (hi : Nat.ble (i + 1) env.length = true) (e : A.keep = K) (hk : K.contains i = false) (h : Post (env.set i (some t))) (hw : W i := by trivial) : WG A W (gName i) t env Post := wg_name (Nat.le_of_ble_eq_true hi) (e ▸ hk) h hw
theorem wc_maxR {i j : Int} {o o2 : Option V} (q : ∀ r : Int, i ≤ r → j ≤ r → (r = i ∨ r = j) → Post (I r) env) : WC A rMax2 [.t (.frz o (.int i)), .t (.frz o2 (.int j))] env Post :=
  wc_max2 (q _ (by split <;> omega) (by split <;> omega) (by split <;> omega))
theorem wc_minR {i j : Int} {o o2 : Option V} (q : ∀ r : Int, r ≤ i → r ≤ j → (r = i ∨ r = j) → Post (I r) env) : WC A rMin2 [.t (.frz o (.int i)), .t (.frz o2 (.int j))] env Post :=
  wc_min2 (q _ (by split <;> omega) (by split <;> omega) (by split <;> omega))
theorem fi_repr {d : D} {o : Option V} (hd : d.ok) (q : Post (S d.py.shown) env) : WC A (rRepr A.c.K) [.t (.frz o d)] env Post := wc_repr rfl hd q
/-- a name's own thing may be fixed ahead of any statement -/
theorem ws_fix {i : Nat} {s : TS} (h : env[i]? = some (some t)) (q : WS A s (env.set i (some (.frz none t.data))) nx rt bk ct) : WS A s env nx rt bk ct := fun G H σ P sr D n rt bk ct => by
  obtain ⟨v, hv, rp, s', st⟩ := sr.fix i h
  exact q _ _ _ _ s' D (fun e G' H' σ' P' p s2 x => n e G' H' σ' P' p s2 (st.g.trans x)) rt (fun e G' H' σ' P' p s2 x => bk e G' H' σ' P' p s2 (st.g.trans x)) (fun e G' H' σ' P' p s2 x => ct e G' H' σ' P' p s2 (st.g.trans x))
end
/-! ### loops -/
def SetsE : List Nat → Env → Env → Prop
  | [], e0, e => e = e0
  | k :: ks, e0, e => ∃ x, SetsE ks (e0.set k x) e
theorem loop_list {A : Amb} {ds : List D} {e0 : Env} {nx : Env → Prop} {rt : T → Env → Prop} {g : TG} {tb : TS} (J : Env → Nat → Env → Prop) (h0 : J e0 0 e0)
    (hs : ∀ i d e, ds[i]? = some d → J e0 i e → WG A wAll g (.frz none d) e fun e => WS A tb e (J e0 (i + 1)) rt nx (J e0 (i + 1))) (hd : ∀ e, J e0 ds.length e → nx e) :
    ∃ Iv : Nat → Env → Prop, Iv 0 e0 ∧ (∀ i d e, ds[i]? = some d → Iv i e → WG A wAll g (.frz none d) e fun e => WS A tb e (Iv (i + 1)) rt nx (Iv (i + 1))) ∧ ∀ e, Iv ds.length e → nx e := ⟨J e0, h0, hs, hd⟩
theorem loop_listP {A : Amb} {ds : List D} {e0 : Env} {nx : Env → Prop} {rt : T → Env → Prop} {g : TG} {tb : TS} {p : D → Prop} (J : Env → Nat → Env → Prop) (hp : ∀ d, d ∈ ds → p d) (h0 : J e0 0 e0)
    (hs : ∀ i d e, ds[i]? = some d → p d → J e0 i e → WG A wAll g (.frz none d) e fun e => WS A tb e (J e0 (i + 1)) rt nx (J e0 (i + 1))) (hd : ∀ e, J e0 ds.length e → nx e) :
    ∃ Iv : Nat → Env → Prop, Iv 0 e0 ∧ (∀ i d e, ds[i]? = some d → Iv i e → WG A wAll g (.frz none d) e fun e => WS A tb e (Iv (i + 1)) rt nx (Iv (i + 1))) ∧ ∀ e, Iv ds.length e → nx e := ⟨J e0, h0, fun i d e h => hs i d e h (hp d (List.mem_of_getElem? h)), hd⟩
theorem loop_rng {A : Amb} {j : Int} {e0 : Env} {nx : Env → Prop} {rt : T → Env → Prop} {g : TG} {tb : TS} (J : Env → Nat → Env → Prop) (h0 : J e0 0 e0)
    (hs : ∀ (i : Nat) e, (i : Int) < j → J e0 i e → WG A wAll g (I i) e fun e => WS A tb e (J e0 (i + 1)) rt nx (J e0 (i + 1))) (hd : ∀ e, J e0 j.toNat e → nx e) :
    ∃ Iv : Nat → Env → Prop, Iv 0 e0 ∧ (∀ (i : Nat) e, (i : Int) < j → Iv i e → WG A wAll g (I i) e fun e => WS A tb e (Iv (i + 1)) rt nx (Iv (i + 1))) ∧ ∀ e, Iv j.toNat e → nx e := ⟨J e0, h0, hs, hd⟩
theorem loop_lc {A : Amb} {j : Int} {e0 : Env} {ws : List Nat} {g : TG} {tt : TT} {te : TE} {R : List T → Env → Prop} (J : Env → Nat → List T → Env → Prop) (h0 : J (wipeE e0 ws) 0 [] (wipeE e0 ws))
    (hs : ∀ (i : Nat) acc e, (i : Int) < j → acc.length ≤ i → J (wipeE e0 ws) i acc e → WG A (fun j => j ∈ ws) g (I i) e fun e1 => WT A tt e1 fun b e2 => (b = true → WE A te e2 fun t e3 => J (wipeE e0 ws) (i + 1) (acc ++ [t]) (wipeE e3 ws)) ∧ (b = false → J (wipeE e0 ws) (i + 1) acc (wipeE e2 ws)))
    (hd : ∀ acc e, acc.length ≤ j.toNat → J (wipeE e0 ws) j.toNat acc e → R acc e) :
    ∃ Iv : Nat → List T → Env → Prop, Iv 0 [] (wipeE e0 ws) ∧
      (∀ (i : Nat) acc e, (i : Int) < j → acc.length ≤ i → Iv i acc e → WG A (fun j => j ∈ ws) g (I i) e fun e1 => WT A tt e1 fun b e2 => (b = true → WE A te e2 fun t e3 => Iv (i + 1) (acc ++ [t]) (wipeE e3 ws)) ∧ (b = false → Iv (i + 1) acc (wipeE e2 ws))) ∧
      ∀ acc e, acc.length ≤ j.toNat → Iv j.toNat acc e → R acc e := ⟨J _, h0, hs, hd⟩
theorem take_step {α : Type} {p : α → Prop} {ds : List α} {i : Nat} {x : α} (hx : ds[i]? = some x) (ha : ∀ z, z ∈ ds.take i → p z) (h : p x) : ∀ z, z ∈ ds.take (i + 1) → p z := fun z hz => by
  rw [List.take_add_one, hx] at hz
  rcases List.mem_append.mp hz with hz | hz
  · exact ha z hz
  · rcases List.mem_singleton.mp hz with rfl
    exact h
theorem take_all {α : Type} {p : α → Prop} {ds : List α} (ha : ∀ z, z ∈ ds.take ds.length → p z) : ∀ z, z ∈ ds → p z := by rwa [List.take_length] at ha
theorem all_no {α : Type} {p : α → Bool} {ds : List α} {x : α} (hx : x ∈ ds) (h : p x = false) : ds.all p = false := List.all_eq_false.mpr ⟨x, hx, by rw [h]; exact Bool.false_ne_true⟩
theorem all_yes {α : Type} {p : α → Bool} {ds : List α} (h : ∀ x, x ∈ ds → p x = true) : ds.all p = true := List.all_eq_true.mpr h
def D.typB : D → Bool
  | .scr _ => false | .oth _ => false | .dit _ => false | .ins _ _ => false | _ => true
theorem typB_ok {d : D} (h : d.typB = true) : d.typ := by cases d <;> first | exact ⟨_, rfl⟩ | cases h
theorem typs_ok {ds : List D} (h : ds.all D.typB = true) : ∀ d, d ∈ ds → d.typ := fun d hd => typB_ok (List.all_eq_true.mp h d hd)
theorem tmps_n : tmps [] = some [] := rfl
theorem tmps_c {t : T} {r : List Ar} {ts : List T} (h : tmps r = some ts) : tmps (.t t :: r) = some (t :: ts) := by show (tmps r).map (t :: ·) = _; rw [h]; rfl
theorem datas_F : ∀ ds : List D, T.datas (ds.map F) = ds
  | [] => rfl
  | d :: ds => by show d :: T.datas (ds.map F) = d :: ds; rw [datas_F ds]
theorem datas_map : ∀ ts : List T, T.datas ts = ts.map T.data
  | [] => rfl
  | d :: ds => by show d.data :: T.datas ds = d.data :: ds.map T.data; rw [datas_map ds]
theorem datas_I : ∀ ns : List Int, T.datas (ns.map I) = ns.map D.int
  | [] => rfl
  | d :: ds => by show D.int d :: T.datas (ds.map I) = D.int d :: ds.map D.int; rw [datas_I ds]
theorem datas_set : ∀ (ts : List T) (j : Nat) (t : T), T.datas (ts.set j t) = (T.datas ts).set j t.data
  | [], _, _ => rfl
  | u :: ts, 0, t => rfl
  | u :: ts, j + 1, t => by show u.data :: T.datas (ts.set j t) = u.data :: (T.datas ts).set j t.data; rw [datas_set ts]
theorem ixN_ok {n : Nat} {k : Int} (h0 : 0 ≤ k) (h1 : k < n) : ixN n k = some k.toNat := by
  unfold ixN
  have e1 : ¬ k < 0 := by omega
  have e2 : k.toNat < n := by omega
  simp [e1, h0, h1, e2]
/-! ### small data -/
structure D.sm (b w k : Nat) (d : D) : Prop where
  pl : d.plain = true
  sh : d.py.showable = true
  nd : d.py.hasDict = false
  dp : d.py.depth ≤ k
  lv : d.py.leavesShort b = true
  wt : d.py.weight ≤ w
theorem D.sm.up {b w k w' k' : Nat} {d : D} (h : d.sm b w k) (h1 : w ≤ w') (h2 : k ≤ k') : d.sm b w' k' := ⟨h.pl, h.sh, h.nd, Nat.le_trans h.dp h2, h.lv, Nat.le_trans h.wt h1⟩
theorem D.sm.ok {b w k : Nat} {d : D} (h : d.sm b w k) (h8 : 8 ≤ b) (hk : k ≤ 100) (hw : (b + 2) * w + b ≤ 16777216) : d.ok :=
  ⟨h.pl, h.sh, h.nd, Nat.le_trans h.dp hk, by
    have := PyData.shown_le b h8 _ h.lv
    have := Nat.mul_le_mul_left (b + 2) h.wt
    rw [sizeLine_eq]; omega⟩
theorem D.sm.typ {b w k : Nat} {d : D} (h : d.sm b w k) : d.typ := by
  have := h.pl
  cases d <;> first | exact ⟨_, rfl⟩ | exact absurd this (fun h => nomatch h)
theorem sm_int {i : Int} {b w n : Nat} (h : i.natAbs < 10 ^ n) (hn : 0 < n) (hb : n + 1 ≤ b) (h2 : i.natAbs < 2 ^ w) (hw : w ≤ 1900) : (D.int i).sm b (w + 1) 0 := by
  have hl : i.natAbs.log2 < w + 1 := by
    by_cases z : i.natAbs = 0
    · rw [z]; show 0 < w + 1; omega
    · have := (Nat.log2_lt z).mpr h2
      omega
  refine ⟨rfl, ?_, rfl, Nat.le_refl _, ?_, ?_⟩
  · show decide (i.natAbs.log2 < 1920) = true
    exact decide_eq_true (by omega)
  · have e := int_text_length_le10 (k := n) hn h
    show decide ((Str.ofString (toString i)).length ≤ b) = true
    rw [PySem.ofString_length]
    exact decide_eq_true (Nat.le_trans e hb)
  · show (if i == 0 then 0 else i.natAbs.log2 + 1) ≤ w + 1
    split
    · omega
    · rename_i z
      have z' : i.natAbs ≠ 0 := by
        intro e
        apply z
        have : i = 0 := by omega
        simp [this]
      have := (Nat.log2_lt z').mpr h2
      omega
theorem sm_bl {x : Bool} {b : Nat} : (D.bl x).sm b 0 0 := ⟨rfl, rfl, rfl, Nat.le_refl _, rfl, Nat.le_refl _⟩
theorem sm_non {b : Nat} : D.non.sm b 0 0 := ⟨rfl, rfl, rfl, Nat.le_refl _, rfl, Nat.le_refl _⟩
theorem sm_str {b w : Nat} {s : Str} (h : (s.cps.toList.all fun c => decide (c < 16 ^ 8)) = true) (hw : s.length ≤ w) : (D.str s).sm b w 0 := ⟨rfl, rfl, rfl, Nat.le_refl _, h, hw⟩
def D.smB (b w k : Nat) (d : D) : Bool := d.plain && d.py.showable && !d.py.hasDict && decide (d.py.depth ≤ k) && d.py.leavesShort b && decide (d.py.weight ≤ w)
theorem smB_ok {b w k : Nat} {d : D} (h : d.smB b w k = true) : d.sm b w k := by
  unfold D.smB at h
  simp only [Bool.and_eq_true, decide_eq_true_eq, Bool.not_eq_true'] at h
  obtain ⟨⟨⟨⟨⟨h1, h2⟩, h3⟩, h4⟩, h5⟩, h6⟩ := h
  exact ⟨h1, h2, h3, h4, h5, h6⟩
theorem sms {b w k : Nat} : ∀ {ds : List D}, (∀ d, d ∈ ds → d.sm b w k) → D.plains ds = true ∧ PyData.showableAll (D.pys ds) = true ∧ PyData.hasDictAll (D.pys ds) = false ∧ PyData.depthAll (D.pys ds) ≤ k ∧ PyData.leavesShortAll b (D.pys ds) = true ∧ PyData.weightAll (D.pys ds) ≤ ds.length * (w + 1)
  | [], _ => ⟨rfl, rfl, rfl, Nat.zero_le _, rfl, Nat.zero_le _⟩
  | d :: ds, h => by
    obtain ⟨h1, h2, h3, h4, h5, h6⟩ := sms (ds := ds) fun x hx => h x (List.mem_cons_of_mem _ hx)
    have q := h d List.mem_cons_self
    refine ⟨?_, ?_, ?_, ?_, ?_, ?_⟩
    · show (d.plain && D.plains ds) = true
      rw [q.pl, h1]; rfl
    · show (d.py.showable && PyData.showableAll (D.pys ds)) = true
      rw [q.sh, h2]; rfl
    · show (d.py.hasDict || PyData.hasDictAll (D.pys ds)) = false
      rw [q.nd, h3]; rfl
    · show max d.py.depth (PyData.depthAll (D.pys ds)) ≤ k
      exact Nat.max_le.mpr ⟨q.dp, h4⟩
    · show (d.py.leavesShort b && PyData.leavesShortAll b (D.pys ds)) = true
      rw [q.lv, h5]; rfl
    · show d.py.weight + 1 + PyData.weightAll (D.pys ds) ≤ (ds.length + 1) * (w + 1)
      have := q.wt
      rw [Nat.add_mul]; omega
theorem sm_lst {b w k : Nat} {ds : List D} (h : ∀ d, d ∈ ds → d.sm b w k) : (D.lst ds).sm b (ds.length * (w + 1)) (k + 1) := by
  obtain ⟨h1, h2, h3, h4, h5, h6⟩ := sms h
  exact ⟨h1, h2, h3, Nat.succ_le_succ h4, h5, h6⟩
theorem sm_tup {b w k : Nat} {ds : List D} (h : ∀ d, d ∈ ds → d.sm b w k) : (D.tup ds).sm b (ds.length * (w + 1)) (k + 1) := by
  obtain ⟨h1, h2, h3, h4, h5, h6⟩ := sms h
  exact ⟨h1, h2, h3, Nat.succ_le_succ h4, h5, h6⟩
/-- a law's own promise, from a script -/
theorem law_sp {c : Cn} {Sf : FS} {ns : List Int} {H : Hp} {a : Addr} (hS : ∀ Post : FO → Prop, Post (.ret (B true) [some (F (.scr ns))]) → Sf [F (.scr ns)] Post) (h : SqL c.K H a (ns.map V.int)) :
    spOf c 1 Sf [.ref a] H (fun v _ => v = .bl true) (fun _ _ _ => False) := by
  refine ⟨[F (.scr ns)], H, fun _ _ => False, fun o => ∃ e, o = .ret (B true) e, rfl, ⟨rfl, Ex.refl _, fun i t e => ?_, fun _ _ _ z => z.elim, fun _ _ z => z.elim⟩, hS _ ⟨_, rfl⟩, ?_, ?_⟩
  · cases i with
    | zero =>
      cases e
      exact ⟨_, rfl, ⟨a, rfl, h⟩, fun _ z => nomatch z⟩
    | succ i => cases e
  · rintro t ts' v G' H' P' F' ⟨e, h1⟩ _ _ tr _
    cases h1
    exact tr.1
  · rintro k fs ts' ⟨e, h1⟩
    cases h1
end TL
/-! TK: classes without an __init__ of their own; the head's facts of them. -/
namespace TL
open PySem PySem.Spec PyProof.Rows L2
structure Mk0 (K : PySem.W.Frag) (C : Addr) : Prop where
  makes : PySem.W.makesIn K C = true
  init : PySem.W.findIn K (.ref C) "__init__" = some (some (.builtin "object.__init__"))
  top : PySem.W.mroIn K C (.type "object") = some true
  kp : PySem.W.keepIn K (.ref C) = true
section
variable {X : Cx} {C : Addr} {pins : List (Addr × Obj)} {σ : L2.St} {H : Hp} {s : Shared} {Q : VK}
theorem run_make0 (M : Mk0 X.K C) (I : Inv X pins σ H s) (h : ∀ x dx, H x = none → H dx = none → dx ≠ x → Q (.ref x) (upd (upd H dx (.own x)) x (.ins C dx []))) :
    wpAny (model X.prog X.w) X.A (call (.ref C) []) (EP X pins σ Q) X.xe s := by
  have hq := h (s.heap.objs.size + 1) s.heap.objs.size (I.hok.fresh (Nat.le_succ _)) (I.hok.fresh (Nat.le_refl _)) (Nat.ne_of_lt (Nat.lt_succ_self _))
  have I2 := Inv.made (C := C) I
  have ho : ((s.heap.push PySem.W.emptyDict).push (PySem.W.instObj C s.heap.objs.size)).get? (s.heap.objs.size + 1) = some (PySem.W.instObj C s.heap.objs.size) := by
    have := Heap.get?_push_size (s.heap.push PySem.W.emptyDict) (o := PySem.W.instObj C s.heap.objs.size) rfl
    rwa [Heap.size_push] at this
  refine wpAny_call (make_map0 I.kIn M.makes M.init (fun self => PySem.W.Looks.of_pure (PySem.W.oi_bind self)) ?_)
  have t1 : PySem.W.Looks (model X.prog X.w) ((s.heap.push PySem.W.emptyDict).push (PySem.W.instObj C s.heap.objs.size)) (typeOf (.ref (s.heap.objs.size + 1))) (.ref C) := NwA.type_at ho rfl
  have t2 : PySem.W.Looks (model X.prog X.w) ((s.heap.push PySem.W.emptyDict).push (PySem.W.instObj C s.heap.objs.size)) (isInstance (.ref (s.heap.objs.size + 1)) (.type "object")) true := t1.andThen (PySem.W.looks_mroIn I2.kIn M.top)
  refine codeAny_call_builtin PySem.W.oi_plain PySem.W.entry_oi (@PySem.W.check_slot (model X.prog X.w) _ _ _ "object.__init__" "object" "__init__" (.ref (s.heap.objs.size + 1)) [] [] _ PySem.W.oi_kind PySem.W.oi_split t2 (NwA.oi_args_any (.ref (s.heap.objs.size + 1)) [] []) ?_)
  rw [PySem.W.oi_run]
  exact wpAny_pure ⟨rfl, V.ref (s.heap.objs.size + 1), _, I2, rfl, hq⟩
/-- C() without an __init__ -/
def tMake0 (C : Addr) : TE := fun σ H Q => ∀ x dx, H x = none → H dx = none → dx ≠ x → Q (.ref x) (upd (upd H dx (.own x)) x (.ins C dx []))
theorem pe_mk0 {x : Str} {p pos : Pos} (M : Mk0 X.K C) (hm : X.mg x = some (.ref C)) (hg : Gl X x := by rfl) (hdb : (x == ("__debug__" : Str)) = false := by decide) : PE X (.Call (.Name x p) [] [] pos) (tMake0 C) := by
  refine ⟨fun pins s σ H Q I h => ?_⟩
  refine wpAny_Call_Name_kw (ld_glob I hg hm ?_ hdb)
  exact PySem.W.callWith_K0 I.kIn M.kp (run_make0 M I h)
end
section
variable {A : Amb} {env : Env} {Post : T → Env → Prop}
/-- a new instance without attributes, fixed at once -/
theorem we_mk0 {k : Nat} (q : Post (.frz none (.ins k [])) env) : WE A (tMake0 (A.c.cls k)) env Post := fun G H σ P s Q kq => by
  intro x dx hx hdx ne
  have s1 := s.beside_new (o := .own x) hdx
  have hx1 : upd H dx (.own x) x = none := by rw [upd_ne (Ne.symm ne)]; exact hx
  have r := s1.fixed_new (o := .ins (A.c.cls k) dx []) hx1
  have st1 : Stp G H (uP P) G (upd H dx (.own x)) (uP P) := ⟨Ex.refl _, fun a o e _ => ex_new hdx a o e, fun a z => .inl z, fun a z => .inl z⟩
  have st2 := Stp.fixed_new s1 (o := .ins (A.c.cls k) dx []) hx1 (U := uP P)
  exact kq _ _ (.ref x) _ _ P noF q ⟨r, (st1.trans st2).wk (fun _ h => h) fun a z => by rcases z with z | z; exact .inl z; exact z.elim, .flat ⟨x, dx, [], rfl, upd_same, rfl⟩ fun _ z => nomatch z⟩
end
/-! ### the head's facts: classes without an __init__ -/
theorem mk0_ok {K : PySem.W.Frag} {x : Str} (h : mk0B K x = true) : Mk0 K (He.ga K x) := by
  obtain ⟨h1, h⟩ := He.ba h
  obtain ⟨h2, h⟩ := He.ba h
  obtain ⟨h3, h4⟩ := He.ba h
  exact ⟨h1, He.eqO_ok h2, of_decide_eq_true h3, h4⟩
end TL
/-! TV: what only reads; tuples of one's own; what stands within one's own. -/
namespace TL
open PySem PySem.Spec PyProof.Rows L2
mutual
/-- no leaf leans on the store -/
def T.clean : T → Bool
  | .frz _ (.int _) => true | .frz _ (.bl _) => true | .frz _ (.str _) => true | .frz _ .non => true
  | .frz _ _ => false
  | .lst ts => T.cleans ts | .tup ts => T.cleans ts
  | _ => false
def T.cleans : List T → Bool
  | [] => true
  | t :: ts => t.clean && T.cleans ts
end
theorem cleans_I : ∀ ns : List Int, T.cleans (ns.map I) = true
  | [] => rfl
  | n :: ns => by show (true && T.cleans (ns.map I)) = true; rw [cleans_I ns]; rfl
section
variable {c : Cn} {G H G' : Hp}
mutual
theorem TR.cleaned : ∀ {t : T} {F : As} {v : V}, TR c G' H t F v → t.clean = true → (∀ a, F a → G a = none) → TR c G H t F v
  | .frz ov (.int _), F, v, h, _, _ => h
  | .frz ov (.bl _), F, v, h, _, _ => h
  | .frz ov (.str _), F, v, h, _, _ => h
  | .frz ov .non, F, v, h, _, _ => h
  | .frz ov (.lst _), F, v, h, hc, _ => absurd (show false = true from hc) Bool.false_ne_true
  | .frz ov (.tup _), F, v, h, hc, _ => absurd (show false = true from hc) Bool.false_ne_true
  | .frz ov (.dik _), F, v, h, hc, _ => absurd (show false = true from hc) Bool.false_ne_true
  | .frz ov (.dit _), F, v, h, hc, _ => absurd (show false = true from hc) Bool.false_ne_true
  | .frz ov (.ins _ _), F, v, h, hc, _ => absurd (show false = true from hc) Bool.false_ne_true
  | .frz ov (.scr _), F, v, h, hc, _ => absurd (show false = true from hc) Bool.false_ne_true
  | .frz ov (.oth _), F, v, h, hc, _ => absurd (show false = true from hc) Bool.false_ne_true
  | .lst ts, F, v, ⟨p, vs, F1, h1, h2, h3, h4, h5, h6⟩, hc, g => ⟨p, vs, F1, h1, h2, g _ h2, h4, h5, TRs.cleaned h6 hc fun a z => g a (h5 a z).1⟩
  | .tup ts, F, v, ⟨p, vs, F1, h1, h2, h3, h4, h5, h6⟩, hc, g => ⟨p, vs, F1, h1, h2, g _ h2, h4, h5, TRs.cleaned h6 hc fun a z => g a (h5 a z).1⟩
  | .dik ts, F, v, _, hc, _ => absurd (show false = true from hc) Bool.false_ne_true
  | .dit ts, F, v, _, hc, _ => absurd (show false = true from hc) Bool.false_ne_true
  | .ins _ ts, F, v, _, hc, _ => absurd (show false = true from hc) Bool.false_ne_true
theorem TRs.cleaned : ∀ {ts : List T} {F : As} {vs : List V}, TRs c G' H ts F vs → T.cleans ts = true → (∀ a, F a → G a = none) → TRs c G H ts F vs
  | [], F, vs, h, _, _ => h
  | t :: ts, F, vs, ⟨v, r, F1, F2, h1, h2, h3, h4, h5⟩, hc, g => by
    obtain ⟨c1, c2⟩ := Bool.and_eq_true_iff.mp (show (t.clean && T.cleans ts) = true from hc)
    exact ⟨v, r, F1, F2, h1, h2, h3, TR.cleaned h4 c1 fun a z => g a (h2 a z), TRs.cleaned h5 c2 fun a z => g a (h3 a z).1⟩
end
end
/-- all that stands is fixed for a while -/
abbrev Amb.fr (A : Amb) (H : Hp) (σ : L2.St) : Amb := ⟨A.c, H, H, uP fun _ => noF, σ, A.keep⟩
def vw : Option T → Option T
  | some t => some (.frz none t.data)
  | none => none
section
variable {A : Amb} {G H G' H' : Hp} {σ : L2.St} {env : Env} {P P' : Nat → As} {X X' X1 : As} {v x y z : V} {t t1 t2 : T} {vs : List V} {as : List Ar} {ta tb te : TE} {r : R2} {ts : List T} {a b : Ar} {Post : T → Env → Prop} {nx bk ct : Env → Prop} {rt : T → Env → Prop}
theorem SR.frozen (s : SR A G H σ env P) : SR (A.fr H σ) H H σ (env.map vw) (fun _ => noF) where
  len := by rw [List.length_map]; exact s.len
  le := Ex.refl _
  slot := fun i t e => by
    rw [List.getElem?_map] at e
    cases q : env[i]? with
    | none => rw [q] at e; cases e
    | some o => cases o with
      | none => rw [q] at e; cases e
      | some u =>
        rw [q] at e
        cases e
        obtain ⟨w, hw, tw⟩ := s.slot i u q
        exact ⟨w, hw, tw.view s.le, fun _ z => nomatch z⟩
  dis := fun _ _ _ z => z.elim
  own := fun _ _ z => z.elim
  base := Stp.refl
  kp := fun _ _ => rfl
theorem thawed (s : SR A G H σ env P) {G2 H2 : Hp} {U' : As} (st : Stp H H (uP fun _ => noF) G2 H2 U') : SR A G H2 σ env P ∧ Stp G H (uP P) G H2 (uP P) ∧ ∀ a, U' a → H a = none := by
  have ex : Ex H H2 := fun a o e => st.h a o e fun ⟨_, z⟩ => z
  have st2 : Stp G H (uP P) G H2 (uP P) := ⟨Ex.refl _, fun a o e _ => ex a o e, fun a z => .inl z, fun a z => .inl z⟩
  refine ⟨⟨⟨s.len, s.le.trans ex, fun i t e => ?_, s.dis, fun i a z => ⟨(s.own i a z).1, ?_⟩⟩, s.base.trans st2, s.kp⟩, st2, fun a z => ?_⟩
  · obtain ⟨w, hw, tw⟩ := s.slot i t e
    exact ⟨w, hw, tw.mono (Ex.refl _) (fun _ h => h) (fun a o _ e => ex a o e) fun a z => (s.own i a z).1⟩
  · cases q : H a with
    | none => exact absurd q (s.own i a z).2
    | some o => rw [ex a o q]; exact Option.some_ne_none _
  · rcases st.n a z with ⟨_, y⟩ | y
    · exact y.elim
    · exact y
/-- what only reads, and gives what is new or flat -/
theorem we_view (h : ∀ H σ, WE (A.fr H σ) te (env.map vw) fun t _ => t.clean = true ∧ Post t env) : WE A te env Post := fun G H σ P s Q k => by
  refine h H σ H H σ _ s.frozen Q fun t e v G2 H2 P2 F2 p r => ?_
  obtain ⟨s2, st2, new⟩ := thawed s r.st
  have nf : ∀ a, F2 a → H a = none := fun a z => new a (.inr z)
  refine k t env v G H2 P F2 p.2 ⟨s2, st2.wk (fun _ h => h) fun a z => ?_, r.tm.tr.cleaned p.1 fun a z => s.gnone (nf a z), fun a z => ⟨fun ⟨i, y⟩ => (s.own i a y).2 (nf a z), s.gnone (nf a z), (r.tm.fd a z).2.2⟩, fun a z => s.bnew (nf a z)⟩
  rcases z with z | z
  · exact .inl z
  · exact .inr (.inr (nf a z))
theorem wt_view {tt : TT} {Post : Bool → Env → Prop} (h : ∀ H σ, WT (A.fr H σ) tt (env.map vw) fun b _ => Post b env) : WT A tt env Post := fun G H σ P s Q k => by
  refine h H σ H H σ _ s.frozen Q fun b e G2 H2 P2 p _ st => ?_
  obtain ⟨s2, st2, _⟩ := thawed s st
  exact k b env G H2 P p s2 st2
/-! ### a tuple of one's own -/
theorem alloc_own (s : SR A G H σ env P) (tr : TRs A.c G H ts X vs) (fd : ∀ a, X a → ¬ uP P a ∧ G a = none ∧ H a ≠ none) (bs : ∀ a, X a → A.U a ∨ A.H a = none) {p : Addr} (hp : H p = none) :
    Res A G H (fun a => uP P a ∨ X a) σ (.tup ts) env (.ref p) G (upd H p (.tup vs)) P (fun a => X a ∨ a = p) where
  sr := s.beside_new hp
  st := (Stp.new hp).wk (fun _ h => h) fun a z => by
    rcases z with z | z | z
    · exact .inl (.inl (.inl z))
    · exact .inl (.inl (.inr z))
    · exact .inl (.inr z)
  tm := ⟨⟨p, vs, X, rfl, .inr rfl, s.gnone hp, upd_same, fun a z => ⟨.inl z, fun e => by subst e; exact (fd a z).2.2 hp⟩, tr.mono (Ex.refl _) (fun _ z => z) (fun a o _ e => ex_new hp a o e) fun a z => (fd a z).2.1⟩, fun a z => by
    rcases z with z | z
    · exact ⟨(fd a z).1, (fd a z).2.1, fun q => by
        cases q2 : H a with
        | none => exact (fd a z).2.2 q2
        | some u => rw [ex_new hp a u q2] at q; cases q⟩
    · subst z
      exact ⟨fun ⟨i, y⟩ => (s.own i a y).2 hp, s.gnone hp, by rw [upd_same]; exact Option.some_ne_none _⟩, fun a z => by
    rcases z with z | z
    · exact bs a z
    · subst z; exact s.bnew hp⟩
theorem we_tupO {tr : TA} (h : WA A tr env fun as e => ∃ ts, tmps as = some ts ∧ as.length ≤ 1000 ∧ Post (.tup ts) e) : WE A (tTup tr) env Post := fun G H σ P s Q k => by
  refine h G H σ P s _ fun as e vs G1 H1 P1 F1 p1 r1 => ?_
  obtain ⟨ts, ht, hl, hp⟩ := p1
  refine ⟨by rw [r1.tm.tr.len, sizeLine_eq]; omega, fun p hn => ?_⟩
  have r2 := alloc_own r1.sr (tmps_tr ht r1.tm.tr) r1.tm.fd r1.tm.bs hn
  exact k _ _ _ _ _ _ _ hp ⟨r2.sr, r1.st.trans r2.st, r2.tm⟩
/-! ### a, b = a tuple of one's own -/
def WGT (A : Amb) (W : Nat → Prop) (gs : TGs) (ts : List T) (env : Env) (Post : Env → Prop) : Prop := ∀ G H σ P X vs, SR A G H σ env P → TRs A.c G H ts X vs → (∀ a, X a → ¬ uP P a ∧ G a = none ∧ H a ≠ none) → (∀ a, X a → A.U a ∨ A.H a = none) → ∀ Q : L2.St → Hp → Prop,
  (∀ env' G' H' σ' P', Post env' → SR A G' H' σ' env' P' → Stp G H (fun a => uP P a ∨ X a) G' H' (uP P') → σ'.length = σ.length → (∀ j, ¬ W j → σ'[j]? = σ[j]?) → Q σ' H') → gs vs σ H Q
theorem wgt_nil {W : Nat → Prop} {Post : Env → Prop} (h : Post env) : WGT A W gNil [] env Post := fun G H σ P X vs s rp _ _ Q k => ⟨rp, k _ G H σ P h s (Stp.refl.wk (fun _ z => .inl z) fun _ z => .inl z) rfl fun _ _ => rfl⟩
theorem wgt_cons {W : Nat → Prop} {g : TG} {gs : TGs} {t : T} {ts : List T} {Post : Env → Prop} (h : WG A W g t env fun e => WGT A W gs ts e Post) : WGT A W (gCons g gs) (t :: ts) env Post := fun G H σ P X vs s tr fd bs Q k => by
  obtain ⟨v, r, F1, F2, e, h1, h2, h3, h4⟩ := tr
  refine ⟨v, r, e, h G H σ P v F1 s ⟨h3, fun a z => fd a (h1 a z), fun a z => bs a (h1 a z)⟩ _ fun e1 G1 H1 σ1 P1 q1 s1 st1 l1 w1 => ?_⟩
  have nu : ∀ a, F2 a → ¬ (uP P a ∨ F1 a) := fun a z y => by
    rcases y with y | y
    · exact (fd a (h2 a z).1).1 y
    · exact (h2 a z).2 y
  have kp : ∀ a o, F2 a → H a = some o → H1 a = some o := fun a o z e => st1.h a o e (nu a z)
  have g1 : ∀ a, F2 a → G1 a = none := fun a z => by
    cases q : G1 a with
    | none => rfl
    | some o =>
      rcases st1.m a (by rw [q]; exact Option.some_ne_none _) with y | y | y
      · exact absurd (fd a (h2 a z).1).2.1 y
      · exact absurd y (nu a z)
      · exact absurd y (fd a (h2 a z).1).2.2
  refine q1 G1 H1 σ1 P1 F2 r s1 (h4.mono st1.g (fun _ z => z) kp g1) (fun a z => ⟨fun y => ?_, g1 a z, fun y => ?_⟩) (fun a z => bs a (h2 a z).1) Q fun e2 G2 H2 σ2 P2 q2 s2 st2 l2 w2 => ?_
  · rcases st1.n a y with y | y
    · exact nu a z y
    · exact (fd a (h2 a z).1).2.2 y
  · cases q : H a with
    | none => exact (fd a (h2 a z).1).2.2 q
    | some o => rw [kp a o z q] at y; cases y
  · exact k e2 G2 H2 σ2 P2 q2 s2 ((st1.frame F2).wk (V := fun a => uP P a ∨ X a) (fun a z => by
      rcases z with (z | z) | z
      · exact .inl z
      · exact .inr (h1 a z)
      · exact .inr (h2 a z).1) (fun a z => .inl z) |>.trans st2) (l2.trans l1) fun j hj => (w2 j hj).trans (w1 j hj)
theorem wg_tupO {W : Nat → Prop} {n : Nat} {gs : TGs} {ts : List T} {Post : Env → Prop} (hn : ts.length = n) (h : WGT A W gs ts env Post) : WG A W (gTup A.c.K n gs) (.tup ts) env Post := fun G H σ P v X s m Q k => by
  obtain ⟨p, ws, F1, e1, h2, h3, h4, h5, h6⟩ := m.tr
  exact ⟨p, ws, e1, SqT.of h4, by rw [trs_len h6, hn], h G H σ P F1 ws s h6 (fun a z => m.fd a (h5 a z).1) (fun a z => m.bs a (h5 a z).1) Q fun e G' H' σ' P' q s' st l w => k e G' H' σ' P' q s' (st.wk (fun a z => by
    rcases z with z | z
    · exact .inl z
    · exact .inr (h5 a z).1) fun _ z => .inl z) l w⟩
end
end TL
/-! TW1: enumerate, zip; comprehensions without effects. -/
namespace TL
open PySem PySem.Spec PyProof.Rows L2
/-- the i-th number -/
def gi (ns : List Int) (i : Nat) : Int := ns.getD i 0
theorem gi_at {ns : List Int} {i : Nat} (h : i < ns.length) : ns[i]? = some (gi ns i) := by
  unfold gi
  rw [List.getD_eq_getElem?_getD, List.getElem?_eq_getElem h]; rfl
theorem gi_mem {ns : List Int} {i : Nat} (h : i < ns.length) : gi ns i ∈ ns := List.mem_of_getElem? (gi_at h)
theorem gi_map {n : Nat} {f : Nat → Int} {i : Nat} (h : i < n) : gi ((List.range n).map f) i = f i := by
  unfold gi
  rw [List.getD_eq_getElem?_getD, List.getElem?_map, List.getElem?_range h]; rfl
theorem ext_gi {a b : List Int} (hl : a.length = b.length) (h : ∀ i, i < a.length → gi a i = gi b i) : a = b := by
  refine List.ext_getElem? fun i => ?_
  by_cases hi : i < a.length
  · rw [gi_at hi, gi_at (hl ▸ hi), h i hi]
  · rw [List.getElem?_eq_none (by omega), List.getElem?_eq_none (by omega)]
section
variable {A : Amb} {G H G' H' : Hp} {σ : L2.St} {env : Env} {P P' : Nat → As} {X X' X1 : As} {v x y z : V} {t t1 t2 : T} {vs : List V} {as : List Ar} {ta tb te : TE} {r : R2} {ts : List T} {a b : Ar} {Post : T → Env → Prop} {nx bk ct : Env → Prop} {rt : T → Env → Prop}
/-- what was made on the way, all of it, is fixed -/
theorem fixA (s : SR A G H σ env P) (m : TmpA A G H σ P as X vs) (ht : tmps as = some ts) : SR A (frzH G H X) H σ env P ∧ Stp G H (fun a => uP P a ∨ X a) (frzH G H X) H (uP P) ∧ Reps A.c (frzH G H X) (T.datas ts) vs := by
  have e1 : Ex G (frzH G H X) := frzH_ex s.le
  have rp : Reps A.c (frzH G H X) (T.datas ts) vs := (tmps_tr ht m.tr).freeze e1 fun a o f e => by rw [frzH_in f]; exact e
  have st : Stp G H (fun a => uP P a ∨ X a) (frzH G H X) H (uP P) := ⟨e1, fun _ _ e _ => e, fun a z => .inl (.inl z), fun a z => by
    by_cases f : X a
    · exact .inr (.inl (.inr f))
    · rw [frzH_out f] at z; exact .inl z⟩
  have out : ∀ i a, P i a → frzH G H X a = none := fun i a z => by
    rw [frzH_out fun f => (m.fd a f).1 ⟨i, z⟩]
    exact (s.own i a z).1
  have stb : Stp A.G A.H A.U G H (fun a => uP P a ∨ X a) := ⟨s.base.g, s.base.h, fun a z => by
    rcases z with z | z
    · exact s.base.n a z
    · exact m.bs a z, s.base.m⟩
  exact ⟨⟨⟨s.len, frzH_le s.le, fun i t e => by
    obtain ⟨w, hw, tw⟩ := s.slot i t e
    exact ⟨w, hw, tw.mono e1 (fun _ h => h) (fun _ _ _ e => e) fun a z => out i a z⟩, s.dis, fun i a z => ⟨out i a z, (s.own i a z).2⟩⟩, stb.trans st, s.kp⟩, st, rp⟩
theorem yield_tup (s : SR A G H σ env P) {ds : List D} (rp : Reps A.c G ds vs) {p : Addr} (hp : H p = none) :
    ∃ G2, SR A G2 (upd H p (.tup vs)) σ env P ∧ Ex G G2 ∧ Stp G H (uP P) G2 (upd H p (.tup vs)) (uP P) ∧ Rep A.c G2 (.tup ds) (.ref p) :=
  ⟨upd G p (.tup vs), s.fixed_new hp, ex_upd (s.gnone hp), Stp.fixed_new s hp, p, vs, rfl, upd_same, rp.mono (ex_upd (s.gnone hp))⟩
/-- enumerate(xs) -/
theorem wi_enum {tr : TA} {Post : Nat → (Nat → D) → Env → Prop} (h : WA A tr env fun as e => ∃ t ds, as = [.t t] ∧ t.data = .lst ds ∧ Post ds.length (fun i => .tup [.int i, ds.getD i .non]) e) : WI A (iEnum A.c.K tr) env Post := fun G H σ P s R k => by
  refine h G H σ P s _ fun as e vs G1 H1 P1 F1 p1 r1 => ?_
  obtain ⟨t, ds, rfl, hd, hp⟩ := p1
  obtain ⟨s2, st2, rp⟩ := fixA r1.sr r1.tm (ts := [t]) rfl
  obtain ⟨w, r', e1, rp1, rp2⟩ := rp
  cases rp2
  subst e1
  rw [hd] at rp1
  obtain ⟨p, ws, rfl, hp2, hr⟩ := rp1
  refine ⟨p, ws, rfl, SqL.of (s2.le _ _ hp2), k _ _ _ _ _ _ _ hp s2 (r1.st.trans st2) fun G' H' σ' env' P' s' ex i => ?_⟩
  have hq : SqL A.c.K H' p ws := SqL.of (s'.le _ _ (ex _ _ hp2))
  have hl := reps_len hr
  refine ⟨fun hi => ⟨ws, hq, by omega⟩, fun hi => ?_⟩
  obtain ⟨w, hw, rw_⟩ := reps_at hr (j := i) (d := ds.getD i .non) (by rw [List.getD_eq_getElem?_getD, List.getElem?_eq_getElem hi]; rfl)
  refine ⟨⟨ws, w, hq, hw⟩, fun x H2 y => ?_⟩
  obtain ⟨T, x', rfl, hT, rfl, y2⟩ := y
  have e2 := y2 ws hq
  rw [hw] at e2
  cases e2
  exact yield_tup (ds := [.int (i : Nat), ds.getD i .non]) (vs := [.int (i : Nat), w]) s' ⟨.int (i : Nat), [w], rfl, rfl, w, [], rfl, rw_.mono ex, rfl⟩ hT
/-- zip(xs, ys) -/
theorem wi_zip {tr : TA} {Post : Nat → (Nat → D) → Env → Prop} (h : WA A tr env fun as e => ∃ t1 t2 ds es, as = [.t t1, .t t2] ∧ t1.data = .lst ds ∧ t2.data = .lst es ∧ Post (min ds.length es.length) (fun i => .tup [ds.getD i .non, es.getD i .non]) e) : WI A (iZip A.c.K tr) env Post := fun G H σ P s R k => by
  refine h G H σ P s _ fun as e vs G1 H1 P1 F1 p1 r1 => ?_
  obtain ⟨t1, t2, ds, es, rfl, hd, he, hp⟩ := p1
  obtain ⟨s2, st2, rp⟩ := fixA r1.sr r1.tm (ts := [t1, t2]) rfl
  obtain ⟨w, r', e1, rp1, w2, r2, e2, rp2, rp3⟩ := rp
  cases rp3
  subst e2 e1
  rw [hd] at rp1
  rw [he] at rp2
  obtain ⟨p, ws, rfl, hp2, hr⟩ := rp1
  obtain ⟨p', ws', rfl, hp3, hr'⟩ := rp2
  refine ⟨p, p', ws, ws', rfl, SqL.of (s2.le _ _ hp2), SqL.of (s2.le _ _ hp3), k _ _ _ _ _ _ _ hp s2 (r1.st.trans st2) fun G' H' σ' env' P' s' ex i => ?_⟩
  have hq : SqL A.c.K H' p ws := SqL.of (s'.le _ _ (ex _ _ hp2))
  have hq' : SqL A.c.K H' p' ws' := SqL.of (s'.le _ _ (ex _ _ hp3))
  have hl := reps_len hr
  have hl' := reps_len hr'
  refine ⟨fun hi => ⟨ws, ws', hq, hq', by omega⟩, fun hi => ?_⟩
  have hi1 : i < ds.length := by omega
  have hi2 : i < es.length := by omega
  obtain ⟨w, hw, rw_⟩ := reps_at hr (j := i) (d := ds.getD i .non) (by rw [List.getD_eq_getElem?_getD, List.getElem?_eq_getElem hi1]; rfl)
  obtain ⟨w', hw', rw'⟩ := reps_at hr' (j := i) (d := es.getD i .non) (by rw [List.getD_eq_getElem?_getD, List.getElem?_eq_getElem hi2]; rfl)
  refine ⟨⟨ws, ws', w, w', hq, hq', hw, hw'⟩, fun x H2 y => ?_⟩
  obtain ⟨T, x', y', rfl, hT, rfl, y2, y3⟩ := y
  have e2 := y2 ws hq
  rw [hw] at e2
  cases e2
  have e3 := y3 ws' hq'
  rw [hw'] at e3
  cases e3
  exact yield_tup (ds := [ds.getD i .non, es.getD i .non]) (vs := [w, w']) s' ⟨w, [w'], rfl, rw_.mono ex, w', [], rfl, rw'.mono ex, rfl⟩ hT
end
theorem getD_int {ns : List Int} {i : Nat} (h : i < ns.length) : (ns.map D.int).getD i .non = .int (gi ns i) := by
  rw [List.getD_eq_getElem?_getD, List.getElem?_map, gi_at h]; rfl
theorem getD_map {n : Nat} {f : Nat → D} {i : Nat} (h : i < n) : ((List.range n).map f).getD i .non = f i := by
  rw [List.getD_eq_getElem?_getD, List.getElem?_map, List.getElem?_range h]; rfl
/-! ### loops, in the shapes that the rules ask -/
section
variable {A : Amb} {env : Env} {g : TG} {tb : TS} {nx bk ct : Env → Prop} {rt : T → Env → Prop} {te : TE} {R : List T → Env → Prop}
theorem loop_n {n : Nat} {it : Nat → D} {e0 : Env} (J : Env → Nat → Env → Prop) (h0 : J e0 0 e0) (hs : ∀ i e, i < n → J e0 i e → WG A wAll g (.frz none (it i)) e fun e => WS A tb e (J e0 (i + 1)) rt nx (J e0 (i + 1))) (hd : ∀ e, J e0 n e → nx e) :
    ∃ Inv : Nat → Env → Prop, Inv 0 e0 ∧ (∀ i e, i < n → Inv i e → WG A wAll g (.frz none (it i)) e fun e => WS A tb e (Inv (i + 1)) rt nx (Inv (i + 1))) ∧ ∀ e, Inv n e → nx e := ⟨J e0, h0, hs, hd⟩
/-- a comprehension without effects: the i-th thing is f i -/
theorem lc_n {ws : List Nat} {n : Nat} {it : Nat → D} {e0 : Env} (hn : n ≤ 100000) (f : Nat → T)
    (hs : ∀ i, i < n → WG A (fun j => j ∈ ws) g (.frz none (it i)) (wipeE e0 ws) fun e1 => WE A te e1 fun t e3 => t = f i ∧ wipeE e3 ws = wipeE e0 ws)
    (q : R ((List.range n).map f) (wipeE e0 ws)) : n ≤ 100000 ∧ ∃ Inv : Nat → List T → Env → Prop, Inv 0 [] (wipeE e0 ws) ∧
      (∀ i acc e, i < n → acc.length ≤ i → Inv i acc e → WG A (fun j => j ∈ ws) g (.frz none (it i)) e fun e1 => WT A tYes e1 fun b e2 => (b = true → WE A te e2 fun t e3 => Inv (i + 1) (acc ++ [t]) (wipeE e3 ws)) ∧ (b = false → Inv (i + 1) acc (wipeE e2 ws))) ∧
      ∀ acc e, acc.length ≤ n → Inv n acc e → R acc e :=
  ⟨hn, fun i acc e => acc = (List.range i).map f ∧ e = wipeE e0 ws, ⟨rfl, rfl⟩, fun i acc e hlt hl ⟨ha, he⟩ => by
    rw [he]
    refine fun G H σ P v X s m Q k => hs i hlt G H σ P v X s m Q fun e' G' H' σ' P' q' s' st l w => k e' G' H' σ' P' (wt_yes ⟨fun _ => ?_, fun z => nomatch z⟩) s' st l w
    exact we_imp q' fun t e3 ⟨h1, h2⟩ => ⟨by rw [ha, h1, List.range_succ, List.map_append]; rfl, h2⟩, fun acc e hl ⟨ha, he⟩ => by rw [ha, he]; exact q⟩
theorem lc_rng {ws : List Nat} {j : Int} {e0 : Env} (f : Nat → T)
    (hs : ∀ i : Nat, (i : Int) < j → WG A (fun j => j ∈ ws) g (I i) (wipeE e0 ws) fun e1 => WE A te e1 fun t e3 => t = f i ∧ wipeE e3 ws = wipeE e0 ws)
    (q : R ((List.range j.toNat).map f) (wipeE e0 ws)) : ∃ Iv : Nat → List T → Env → Prop, Iv 0 [] (wipeE e0 ws) ∧
      (∀ (i : Nat) acc e, (i : Int) < j → acc.length ≤ i → Iv i acc e → WG A (fun j => j ∈ ws) g (I i) e fun e1 => WT A tYes e1 fun b e2 => (b = true → WE A te e2 fun t e3 => Iv (i + 1) (acc ++ [t]) (wipeE e3 ws)) ∧ (b = false → Iv (i + 1) acc (wipeE e2 ws))) ∧
      ∀ acc e, acc.length ≤ j.toNat → Iv j.toNat acc e → R acc e :=
  ⟨fun i acc e => acc = (List.range i).map f ∧ e = wipeE e0 ws, ⟨rfl, rfl⟩, fun i acc e hlt hl ⟨ha, he⟩ => by
    rw [he]
    refine fun G H σ P v X s m Q k => hs i hlt G H σ P v X s m Q fun e' G' H' σ' P' q' s' st l w => k e' G' H' σ' P' (wt_yes ⟨fun _ => ?_, fun z => nomatch z⟩) s' st l w
    exact we_imp q' fun t e3 ⟨h1, h2⟩ => ⟨by rw [ha, h1, List.range_succ, List.map_append]; rfl, h2⟩, fun acc e hl ⟨ha, he⟩ => by rw [ha, he]; exact q⟩
end
theorem mapI {n : Nat} {f : Nat → Int} : (List.range n).map (fun i => I (f i)) = ((List.range n).map f).map I := by rw [List.map_map]; rfl
end TL
/-! TW2: lists of numbers; what stands within one's own. -/
namespace TL
open PySem PySem.Spec PyProof.Rows L2
theorem reps_ints {c : Cn} {H : Hp} : ∀ {ns : List Int} {us : List V}, Reps c H (ns.map D.int) us → us = ns.map V.int
  | [], us, r => r
  | n :: ns, us, ⟨v, r', e, h1, h2⟩ => by rw [e, reps_ints h2, show v = .int n from h1]; rfl
section
variable {A : Amb} {G H G' H' : Hp} {σ : L2.St} {env : Env} {P P' : Nat → As} {X X' X1 : As} {v x y z : V} {t t1 t2 : T} {vs : List V} {as : List Ar} {ta tb te : TE} {r : R2} {ts : List T} {a b : Ar} {Post : T → Env → Prop} {nx bk ct : Env → Prop} {rt : T → Env → Prop}
theorem atI_gi {ns : List Int} {i : Int} (h0 : 0 ≤ i) (h1 : i < ns.length) : atI ns i = some (gi ns i.toNat) := by
  obtain ⟨j, hj, hl, e⟩ := atI_nat (xs := ns) h0 h1
  subst hj
  rw [e]
  have : gi ns j = ns[j] := by
    have := gi_at (ns := ns) hl
    rw [List.getElem?_eq_getElem hl] at this
    exact (Option.some.inj this).symm
  rw [Int.toNat_natCast, this]
theorem atI_map {α β : Type} {f : α → β} {xs : List α} {i : Int} {x : α} (h : atI xs i = some x) : atI (xs.map f) i = some (f x) := by
  obtain ⟨j, hj, ej⟩ := atI_eq (ys := xs.map f) h (by simp)
  rw [ej, List.getElem?_map, hj]; rfl
theorem atI_last {α : Type} {xs : List α} (h : xs ≠ []) : atI xs (-1) = xs[xs.length - 1]? := by
  have hl : 0 < xs.length := List.length_pos_iff.mpr h
  unfold atI ixN
  have e0 : ((-1 : Int) < 0) := by decide
  have e3 : (-1 + (xs.length : Int)).toNat = xs.length - 1 := by omega
  have e1 : (0 : Int) ≤ -1 + (xs.length : Int) := by omega
  have e4 : xs.length - 1 < xs.length := by omega
  have e5 : ¬ ((xs.length : Int) + -1 < 0) := by omega
  have e6 : ((xs.length : Int) + -1).toNat = xs.length - 1 := by omega
  have e7 : (1 : Int) ≤ xs.length := by omega
  simp [e0, e1, e3, e4, e5, e6, e7]
theorem wr_ix_slotI {n : Nat} {o2 : Option V} {ns : List Int} {i : Int} (he : env[n]? = some (some (.lst (ns.map I)))) (h0 : 0 ≤ i) (h1 : i < ns.length) (q : Post (I (gi ns i.toNat)) env) : WR A (rIxA A.c.K) (.s n) (.t (.frz o2 (.int i))) env Post :=
  wr_ix_slot he (atI_map (atI_gi h0 h1)) q
theorem wr_ix_slotL {n : Nat} {o2 : Option V} {ns : List Int} {i : Int} (he : env[n]? = some (some (.lst (ns.map I)))) (hi : i = -1) (h1 : ns ≠ []) (q : Post (I (gi ns (ns.length - 1))) env) : WR A (rIxA A.c.K) (.s n) (.t (.frz o2 (.int i))) env Post := by
  subst hi
  have hl : 0 < ns.length := List.length_pos_iff.mpr h1
  exact wr_ix_slot he (atI_map (by rw [atI_last h1]; exact gi_at (by omega))) q
theorem wr_ix_frzI {o o2 : Option V} {ns : List Int} {i : Int} (h0 : 0 ≤ i) (h1 : i < ns.length) (q : Post (I (gi ns i.toNat)) env) : WR A (rIxA A.c.K) (.t (.frz o (.lst (ns.map D.int)))) (.t (.frz o2 (.int i))) env Post :=
  wr_ix_frz (atI_map (atI_gi h0 h1)) q
theorem wr_ix_frzL {o o2 : Option V} {ns : List Int} {i : Int} (hi : i = -1) (h1 : ns ≠ []) (q : Post (I (gi ns (ns.length - 1))) env) : WR A (rIxA A.c.K) (.t (.frz o (.lst (ns.map D.int)))) (.t (.frz o2 (.int i))) env Post := by
  subst hi
  have hl : 0 < ns.length := List.length_pos_iff.mpr h1
  exact wr_ix_frz (atI_map (by rw [atI_last h1]; exact gi_at (by omega))) q
theorem wr_ix_tmpIx {o2 : Option V} {ns : List Int} {i : Int} (h0 : 0 ≤ i) (h1 : i < ns.length) (q : Post (I (gi ns i.toNat)) env) : WR A (rIxA A.c.K) (.t (.lst (ns.map I))) (.t (.frz o2 (.int i))) env Post :=
  wr_ix_tmp (atI_map (atI_gi h0 h1)) q
/-- an item of a tuple made on the way -/
theorem wr_ix_tmpT {o2 : Option V} {ts : List T} {i : Int} {t : T} (h : atI ts i = some t) (q : Post t env) : WR A (rIxA A.c.K) (.t (.tup ts)) (.t (.frz o2 (.int i))) env Post := fun G H σ P x y X s m Q k => by
  obtain ⟨F1, F2, h1, _, m1, m2⟩ := m.split2
  obtain ⟨F3, h3, n1⟩ := m1.one
  obtain ⟨_, _, n2⟩ := m2.one
  obtain ⟨p, ws, F4, e1, _, _, e2, h4, e3⟩ := n1.tr
  obtain ⟨e4, _⟩ := n2.tr
  obtain ⟨j, hj, ej⟩ := atI_eq (ys := ws) h (trs_len e3)
  obtain ⟨w, F5, hw, h5, tw⟩ := trs_at e3 hj
  have sub : ∀ a, F5 a → F3 a := fun a z => (h4 a (h5 a z)).1
  exact .inl (.inr ⟨p, ws, i, w, e1, e4, SqT.of e2, by rw [ej, hw], k _ _ w G H P F5 q (.same s ⟨tw, fun a z => n1.fd a (sub a z), fun a z => n1.bs a (sub a z)⟩ (fun _ z => .inl z) fun a z => .inl (.inr (h1 a (h3 a (sub a z)))))⟩)
theorem wr_and1 {o1 o2 : Option V} {i : Int} (q : Post (I (i % 2)) env) : WR A (rI0 fun i j => .int (Builtin.bitAnd i j)) (.t (.frz o1 (.int i))) (.t (.frz o2 (.int 1))) env Post :=
  wr_I0 (g := fun i j => Builtin.bitAnd i j) (by rw [bitAnd_m1]; exact q)
/-! ### append, extend -/
theorem we_appendI {n : Nat} {ns0 : List Int} (h0 : env[n]? = some (some (.lst (ns0.map I)))) {tr : TA} (h : WA A tr env fun as e => ∃ o x, as = [.t (.frz o (.int x))] ∧ ∃ ns : List Int, e[n]? = some (some (.lst (ns.map I))) ∧ ns.length ≤ 1000000 ∧ Post N_ (e.set n (some (.lst ((ns ++ [x]).map I))))) :
    WE A (tBM A.c.K "list" rAppend (tVar n) tr) env Post := we_append h0 fun G H σ P s Q k => h G H σ P s Q fun as e vs G' H' P' F q r => by
  obtain ⟨o, x, rfl, ns, he, hl, q⟩ := q
  have r2 : ResA A G H (uP P) σ [.t (I x)] e vs G' H' P' F := ⟨r.sr, r.st, ⟨by
    obtain ⟨v, F2, e1, hF, tr⟩ := r.tm.tr.one
    subst e1
    exact ⟨v, [], F2, noF, rfl, hF, fun _ z => z.elim, ⟨tr.1, fun _ z => nomatch z⟩, rfl⟩, r.tm.fd, r.tm.bs⟩⟩
  exact k [.t (I x)] e vs G' H' P' F ⟨I x, _, rfl, he, by rw [List.length_map]; exact hl, by rw [List.map_append] at q; exact q⟩ r2
theorem we_extend {n : Nat} {ts0 : List T} (h0 : env[n]? = some (some (.lst ts0))) {tr : TA} (h : WA A tr env fun as e => ∃ us ts, as = [.t (.lst us)] ∧ e[n]? = some (some (.lst ts)) ∧ ts.length + us.length ≤ 1000000 ∧ Post N_ (e.set n (some (.lst (ts ++ us))))) :
    WE A (tBM A.c.K "list" rExtend (tVar n) tr) env Post := fun G H σ P s Q k => by
  obtain ⟨p0, vs0, hσ0, hp0, _⟩ := ty_slot s h0
  refine ⟨_, hσ0, .inl ⟨rfl, _, SqL.of hp0⟩, h G H σ P s _ fun as e1 vs G1 H1 P1 F1 p1 r1 => ?_⟩
  obtain ⟨us, ts, rfl, he, hl, hp⟩ := p1
  obtain ⟨y, F2, rfl, hF2, b, zs, F6, rfl, hb, hgb, hHb, hF6, trz⟩ := r1.tm.tr.one
  obtain ⟨q, ws, F3, hσ, hq, hPq, hF, trs, mk⟩ := slot_list r1.sr he r1.tm.fd r1.tm.bs (us := ts ++ us)
  rw [hσ0] at hσ
  cases hσ
  refine ⟨p0, b, ws, zs, rfl, rfl, hq, hHb, by rw [trs_len trs, trs_len trz, sizeLine_eq]; omega, ?_⟩
  have sub : ∀ a, F6 a → F1 a := fun a z => hF2 a (hF6 a z).1
  obtain ⟨s2, st2⟩ := mk (ws ++ zs) fun H2 keep => trs_app (F1 := F3) (F2 := F6) (trs.mono (Ex.refl _) (fun _ z => z) (fun a o z e => keep a o (hF a z).2 e) fun a z => (r1.sr.own n a (hF a z).1).1)
    (trz.mono (Ex.refl _) (fun _ z => z) (fun a o z e => keep a o (fun y => (r1.tm.fd a (sub a z)).1 ⟨n, by subst y; exact hPq⟩) e) fun a z => (r1.tm.fd a (sub a z)).2.1) (fun a z => .inl z) (fun a z => ⟨.inr (sub a z), fun y => (r1.tm.fd a (sub a z)).1 ⟨n, (hF a y).1⟩⟩) fun a z => by
      rcases z with z | z
      · exact (r1.sr.own n a (hF a z).1).1
      · exact (r1.tm.fd a z).2.1
  exact k N_ _ .non _ _ _ noF hp ⟨s2, (r1.st.trans st2).wk (fun _ h => h) fun a z => by
    rcases z with z | z
    · exact .inl z
    · exact z.elim, .flat rfl fun _ z => nomatch z⟩
theorem wg_subI {n : Nat} {x : Int} {ns0 : List Int} {ti : TE} {Post : Env → Prop} {W : Nat → Prop} (h : WE A ti env fun t2 e => ∃ o k, t2 = .frz o (.int k) ∧ ∃ (ns : List Int) (j : Nat), e[n]? = some (some (.lst (ns.map I))) ∧ ixN ns.length k = some j ∧ Post (e.set n (some (.lst ((ns.set j x).map I))))) (hn : env[n]? = some (some (.lst (ns0.map I)))) :
    WG A W (gSub (tVar n) ti rSetL) (.frz none (.int x)) env Post := wg_sub (we_imp h fun t e ⟨o, k, e1, ns, j, he, hj, hp⟩ => ⟨o, k, e1, _, j, he, by rw [List.length_map]; exact hj, by rw [List.map_set] at hp; exact hp⟩) ⟨_, hn⟩
/-! ### xs + ys of numbers -/
theorem wr_catI {xs ys : List Int} (h1 : arD env a = some (.lst (xs.map D.int))) (h2 : arD env b = some (.lst (ys.map D.int))) (hl : xs.length + ys.length ≤ 1000000) (q : Post (.lst ((xs ++ ys).map I)) env) : WR A (rAddA A.c.K) a b env Post := fun G H σ P x y X s m Q k => by
  obtain ⟨F1, F2, _, _, m1, m2⟩ := m.split2
  obtain ⟨p, ws, rfl, hp, rp⟩ := view s m1 h1
  obtain ⟨p', ws', rfl, hp', rp'⟩ := view s m2 h2
  have flat2 : ∀ {ns : List Int}, Reps A.c G (ns.map D.int) (ns.map V.int) := by
    intro ns
    induction ns with
    | nil => rfl
    | cons n ns ih => exact ⟨.int n, _, rfl, rfl, ih⟩
  have e1 := reps_ints rp
  have e2 := reps_ints rp'
  subst e1 e2
  refine .inl (.inl (.inr ⟨p, p', _, _, rfl, rfl, hp, hp', by rw [List.length_map, List.length_map, sizeLine_eq]; omega, fun l hl => ?_⟩))
  rw [← List.map_append]
  have r := alloc_frzs (vs := (xs ++ ys).map V.int) s (flat2 (ns := xs ++ ys)) (U0 := fun a => uP P a ∨ X a) (fun _ z => .inl z) hl
  rw [List.map_map] at r
  exact k _ _ _ _ _ _ _ q r
/-! ### in -/
def intsD : List D → Option (List Int)
  | [] => some []
  | .int i :: r => (intsD r).map (i :: ·)
  | _ => none
theorem intsD_eq : ∀ {ts : List D} {is : List Int}, intsD ts = some is → ts = is.map D.int
  | [], is, h => by cases h; rfl
  | t :: r, is, h => by
    unfold intsD at h
    split at h
    · rename_i e; cases e
    · rename_i i r' e
      cases e
      cases q : intsD r with
      | none => rw [q] at h; cases h
      | some is' =>
        rw [q] at h
        cases h
        rw [intsD_eq q]; rfl
    · cases h
theorem inV_ints {i : Int} : ∀ {is : List Int}, inV (.int i) (is.map V.int) = decide (i ∈ is)
  | [] => by simp [inV]
  | n :: is => by
    have ih := inV_ints (i := i) (is := is)
    unfold inV at ih ⊢
    rw [List.map_cons, List.any_cons, ih]
    by_cases h : i = n
    · subst h; simp [eqV]
    · have : ¬ n = i := fun e => h e.symm
      simp [eqV, h, this]
theorem wr_inT {o1 o2 : Option V} {i : Int} {ds : List D} {is : List Int} (h : intsD ds = some is) (q : Post (B (decide (i ∈ is))) env) : WR A (rInA A.c.K) (.t (.frz o1 (.int i))) (.t (.frz o2 (.tup ds))) env Post := by
  have e := intsD_eq h
  subst e
  refine wr_flat (d1 := .int i) (d2 := .tup (is.map D.int)) (d := .bl (decide (i ∈ is))) rfl rfl (fun _ => rfl) (fun H x y e1 e2 Q q => ?_) q
  cases e1
  obtain ⟨p, ws, rfl, hp, rp⟩ := e2
  have e1 : ws = is.map V.int := reps_ints rp
  subst e1
  refine .inl (.inl ⟨p, _, rfl, .inr (SqT.of hp), rfl, by simp [flatV], ?_⟩)
  show Q (.bl (if false = true then _ else inV (.int i) (is.map V.int))) H
  rw [inV_ints]
  exact q
/-! ### repr, isinstance of what a name holds or was made on the way -/
theorem fi_reprT {t : T} {d : D} (e : t.data = d) (hd : d.ok) (q : Post (S d.py.shown) env) : WC A (rRepr A.c.K) [.t t] env Post := wc_repr (by subst e; rfl) hd q
theorem fs_isi {n : Nat} {m : String} {t : T} {d : D} {k : Bool} {o : Option V} (he : env[n]? = some (some t)) (e : t.data = d) {s : String} (ht : d.tyn = some s) (hk : kitB s m = some k) (q : Post (B k) env) : WC A (rIsi A.c.K) [.s n, .t (.frz o (.oth (.ty m)))] env Post :=
  wc_isi (d := d) (by show (match env[n]? with | some (some t) => some t.data | _ => none) = _; rw [he, ← e]) ht hk q
theorem kit_ls : kitB "list" "list" = some true ∧ kitB "tuple" "tuple" = some true ∧ kitB "list" "tuple" = some false ∧ kitB "tuple" "list" = some false := by decide +kernel
theorem fs_ll {n : Nat} {ts : List T} {o : Option V} (he : env[n]? = some (some (.lst ts))) (q : Post (B true) env) : WC A (rIsi A.c.K) [.s n, .t (.frz o (.oth (.ty "list")))] env Post := fs_isi he rfl rfl kit_ls.1 q
theorem fs_tt {n : Nat} {ts : List T} {o : Option V} (he : env[n]? = some (some (.tup ts))) (q : Post (B true) env) : WC A (rIsi A.c.K) [.s n, .t (.frz o (.oth (.ty "tuple")))] env Post := fs_isi he rfl rfl kit_ls.2.1 q
theorem fl_slotT {n : Nat} {ts : List T} (he : env[n]? = some (some (.tup ts))) (q : Post (I ts.length) env) : WC A (rLenA A.c.K) [.s n] env Post := wc_len (d := .tup (T.datas ts)) (by show (match env[n]? with | some (some t) => some t.data | _ => none) = _; rw [he]; rfl) (by show some (T.datas ts).length = some ts.length; rw [datas_len]) q
theorem fl_tmpT {ts : List T} (q : Post (I ts.length) env) : WC A (rLenA A.c.K) [.t (.tup ts)] env Post := wc_len (d := .tup (T.datas ts)) rfl (by show some (T.datas ts).length = some ts.length; rw [datas_len]) q
/-! ### what stands within one's own -/
theorem trs_sub {c : Cn} : ∀ {ts us : List T} {F : As} {vs : List V} {j : Nat}, TRs c G H ts F vs → ts[j]? = some (.lst us) → (∀ a, F a → G a = none) → ∃ q ws F1, vs[j]? = some (.ref q) ∧ F q ∧ H q = some (.lst ws) ∧ (∀ a, F1 a → F a ∧ a ≠ q) ∧ TRs c G H us F1 ws ∧
    ∀ (X : As) (us' : List T) (ws' : List V), (∀ a, X a → ¬ F a ∧ G a = none) → TRs c G (upd H q (.lst ws')) us' (fun a => F1 a ∨ X a) ws' → TRs c G (upd H q (.lst ws')) (ts.set j (.lst us')) (fun a => F a ∨ X a) vs
  | t :: ts, us, F, vs, 0, ⟨v, r, F1, F2, e, h1, h2, h3, h4⟩, hj, g => by
    cases hj
    obtain ⟨q, ws, F3, rfl, b1, b2, b3, b4, b5⟩ := h3
    subst e
    refine ⟨q, ws, F3, rfl, h1 _ b1, b3, fun a z => ⟨h1 a (b4 a z).1, (b4 a z).2⟩, b5, fun X us' ws' hX tr => ?_⟩
    refine ⟨.ref q, r, fun a => F1 a ∨ X a, F2, rfl, fun a z => ?_, fun a z => ⟨.inl (h2 a z).1, fun y => ?_⟩, ⟨q, ws', fun a => F3 a ∨ X a, rfl, .inl b1, b2, upd_same, fun a z => ?_, tr⟩, ?_⟩
    · rcases z with z | z
      · exact .inl (h1 a z)
      · exact .inr z
    · rcases y with y | y
      · exact (h2 a z).2 y
      · exact (hX a y).1 (h2 a z).1
    · rcases z with z | z
      · exact ⟨.inl (b4 a z).1, (b4 a z).2⟩
      · exact ⟨.inr z, fun e => (hX a z).1 (by subst e; exact h1 _ b1)⟩
    · exact h4.mono (Ex.refl _) (fun _ z => z) (fun a o z e => by rw [upd_ne (fun y : a = q => (h2 a z).2 (by subst y; exact b1))]; exact e) fun a z => g a (h2 a z).1
  | t :: ts, us, F, vs, j + 1, ⟨v, r, F1, F2, e, h1, h2, h3, h4⟩, hj, g => by
    subst e
    obtain ⟨q, ws, F3, e1, b1, b2, b3, b4, mk⟩ := trs_sub (j := j) h4 hj fun a z => g a (h2 a z).1
    refine ⟨q, ws, F3, e1, (h2 q b1).1, b2, fun a z => ⟨(h2 a (b3 a z).1).1, (b3 a z).2⟩, b4, fun X us' ws' hX tr => ?_⟩
    refine ⟨v, r, F1, fun a => F2 a ∨ X a, rfl, fun a z => .inl (h1 a z), fun a z => ?_, h3.mono (Ex.refl _) (fun _ z => z) (fun a o z e => by rw [upd_ne (fun y : a = q => (h2 q b1).2 (by subst y; exact z))]; exact e) fun a z => g a (h1 a z), mk X us' ws' (fun a z => ⟨fun y => (hX a z).1 (h2 a y).1, (hX a z).2⟩) tr⟩
    rcases z with z | z
    · exact ⟨.inl (h2 a z).1, (h2 a z).2⟩
    · exact ⟨.inr z, fun y => (hX a z).1 (h1 a y)⟩
def setT : T → Nat → T → T
  | .lst ts, j, t => .lst (ts.set j t)
  | .tup ts, j, t => .tup (ts.set j t)
  | t, _, _ => t
def subT : T → Nat → Option T
  | .lst ts, j => ts[j]?
  | .tup ts, j => ts[j]?
  | _, _ => none
/-- the list within what a name holds takes other items -/
theorem slot_sub (s : SR A G H σ env P) {n j : Nat} {t0 : T} {us us' : List T} (he : env[n]? = some (some t0)) (hj : subT t0 j = some (.lst us)) (fd : ∀ a, X a → ¬ uP P a ∧ G a = none ∧ H a ≠ none) (bs : ∀ a, X a → A.U a ∨ A.H a = none) :
    ∃ v p vs q ws F1, v = .ref p ∧ σ[n]? = some (some v) ∧ (H p = some (.lst vs) ∨ H p = some (.tup vs)) ∧ vs[j]? = some (.ref q) ∧ H q = some (.lst ws) ∧ P n q ∧ (∀ a, F1 a → P n a ∧ a ≠ q) ∧ TRs A.c G H us F1 ws ∧ vs.length = (match t0 with | .lst ts => ts.length | .tup ts => ts.length | _ => 0) ∧
      ∀ ws', TRs A.c G (upd H q (.lst ws')) us' (fun a => F1 a ∨ X a) ws' →
        SR A G (upd H q (.lst ws')) σ (env.set n (some (setT t0 j (.lst us')))) (fun j a => P j a ∨ (j = n ∧ X a)) ∧ Stp G H (fun a => uP P a ∨ X a) G (upd H q (.lst ws')) (uP fun j a => P j a ∨ (j = n ∧ X a)) := by
  obtain ⟨v, hv, tr0⟩ := s.slot n _ he
  have nX : ∀ a, X a → ¬ P n a := fun a z y => (fd a z).1 ⟨n, y⟩
  cases t0 with
  | lst ts =>
    obtain ⟨p, vs, F1, rfl, h2, h3, h4, h5, h6⟩ := tr0
    obtain ⟨q, ws, F3, e1, b1, b2, b3, b4, mk⟩ := trs_sub h6 hj fun a z => (s.own n a (h5 a z).1).1
    refine ⟨_, p, vs, q, ws, F3, rfl, hv, .inl h4, e1, b2, (h5 q b1).1, fun a z => ⟨(h5 a (b3 a z).1).1, (b3 a z).2⟩, b4, trs_len h6, fun ws' tr => ?_⟩
    refine s.modify he hv fd bs (t1 := .lst (ts.set j (.lst us'))) ⟨p, vs, fun a => F1 a ∨ X a, rfl, .inl h2, h3, by rw [upd_ne (fun e : p = q => (h5 q b1).2 e.symm)]; exact h4, fun a z => ?_, mk X us' ws' (fun a z => ⟨fun y => nX a z (h5 a y).1, (fd a z).2.1⟩) tr⟩ (fun a o n' e => by rw [upd_ne (fun y : a = q => n' (by subst y; exact (h5 _ b1).1))]; exact e) fun a z => ?_
    · rcases z with z | z
      · exact ⟨.inl (h5 a z).1, (h5 a z).2⟩
      · exact ⟨.inr z, fun e => nX a z (by subst e; exact h2)⟩
    · by_cases q' : a = q
      · subst q'; rw [upd_same]; exact Option.some_ne_none _
      · rw [upd_ne q']; exact (s.own n a z).2
  | tup ts =>
    obtain ⟨p, vs, F1, rfl, h2, h3, h4, h5, h6⟩ := tr0
    obtain ⟨q, ws, F3, e1, b1, b2, b3, b4, mk⟩ := trs_sub h6 hj fun a z => (s.own n a (h5 a z).1).1
    refine ⟨_, p, vs, q, ws, F3, rfl, hv, .inr h4, e1, b2, (h5 q b1).1, fun a z => ⟨(h5 a (b3 a z).1).1, (b3 a z).2⟩, b4, trs_len h6, fun ws' tr => ?_⟩
    refine s.modify he hv fd bs (t1 := .tup (ts.set j (.lst us'))) ⟨p, vs, fun a => F1 a ∨ X a, rfl, .inl h2, h3, by rw [upd_ne (fun e : p = q => (h5 q b1).2 e.symm)]; exact h4, fun a z => ?_, mk X us' ws' (fun a z => ⟨fun y => nX a z (h5 a y).1, (fd a z).2.1⟩) tr⟩ (fun a o n' e => by rw [upd_ne (fun y : a = q => n' (by subst y; exact (h5 _ b1).1))]; exact e) fun a z => ?_
    · rcases z with z | z
      · exact ⟨.inl (h5 a z).1, (h5 a z).2⟩
      · exact ⟨.inr z, fun e => nX a z (by subst e; exact h2)⟩
    · by_cases q' : a = q
      · subst q'; rw [upd_same]; exact Option.some_ne_none _
      · rw [upd_ne q']; exact (s.own n a z).2
  | _ => cases hj
end
end TL
/-! TW3: methods of lists within; slices. -/
namespace TL
open PySem PySem.Spec PyProof.Rows L2
theorem atI_nat' {α : Type} {xs : List α} {j : Nat} {x : α} (h : xs[j]? = some x) : atI xs (j : Int) = some x := by
  obtain ⟨hj, e⟩ := List.getElem?_eq_some_iff.mp h
  obtain ⟨j2, e2, hl, e3⟩ := atI_nat (xs := xs) (i := (j : Int)) (by omega) (by omega)
  have : j2 = j := by omega
  subst this
  rw [e3, e]
section
variable {A : Amb} {G H G' H' : Hp} {σ : L2.St} {env : Env} {P P' : Nat → As} {X X' X1 : As} {v x y z : V} {t t1 t2 : T} {vs : List V} {as : List Ar} {ta tb te : TE} {r : R2} {ts : List T} {a b : Ar} {Post : T → Env → Prop} {nx bk ct : Env → Prop} {rt : T → Env → Prop}
/-- x[j].clear() -/
theorem we_clearIx {n j : Nat} {t0 : T} {us : List T} {i : Int} (he : env[n]? = some (some t0)) (hi : i = (j : Int)) (hj : subT t0 j = some (.lst us)) (q : Post N_ (env.set n (some (setT t0 j (.lst []))))) :
    WE A (tBM0 A.c.K "list" rClear (tOp (rIxA A.c.K) (tVar n) (tC (.int i)))) env Post := fun G H σ P s Q k => by
  subst hi
  obtain ⟨v, p, vs, q', ws, F1, rfl, hσ, hp, hv, hq, hP, hF, tr, _, mk⟩ := slot_sub (X := noF) (us' := []) s he hj (fun _ z => z.elim) (fun _ z => z.elim)
  obtain ⟨s2, st2⟩ := mk [] rfl
  have fin : tyV A.c.K "list" (.ref q') H ∧ rClear (.ref q') [] H Q := ⟨.inl ⟨rfl, _, SqL.of hq⟩, q', ws, rfl, rfl, hq, k N_ _ .non _ _ _ noF q ⟨s2, st2.wk (V := uP P) (fun a z => by rcases z with z | z; exact z; exact z.elim) (fun a z => by rcases z with z | z; exact .inl z; exact z.elim), .flat rfl fun _ z => nomatch z⟩⟩
  refine ⟨_, hσ, ?_⟩
  rcases hp with hp | hp
  · exact .inl (.inl ⟨p, vs, _, _, rfl, rfl, SqL.of hp, atI_nat' hv, fin⟩)
  · exact .inl (.inr ⟨p, vs, _, _, rfl, rfl, SqT.of hp, atI_nat' hv, fin⟩)
/-- x[j].append(k) -/
theorem we_appendIx {n j : Nat} {t0 : T} {us : List T} {i m : Int} (he : env[n]? = some (some t0)) (hi : i = (j : Int)) (hj : subT t0 j = some (.lst us)) (hl : us.length ≤ 1000000) (q : Post N_ (env.set n (some (setT t0 j (.lst (us ++ [I m])))))) :
    WE A (tBM A.c.K "list" rAppend (tOp (rIxA A.c.K) (tVar n) (tC (.int i))) (tCons (tC (.int m)) tNil)) env Post := fun G H σ P s Q k => by
  subst hi
  obtain ⟨v, p, vs, q', ws, F1, rfl, hσ, hp, hv, hq, hP, hF, tr, _, mk⟩ := slot_sub (X := noF) (us' := us ++ [I m]) s he hj (fun _ z => z.elim) (fun _ z => z.elim)
  obtain ⟨s2, st2⟩ := mk (ws ++ [.int m]) (trs_app (F1 := F1) (F2 := noF) (tr.mono (Ex.refl _) (fun _ z => z) (fun a o z e => by rw [upd_ne (hF a z).2]; exact e) fun a z => (s.own n a (hF a z).1).1) ⟨.int m, [], noF, noF, rfl, fun _ z => z, fun _ z => z.elim, ⟨rfl, fun _ z => nomatch z⟩, rfl⟩ (fun a z => .inl z) (fun a z => z.elim) fun a z => by
    rcases z with z | z
    · exact (s.own n a (hF a z).1).1
    · exact z.elim)
  have fin : tyV A.c.K "list" (.ref q') H ∧ rAppend (.ref q') [.int m] H Q := ⟨.inl ⟨rfl, _, SqL.of hq⟩, q', ws, .int m, rfl, rfl, hq, by rw [trs_len tr, sizeLine_eq]; omega, k N_ _ .non _ _ _ noF q ⟨s2, st2.wk (V := uP P) (fun a z => by rcases z with z | z; exact z; exact z.elim) (fun a z => by rcases z with z | z; exact .inl z; exact z.elim), .flat rfl fun _ z => nomatch z⟩⟩
  refine ⟨_, hσ, ?_⟩
  rcases hp with hp | hp
  · exact .inl (.inl ⟨p, vs, _, _, rfl, rfl, SqL.of hp, atI_nat' hv, fin⟩)
  · exact .inl (.inr ⟨p, vs, _, _, rfl, rfl, SqT.of hp, atI_nat' hv, fin⟩)
/-- x.clear() -/
theorem we_clear {n : Nat} {us : List T} (he : env[n]? = some (some (.lst us))) (q : Post N_ (env.set n (some (.lst [])))) : WE A (tBM0 A.c.K "list" rClear (tVar n)) env Post := fun G H σ P s Q k => by
  obtain ⟨p, ws, F3, hσ, hq, hPq, hF, trs, mk⟩ := slot_list (X := noF) (us := []) s he (fun _ z => z.elim) (fun _ z => z.elim)
  obtain ⟨s2, st2⟩ := mk [] fun _ _ => rfl
  exact ⟨_, hσ, .inl ⟨rfl, _, SqL.of hq⟩, p, ws, rfl, rfl, hq, k N_ _ .non _ _ _ noF q ⟨s2, st2.wk (V := uP P) (fun a z => by rcases z with z | z; exact z; exact z.elim) (fun a z => by rcases z with z | z; exact .inl z; exact z.elim), .flat rfl fun _ z => nomatch z⟩⟩
/-! ### slices -/
def WP (A : Amb) (tl : TO) (env : Env) (Post : Option Int → Env → Prop) : Prop := ∀ G H σ P, SR A G H σ env P → ∀ Q : Option Int → Hp → Prop,
  (∀ o env' G' H' P', Post o env' → SR A G' H' σ env' P' → Stp G H (uP P) G' H' (uP P') → Q o H') → tl σ H Q
theorem wp_no {Post : Option Int → Env → Prop} (q : Post none env) : WP A tNoPart env Post := fun G H σ P s Q k => k none env G H P q s Stp.refl
theorem wp_part {Post : Option Int → Env → Prop} (h : WE A te env fun t e => ∃ o i, t = .frz o (.int i) ∧ Post (some i) e) : WP A (tPart te) env Post := fun G H σ P s Q k => by
  refine h G H σ P s _ fun t e v G' H' P' F p r => ?_
  obtain ⟨o, i, rfl, p⟩ := p
  exact ⟨i, r.tm.tr.1, k (some i) e G' H' P' p r.sr r.drop⟩
def cutL {α : Type} (xs : List α) (lo hi : Option Int) : List α := (xs.drop (HT.sIx xs.length 0 lo)).take (HT.sIx xs.length xs.length hi - HT.sIx xs.length 0 lo)
theorem cutL_map {α β : Type} (f : α → β) (xs : List α) (lo hi : Option Int) : cutL (xs.map f) lo hi = (cutL xs lo hi).map f := by
  unfold cutL
  rw [List.length_map, List.map_take, List.map_drop]
theorem reps_take {c : Cn} {H : Hp} : ∀ {ds : List D} {vs : List V} (n : Nat), Reps c H ds vs → Reps c H (ds.take n) (vs.take n)
  | [], _, n, h => by cases h; simp; rfl
  | d :: ds, _, 0, h => by show Reps c H [] _; rfl
  | d :: ds, vs, n + 1, ⟨v, r, e, h1, h2⟩ => by subst e; exact ⟨v, r.take n, rfl, h1, reps_take n h2⟩
theorem reps_drop {c : Cn} {H : Hp} : ∀ {ds : List D} {vs : List V} (n : Nat), Reps c H ds vs → Reps c H (ds.drop n) (vs.drop n)
  | [], _, n, h => by cases h; simp; rfl
  | d :: ds, _, 0, h => h
  | d :: ds, vs, n + 1, ⟨v, r, e, h1, h2⟩ => by subst e; exact reps_drop n h2
/-- xs[lo:hi] of what is fixed -/
theorem we_sl {tl th : TO} (h : WE A ta env fun t e => ∃ o ds, t = .frz o (.lst ds) ∧ WP A tl e fun lo e => WP A th e fun hi e => Post (.lst ((cutL ds lo hi).map F)) e) : WE A (tSl (rSlA A.c.K) ta tl th) env Post := fun G H σ P s Q k => by
  refine h G H σ P s _ fun t e v G1 H1 P1 F1 p1 r1 => ?_
  obtain ⟨o, ds, rfl, p1⟩ := p1
  refine p1 G1 H1 σ P1 r1.sr _ fun lo e2 G2 H2 P2 p2 s2 st2 => p2 G2 H2 σ P2 s2 _ fun hi e3 G3 H3 P3 p3 s3 st3 => ?_
  obtain ⟨p, ws, rfl, hp, rp⟩ := r1.tm.tr.1
  have hq : H3 p = some (.lst ws) := s3.le _ _ (st3.g _ _ (st2.g _ _ hp))
  have rp3 := (rp.mono st2.g).mono st3.g
  refine .inl ⟨p, ws, rfl, SqL.of hq, fun l hl => ?_⟩
  have r := alloc_frzs (vs := cutV ws lo hi) (ds := cutL ds lo hi) s3 (by unfold cutV cutL; rw [reps_len rp]; exact reps_take _ (reps_drop _ rp3)) (U0 := uP P3) (fun _ z => z) hl
  exact k _ _ _ _ _ _ _ p3 ⟨r.sr, ((r1.drop.trans st2).trans st3).trans r.st, r.tm⟩
theorem cutI {ns : List Int} {lo hi : Option Int} : (cutL (ns.map D.int) lo hi).map F = (cutL ns lo hi).map I := by rw [cutL_map, List.map_map]; rfl
end
/-! ### slices with a step -/
def pick3 {α : Type} (xs : List α) (lo hi st : Option Int) : List α := (sliceRange (sliceBounds lo hi st xs.length).1 (sliceBounds lo hi st xs.length).2.1 (sliceBounds lo hi st xs.length).2.2).filterMap (xs[·]?)
def tSl3 (K : PySem.W.Frag) (te : TE) (tl th ts : TO) : TE := fun σ H Q => te σ H fun x H1 => tl σ H1 fun l H2 => th σ H2 fun u H3 => ts σ H3 fun s H4 => ∃ a xs, x = .ref a ∧ SqL K H4 a xs ∧ s ≠ some 0 ∧ (pick3 xs l u s).length ≤ xs.length ∧ ∀ p, H4 p = none → Q (.ref p) (upd H4 p (.lst (pick3 xs l u s)))
theorem vals_pick : ∀ {xs : List V} {us : List Value} (l : List Nat), Vals xs us → Vals (l.filterMap (xs[·]?)) (l.filterMap (us[·]?))
  | xs, us, [], _ => .nil
  | xs, us, i :: l, r => by
    have ih := vals_pick l r
    cases q : xs[i]? with
    | none =>
      have q2 := r.none_of q
      rw [List.filterMap_cons, List.filterMap_cons, q, q2]
      exact ih
    | some x =>
      obtain ⟨u, q2, rr⟩ := r.get q
      rw [List.filterMap_cons, List.filterMap_cons, q, q2]
      exact .cons rr ih
section
variable {X : Cx} {e se : Expr} {te : TE} {lo hi : Option Expr} {tl th ts : TO} {pos p2 : Pos}
theorem pe_sl3 (he : PE X e te) (hl : PO X lo tl) (hu : PO X hi th) (ht : PO X (some se) ts) : PE X (.Subscript e (.Slice lo hi (some se) p2) pos) (tSl3 X.K te tl th ts) := by
  refine ⟨fun pins s σ H Q I h => ?_⟩
  refine Subscript_ (thn (he.run pins s σ H _ I h) fun v s1 ⟨x, H1, I1, r1, q1⟩ => ?_)
  refine wpAny_Slice (thn (hl.run pins s1 σ H1 _ I1 q1) fun vl s2 ⟨l, H2, I2, pl, q2⟩ => thn (hu.run pins s2 σ H2 _ I2 q2) fun vu s3 ⟨u, H3, I3, pu, q3⟩ => thn (ht.run pins s3 σ H3 _ I3 q3) fun vt s4 ⟨st', H4, I4, pt, q4⟩ => ?_)
  obtain ⟨a, xs, rfl, hx, h0, hle, q⟩ := q4
  have I5 : Inv X pins σ H4 { s4 with heap := s4.heap.push { cls := .type "slice", data := .fields #[vl, vu, vt] } } := I4.kept (t' := s4.toks) fun b ob q => Heap.get?_push_of_some _ q
  cases r1
  obtain ⟨its, r, hq, hz⟩ := I5.list hx
  have hlen := r.length
  refine tail_any (ops := [.ref a, .ref s4.heap.objs.size]) hq.isList.typeIs slot_list_getitem.lookup ?_ (by with_unfolding_all rfl)
  refine wpAny_getItem_list_slice hq.isList (Heap.IsSliceOf.new ..) pl pu pt h0 ?_ (by rw [List.size_toArray] <;> omega)
  have e2 : slicePick its.toArray l u st' = (pick3 its l u st').toArray := by
    unfold slicePick pick3
    rw [List.size_toArray]
    simp
  rw [e2]
  have rv : Vals (pick3 xs l u st') (pick3 its l u st') := by
    unfold pick3
    rw [hlen]
    exact vals_pick _ r
  refine ⟨.ref (s4.heap.push { cls := .type "slice", data := .fields #[vl, vu, vt] }).objs.size, _, I5.laid (t' := s4.toks) (o := .lst (pick3 xs l u st')) (fun b ob q => Heap.get?_push_of_some _ q) (Nat.le_refl _) ?_, rfl, q _ (I5.hok.fresh (Nat.le_refl _))⟩
  exact ⟨Nat.le_trans hle hz, _, 0, rv, Heap.get?_push_size _ rfl⟩
end
/-! the steps that the texts have -/
theorem filterMap_idx {α : Type} {xs : List α} {f : Nat → Nat} (d : α) : ∀ n : Nat, (∀ k, k < n → f k < xs.length) → ((List.range n).map f).filterMap (xs[·]?) = (List.range n).map fun k => xs.getD (f k) d
  | 0, _ => rfl
  | n + 1, h => by
    have ih := filterMap_idx d n fun k hk => h k (by omega)
    have e : xs[f n]? = some (xs.getD (f n) d) := by rw [List.getD_eq_getElem?_getD, List.getElem?_eq_getElem (h n (by omega))]; rfl
    rw [List.range_succ, List.map_append, List.filterMap_append, ih, List.map_append]
    congr 1
    show List.filterMap (xs[·]?) [f n] = _
    rw [List.filterMap_cons, e]
    rfl
theorem getDV {ns : List Int} {k : Nat} : (ns.map V.int).getD k (.int 0) = .int (gi ns k) := by
  unfold gi
  rw [List.getD_eq_getElem?_getD, List.getD_eq_getElem?_getD, List.getElem?_map]
  cases ns[k]? <;> rfl
theorem pick_of {ns : List Int} {lo hi st : Option Int} {n : Nat} {f : Nat → Nat} (h : sliceRange (sliceBounds lo hi st ns.length).1 (sliceBounds lo hi st ns.length).2.1 (sliceBounds lo hi st ns.length).2.2 = (List.range n).map f) (hf : ∀ k, k < n → f k < ns.length) :
    pick3 (ns.map V.int) lo hi st = ((List.range n).map fun k => gi ns (f k)).map V.int := by
  unfold pick3
  rw [List.length_map, h, filterMap_idx (.int 0) n (by simpa using hf), List.map_map]
  exact List.map_congr_left fun k _ => getDV
theorem pick_rev {ns : List Int} : pick3 (ns.map V.int) none none (some (-1)) = ((List.range ns.length).map fun k => gi ns (ns.length - 1 - k)).map V.int := by
  refine pick_of ?_ fun k hk => by omega
  unfold sliceRange sliceBounds
  simp only [Option.getD_some, show ¬ ((-1 : Int) > 0) by decide, if_false]
  have e : (if ((ns.length : Int) - 1) > -1 then ((ns.length : Int) - 1 - -1 - -1 - 1) / (- -1) else 0).toNat = ns.length := by
    have e1 : (- -1 : Int) = 1 := by decide
    rw [e1]
    split <;> omega
  rw [e]
  refine List.map_congr_left fun k hk => ?_
  have := List.mem_range.mp hk
  omega
theorem pick_even {ns : List Int} : pick3 (ns.map V.int) none none (some 2) = ((List.range ((ns.length + 1) / 2)).map fun k => gi ns (2 * k)).map V.int := by
  refine pick_of ?_ fun k hk => by omega
  unfold sliceRange sliceBounds
  simp only [Option.getD_some, show ((2 : Int) > 0) by decide, if_true]
  have e : (if (0 : Int) < (ns.length : Int) then ((ns.length : Int) - 0 + 2 - 1) / 2 else 0).toNat = (ns.length + 1) / 2 := by
    split <;> omega
  rw [e]
  refine List.map_congr_left fun k hk => ?_
  omega
theorem pick_odd {ns : List Int} : pick3 (ns.map V.int) (some 1) none (some 2) = ((List.range (ns.length / 2)).map fun k => gi ns (2 * k + 1)).map V.int := by
  refine pick_of ?_ fun k hk => by omega
  unfold sliceRange sliceBounds
  simp only [Option.getD_some, show ((2 : Int) > 0) by decide, if_true, show ¬ ((1 : Int) < 0) by decide, if_false]
  have e : (if max 0 (min (1 : Int) (ns.length : Int)) < (ns.length : Int) then ((ns.length : Int) - max 0 (min 1 (ns.length : Int)) + 2 - 1) / 2 else 0).toNat = ns.length / 2 := by
    split <;> omega
  rw [e]
  refine List.map_congr_left fun k hk => ?_
  have := List.mem_range.mp hk
  omega
section
variable {A : Amb} {env : Env} {te : TE} {Post : T → Env → Prop}
theorem we_sl3c {tl th ts : TO} {lo hi st : Option Int} {g : List Int → List Int} (hl : ∀ σ H (Q : Option Int → Hp → Prop), Q lo H → tl σ H Q) (hh : ∀ σ H (Q : Option Int → Hp → Prop), Q hi H → th σ H Q) (hs : ∀ σ H (Q : Option Int → Hp → Prop), Q st H → ts σ H Q) (h0 : st ≠ some 0)
    (hp : ∀ ns : List Int, pick3 (ns.map V.int) lo hi st = (g ns).map V.int) (hn : ∀ ns : List Int, (g ns).length ≤ ns.length)
    (h : WE A te env fun t e => ∃ o ns, t = .frz o (.lst (ns.map D.int)) ∧ Post (.lst ((g ns).map I)) e) : WE A (tSl3 A.c.K te tl th ts) env Post := fun G H σ P s Q k => by
  refine h G H σ P s _ fun t e v G1 H1 P1 F1 p1 r1 => hl _ _ _ (hh _ _ _ (hs _ _ _ ?_))
  obtain ⟨o, ns, rfl, p1⟩ := p1
  obtain ⟨p, ws, rfl, hpp, rp⟩ := r1.tm.tr.1
  have e1 := reps_ints rp
  subst e1
  refine ⟨p, _, rfl, SqL.of (r1.sr.le _ _ hpp), h0, by rw [hp, List.length_map, List.length_map]; exact hn ns, fun l hl => ?_⟩
  rw [hp]
  have flat2 : ∀ {ns : List Int}, Reps A.c G1 (ns.map D.int) (ns.map V.int) := by
    intro ns
    induction ns with
    | nil => rfl
    | cons n ns ih => exact ⟨.int n, _, rfl, rfl, ih⟩
  have r := alloc_frzs (vs := (g ns).map V.int) r1.sr (flat2 (ns := g ns)) (U0 := uP P1) (fun _ z => z) hl
  rw [List.map_map] at r
  exact k _ _ _ _ _ _ _ p1 ⟨r.sr, r1.drop.trans r.st, r.tm⟩
theorem part_c {i : Int} : ∀ σ H (Q : Option Int → Hp → Prop), Q (some i) H → tPart (tC (.int i)) σ H Q := fun σ H Q q => ⟨i, rfl, q⟩
theorem part_n {i : Int} : ∀ σ H (Q : Option Int → Hp → Prop), Q (some (-i)) H → tPart (tUn (rU fun i => .int (-i)) (tC (.int i))) σ H Q := fun σ H Q q => ⟨i, rfl, -i, rfl, q⟩
theorem we_rev (h : WE A te env fun t e => ∃ o ns, t = .frz o (.lst (ns.map D.int)) ∧ Post (.lst (((List.range ns.length).map fun k => gi ns (ns.length - 1 - k)).map I)) e) : WE A (tSl3 A.c.K te tNoPart tNoPart (tPart (tUn (rU fun i => .int (-i)) (tC (.int 1))))) env Post :=
  we_sl3c (g := fun ns => (List.range ns.length).map fun k => gi ns (ns.length - 1 - k)) (fun _ _ _ q => q) (fun _ _ _ q => q) part_n (by decide) (fun ns => pick_rev) (fun ns => by simp) h
theorem we_even (h : WE A te env fun t e => ∃ o ns, t = .frz o (.lst (ns.map D.int)) ∧ Post (.lst (((List.range ((ns.length + 1) / 2)).map fun k => gi ns (2 * k)).map I)) e) : WE A (tSl3 A.c.K te tNoPart tNoPart (tPart (tC (.int 2)))) env Post :=
  we_sl3c (g := fun ns => (List.range ((ns.length + 1) / 2)).map fun k => gi ns (2 * k)) (fun _ _ _ q => q) (fun _ _ _ q => q) part_c (by decide) (fun ns => pick_even) (fun ns => by simp; omega) h
theorem we_odd (h : WE A te env fun t e => ∃ o ns, t = .frz o (.lst (ns.map D.int)) ∧ Post (.lst (((List.range (ns.length / 2)).map fun k => gi ns (2 * k + 1)).map I)) e) : WE A (tSl3 A.c.K te (tPart (tC (.int 1))) tNoPart (tPart (tC (.int 2)))) env Post :=
  we_sl3c (g := fun ns => (List.range (ns.length / 2)).map fun k => gi ns (2 * k + 1)) part_c (fun _ _ _ q => q) part_c (by decide) (fun ns => pick_odd) (fun ns => by simp; omega) h
end
end TL
/-! TW4: the rules in the shapes that the walk asks. -/
namespace TL
open PySem PySem.Spec PyProof.Rows L2
def mkTup (ts : List T) : T := match frzs ts with
  | some ds => .frz none (.tup ds)
  | none => .tup ts
theorem frzs_datas : ∀ {ts : List T} {ds : List D}, frzs ts = some ds → T.datas ts = ds
  | [], ds, h => by cases h; rfl
  | .frz ov d :: ts, ds, h => by
    have h' : (frzs ts).map (d :: ·) = some ds := h
    cases q : frzs ts with
    | none => rw [q] at h'; cases h'
    | some us =>
      rw [q] at h'
      cases h'
      show d :: T.datas ts = d :: us
      rw [frzs_datas q]
  | .lst _ :: _, _, h => by cases h
  | .tup _ :: _, _, h => by cases h
  | .dik _ :: _, _, h => by cases h
  | .dit _ :: _, _, h => by cases h
  | .ins _ _ :: _, _, h => by cases h
section
variable {A : Amb} {G H G' H' : Hp} {σ : L2.St} {env : Env} {P P' : Nat → As} {X X' X1 : As} {v x y z : V} {t t1 t2 : T} {vs : List V} {as : List Ar} {ta tb te : TE} {r : R2} {ts : List T} {a b : Ar} {Post : T → Env → Prop} {nx bk ct : Env → Prop} {rt : T → Env → Prop}
theorem wa_imp {tr : TA} {Post Post' : List Ar → Env → Prop} (h : WA A tr env Post') (q : ∀ as e, Post' as e → Post as e) : WA A tr env Post := fun G H σ P s Q k => h G H σ P s Q fun as e vs G' H' P' F p r => k as e vs G' H' P' F (q as e p) r
/-- (a, b, ..): fixed where all in it is fixed -/
theorem we_tup3 {tr : TA} (h : WA A tr env fun as e => ∃ ts t, tmps as = some ts ∧ as.length ≤ 1000 ∧ mkTup ts = t ∧ Post t e) : WE A (tTup tr) env Post := fun G H σ P s Q k => by
  refine h G H σ P s _ fun as e vs G1 H1 P1 F1 p1 r1 => ?_
  obtain ⟨ts, t, ht, hl, hm, hp⟩ := p1
  cases q : frzs ts with
  | none =>
    have e1 : t = .tup ts := by rw [← hm]; unfold mkTup; rw [q]
    subst e1
    refine ⟨by rw [r1.tm.tr.len, sizeLine_eq]; omega, fun p hn => ?_⟩
    have r2 := alloc_own r1.sr (tmps_tr ht r1.tm.tr) r1.tm.fd r1.tm.bs hn
    exact k _ _ _ _ _ _ _ hp ⟨r2.sr, r1.st.trans r2.st, r2.tm⟩
  | some ds =>
    have e1 : t = .frz none (.tup ds) := by rw [← hm]; unfold mkTup; rw [q]
    subst e1
    refine ⟨by rw [r1.tm.tr.len, sizeLine_eq]; omega, fun p hn => ?_⟩
    have r2 := alloc_tup r1.sr (frzs_rp q (tmps_tr ht r1.tm.tr)) (fun _ z => z) hn
    exact k _ _ _ _ _ _ _ hp ⟨r2.sr, r1.drop.trans r2.st, r2.tm⟩
theorem frz_n : frzs [] = some [] := rfl
theorem frz_c {ov : Option V} {d : D} {r : List T} {ds : List D} (h : frzs r = some ds) : frzs (.frz ov d :: r) = some (d :: ds) := by show (frzs r).map (d :: ·) = _; rw [h]; rfl
theorem mk_f {ts : List T} {ds : List D} (h : frzs ts = some ds) : mkTup ts = .frz none (.tup ds) := by unfold mkTup; rw [h]
theorem mk_o {ts : List T} (h : frzs ts = none) : mkTup ts = .tup ts := by unfold mkTup; rw [h]
theorem fl_lstI {ns : List Int} {o : Option V} (q : Post (I ns.length) env) : WC A (rLenA A.c.K) [.t (.frz o (.lst (ns.map D.int)))] env Post := fl_lst (by rw [List.length_map]; exact q)
theorem fl_slotI {n : Nat} {ns : List Int} (he : env[n]? = some (some (.lst (ns.map I)))) (q : Post (I ns.length) env) : WC A (rLenA A.c.K) [.s n] env Post := fl_slot he (by rw [List.length_map]; exact q)
theorem fl_tmpI {ns : List Int} (q : Post (I ns.length) env) : WC A (rLenA A.c.K) [.t (.lst (ns.map I))] env Post := fl_tmp (by rw [List.length_map]; exact q)
theorem fi_reprX {t : T} (hd : t.data.ok) (q : Post (S t.data.py.shown) env) : WC A (rRepr A.c.K) [.t t] env Post := wc_repr rfl hd q
theorem wr_catX {d1 d2 : D} {xs ys : List Int} (h1 : arD env a = some d1) (e1 : d1 = .lst (xs.map D.int)) (h2 : arD env b = some d2) (e2 : d2 = .lst (ys.map D.int)) (hl : xs.length + ys.length ≤ 1000000) (q : Post (.lst ((xs ++ ys).map I)) env) : WR A (rAddA A.c.K) a b env Post :=
  wr_catI (h1.trans (by rw [e1])) (h2.trans (by rw [e2])) hl q
theorem we_clearX {n : Nat} {t0 : T} {us : List T} {i : Int} (he : env[n]? = some (some t0)) (hi : 0 ≤ i) (hj : subT t0 i.toNat = some (.lst us)) (q : Post N_ (env.set n (some (setT t0 i.toNat (.lst []))))) :
    WE A (tBM0 A.c.K "list" rClear (tOp (rIxA A.c.K) (tVar n) (tC (.int i)))) env Post := we_clearIx he (by omega) hj q
theorem we_appendX {n : Nat} {t0 : T} {us : List T} {i m : Int} (he : env[n]? = some (some t0)) (hi : 0 ≤ i) (hj : subT t0 i.toNat = some (.lst us)) (hl : us.length ≤ 1000000) (q : Post N_ (env.set n (some (setT t0 i.toNat (.lst (us ++ [I m])))))) :
    WE A (tBM A.c.K "list" rAppend (tOp (rIxA A.c.K) (tVar n) (tC (.int i))) (tCons (tC (.int m)) tNil)) env Post := we_appendIx he (by omega) hj hl q
/-- list(xs) of numbers -/
theorem wc_list_frzI {o : Option V} {ns : List Int} (q : Post (.lst (ns.map I)) env) : WC A (rListOf A.c.K) [.t (.frz o (.lst (ns.map D.int)))] env Post := wc_list_frz (by rw [List.map_map]; exact q)
theorem frzs_I : ∀ ns : List Int, frzs (ns.map I) = some (ns.map D.int)
  | [] => rfl
  | n :: ns => by show (frzs (ns.map I)).map _ = _; rw [frzs_I ns]; rfl
theorem wc_list_slotI {n : Nat} {ns : List Int} (he : env[n]? = some (some (.lst (ns.map I)))) (q : Post (.lst (ns.map I)) env) : WC A (rListOf A.c.K) [.s n] env Post := wc_list_slot he (frzs_I ns) (by rw [List.map_map]; exact q)
end
end TL
/-! TW5: what a for walks, by its index; rows of numbers. -/
namespace TL
open PySem PySem.Spec PyProof.Rows L2
theorem ItR.cg {A : Amb} {G : Hp} {J : It} {n : Nat} {it it' : Nat → D} (h : ItR A G J n it) (e : ∀ i, i < n → it i = it' i) : ItR A G J n it' := fun G' H' σ env P s x i => by
  obtain ⟨h1, h2⟩ := h G' H' σ env P s x i
  exact ⟨h1, fun hi => by rw [← e i hi]; exact h2 hi⟩
theorem wi_cg {A : Amb} {wi : TI} {env : Env} {Post : Nat → (Nat → D) → Env → Prop} (h : WI A wi env fun n it e => ∃ it', (∀ i, i < n → it i = it' i) ∧ Post n it' e) : WI A wi env Post := fun G H σ P s R k => h G H σ P s R fun n it e J G' H' P' ⟨it', hi, p⟩ s' st itr => k n it' e J G' H' P' p s' st (itr.cg hi)
section
variable {A : Amb} {env : Env} {tl : TE} {tr : TA} {Post : Nat → (Nat → D) → Env → Prop}
/-- over a list told by its index -/
theorem wi_listF (h : WE A tl env fun t e => ∃ m f, t.data = .lst ((List.range m).map f) ∧ Post m f e) : WI A (iList A.c.K tl) env Post := wi_cg (wi_list (we_imp h fun t e ⟨m, f, e1, p⟩ => ⟨_, e1, f, fun i hi => getD_map (by simpa using hi), by rw [List.length_map, List.length_range]; exact p⟩))
theorem wi_listI (h : WE A tl env fun t e => ∃ ns : List Int, t.data = .lst (ns.map D.int) ∧ Post ns.length (fun i => .int (gi ns i)) e) : WI A (iList A.c.K tl) env Post := wi_cg (wi_list (we_imp h fun t e ⟨ns, e1, p⟩ => ⟨_, e1, fun i => .int (gi ns i), fun i hi => getD_int (by simpa using hi), by rw [List.length_map]; exact p⟩))
theorem wi_enumI (h : WA A tr env fun as e => ∃ t, ∃ ns : List Int, as = [.t t] ∧ t.data = .lst (ns.map D.int) ∧ Post ns.length (fun i => .tup [.int i, .int (gi ns i)]) e) : WI A (iEnum A.c.K tr) env Post := wi_cg (wi_enum (wa_imp h fun as e ⟨t, ns, e0, e1, p⟩ => ⟨t, _, e0, e1, fun i => .tup [.int i, .int (gi ns i)], fun i hi => by
    have := getD_int (ns := ns) (i := i) (by simpa using hi)
    show D.tup [_, _] = _
    rw [this], by rw [List.length_map]; exact p⟩))
theorem wi_zipI (h : WA A tr env fun as e => ∃ t1 t2, ∃ xs ys : List Int, as = [.t t1, .t t2] ∧ t1.data = .lst (xs.map D.int) ∧ t2.data = .lst (ys.map D.int) ∧ Post (min xs.length ys.length) (fun i => .tup [.int (gi xs i), .int (gi ys i)]) e) : WI A (iZip A.c.K tr) env Post :=
  wi_cg (wi_zip (wa_imp h fun as e ⟨t1, t2, xs, ys, e0, e1, e2, p⟩ => ⟨t1, t2, _, _, e0, e1, e2, fun i => .tup [.int (gi xs i), .int (gi ys i)], fun i hi => by
    rw [List.length_map, List.length_map] at hi
    have h1 := getD_int (ns := xs) (i := i) (by omega)
    have h2 := getD_int (ns := ys) (i := i) (by omega)
    show D.tup [_, _] = _
    rw [h1, h2], by rw [List.length_map, List.length_map]; exact p⟩))
end
theorem datas_rg {m : Nat} {g : Nat → T} : T.datas ((List.range m).map g) = (List.range m).map fun k => (g k).data := by rw [datas_map, List.map_map]; rfl
theorem cleans_map {α : Type} {g : α → T} : ∀ xs : List α, (∀ x, x ∈ xs → (g x).clean = true) → T.cleans (xs.map g) = true
  | [], _ => rfl
  | x :: xs, h => by show ((g x).clean && T.cleans (xs.map g)) = true; rw [h x List.mem_cons_self, cleans_map xs fun y hy => h y (List.mem_cons_of_mem _ hy)]; rfl
def two (f g : Nat → Int) : Nat → List Int
  | 0 => []
  | n + 1 => two f g n ++ [f n, g n]
theorem two_len {f g : Nat → Int} : ∀ n, (two f g n).length = 2 * n
  | 0 => rfl
  | n + 1 => by show (two f g n ++ [f n, g n]).length = _; rw [List.length_append, two_len n]; simp; omega
theorem two_mapS {f g : Nat → Int} {n : Nat} : (two f g (n + 1)).map I = (two f g n).map I ++ [I (f n), I (g n)] := by show (two f g n ++ [f n, g n]).map I = _; rw [List.map_append]; rfl
theorem two_cg {f g f' g' : Nat → Int} : ∀ n, (∀ k, k < n → f k = f' k ∧ g k = g' k) → two f g n = two f' g' n
  | 0, _ => rfl
  | n + 1, h => by show two f g n ++ _ = two f' g' n ++ _; rw [two_cg n fun k hk => h k (by omega), (h n (by omega)).1, (h n (by omega)).2]
theorem two_mem {f g : Nat → Int} {x : Int} : ∀ n, x ∈ two f g n → ∃ k, k < n ∧ (x = f k ∨ x = g k)
  | 0, h => by cases h
  | n + 1, h => by
    rcases List.mem_append.mp h with h | h
    · obtain ⟨k, hk, e⟩ := two_mem n h
      exact ⟨k, by omega, e⟩
    · exact ⟨n, by omega, by simpa using h⟩
theorem ne_len {α : Type} {xs : List α} (h : 0 < xs.length) : xs ≠ [] := List.length_pos_iff.mp h
theorem set_same {α : Type} {xs : List α} {i : Nat} {x : α} (h : xs[i]? = some x) : xs.set i x = xs := by
  obtain ⟨hi, e⟩ := List.getElem?_eq_some_iff.mp h
  subst e
  exact List.set_getElem_self hi
/-- numbers drawn from a box, one by one -/
theorem lc_box {A : Amb} {g : TG} {te : TE} {R : List T → Env → Prop} {ws : List Nat} {j : Int} {e0 : Env} (b m k : Nat) (lo hi : Int) (h0 : ∃ t, (wipeE e0 ws)[b]? = some (some t) ∧ Box m t)
    (hs : ∀ (i : Nat) t, (i : Int) < j → Box (m + k * i) t → WG A (fun j => j ∈ ws) g (I i) ((wipeE e0 ws).set b (some t)) fun e1 => WE A te e1 fun t' e3 => ∃ x t2, t' = I x ∧ (lo ≤ x ∧ x ≤ hi) ∧ Box (m + k * (i + 1)) t2 ∧ wipeE e3 ws = (wipeE e0 ws).set b (some t2))
    (q : ∀ (ns : List Int) t2, ns.length = j.toNat → (∀ n, n ∈ ns → lo ≤ n ∧ n ≤ hi) → Box (m + k * j.toNat) t2 → R (ns.map I) ((wipeE e0 ws).set b (some t2))) : ∃ Iv : Nat → List T → Env → Prop, Iv 0 [] (wipeE e0 ws) ∧
      (∀ (i : Nat) acc e, (i : Int) < j → acc.length ≤ i → Iv i acc e → WG A (fun j => j ∈ ws) g (I i) e fun e1 => WT A tYes e1 fun b e2 => (b = true → WE A te e2 fun t e3 => Iv (i + 1) (acc ++ [t]) (wipeE e3 ws)) ∧ (b = false → Iv (i + 1) acc (wipeE e2 ws))) ∧
      ∀ acc e, acc.length ≤ j.toNat → Iv j.toNat acc e → R acc e := by
  obtain ⟨t, h1, h2⟩ := h0
  refine ⟨fun i acc e => (∃ ns : List Int, acc = ns.map I ∧ ns.length = i ∧ ∀ n, n ∈ ns → lo ≤ n ∧ n ≤ hi) ∧ ∃ t, Box (m + k * i) t ∧ e = (wipeE e0 ws).set b (some t), ⟨⟨[], rfl, rfl, fun _ z => by cases z⟩, t, h2, (set_same h1).symm⟩, ?_, ?_⟩
  · rintro i acc e hi hl ⟨⟨ns, rfl, hn, hb⟩, t2, hbox, rfl⟩
    refine fun G H σ P v X s m Q k => hs i t2 hi hbox G H σ P v X s m Q fun e' G' H' σ' P' q' s' st l w => k e' G' H' σ' P' (wt_yes ⟨fun _ => ?_, fun z => nomatch z⟩) s' st l w
    refine we_imp q' fun t' e3 ⟨x, t3, e1, hx, hb3, e4⟩ => ⟨⟨ns ++ [x], by rw [e1, List.map_append]; rfl, by simp [hn], fun n hm => ?_⟩, t3, hb3, e4⟩
    rcases List.mem_append.mp hm with hm | hm
    · exact hb n hm
    · rcases List.mem_singleton.mp hm with rfl
      exact hx
  · rintro acc e hl ⟨⟨ns, rfl, hn, hb⟩, t2, hbox, rfl⟩
    exact q ns t2 hn hb hbox
theorem gi_last {xs : List Int} {x : Int} : gi (xs ++ [x]) ((xs ++ [x]).length - 1) = x := by
  unfold gi
  rw [List.getD_eq_getElem?_getD, List.length_append]
  simp
theorem ixN_last {n : Nat} (h : 0 < n) : ixN n (-1) = some (n - 1) := by
  unfold ixN
  have e1 : ((-1 : Int) < 0) := by decide
  have e2 : (-1 + (n : Int)).toNat = n - 1 := by omega
  have e3 : n - 1 < n := by omega
  have e4 : (0 : Int) ≤ -1 + (n : Int) := by omega
  have e5 : (1 : Int) ≤ n := by omega
  simp [e1, e2, e3, e4, e5]
  try omega
theorem map_rangeS {n : Nat} {f : Nat → Int} : (List.range (n + 1)).map f = (List.range n).map f ++ [f n] := by rw [List.range_succ, List.map_append]; rfl
theorem mem_rg {n : Nat} {f : Nat → Int} {x : Int} (h : x ∈ (List.range n).map f) : ∃ k, k < n ∧ x = f k := by
  obtain ⟨k, hk, e⟩ := List.mem_map.mp h
  exact ⟨k, List.mem_range.mp hk, e.symm⟩
/-! ### rows of numbers of up to fifteen figures -/
def Rw (lo : Nat) (ns : List Int) : Prop := lo ≤ ns.length ∧ ns.length ≤ 64 ∧ ∀ n, n ∈ ns → -1000000000000000 < n ∧ n < 1000000000000000
theorem Rw.gi {lo : Nat} {ns : List Int} (h : Rw lo ns) {i : Nat} (hi : i < ns.length) : -1000000000000000 < gi ns i ∧ gi ns i < 1000000000000000 := h.2.2 _ (gi_mem hi)
theorem Rw.set {lo : Nat} {ns : List Int} (h : Rw lo ns) {i : Nat} {x : Int} (hx : -1000000000000000 < x ∧ x < 1000000000000000) : Rw lo (ns.set i x) := ⟨by rw [List.length_set]; exact h.1, by rw [List.length_set]; exact h.2.1, fun n hn => by
  rcases List.mem_or_eq_of_mem_set hn with hn | rfl
  · exact h.2.2 n hn
  · exact hx⟩
theorem Rw.up {lo lo' : Nat} {ns : List Int} (h : Rw lo ns) (h2 : lo' ≤ lo) : Rw lo' ns := ⟨Nat.le_trans h2 h.1, h.2⟩
theorem sm_ints {b w n : Nat} {ns : List Int} (h : ∀ x, x ∈ ns → x.natAbs < 10 ^ n ∧ x.natAbs < 2 ^ w) (hn : 0 < n) (hb : n + 1 ≤ b) (hw : w ≤ 1900) {m : Nat} (hm : ns.length ≤ m) : (D.lst (ns.map D.int)).sm b (m * (w + 2)) 1 :=
  (sm_lst (b := b) (w := w + 1) (k := 0) fun d hd => by
    obtain ⟨x, hx, rfl⟩ := List.mem_map.mp hd
    exact sm_int (h x hx).1 hn hb (h x hx).2 hw).up (by rw [List.length_map]; exact Nat.mul_le_mul_right _ hm) (by decide)
/-- numbers of up to sixteen figures -/
theorem sm_big {ns : List Int} (h : ∀ x, x ∈ ns → -100000000000000000000 < x ∧ x < 100000000000000000000) {m : Nat} (hm : ns.length ≤ m) : (D.lst (ns.map D.int)).sm 40 (m * 82) 1 :=
  sm_ints (n := 20) (w := 80) (fun x hx => by have := h x hx; omega) (by decide) (by decide) (by decide) hm
theorem ok_big {ns : List Int} (h : ∀ x, x ∈ ns → -100000000000000000000 < x ∧ x < 100000000000000000000) (hm : ns.length ≤ 1000) : (D.lst (ns.map D.int)).ok := (sm_big h hm).ok (by decide) (by decide) (by decide)
theorem ok_big2 {as bs : List Int} (h : ∀ x, x ∈ as → -100000000000000000000 < x ∧ x < 100000000000000000000) (h2 : ∀ x, x ∈ bs → -100000000000000000000 < x ∧ x < 100000000000000000000) (hm : as.length ≤ 600) (hm2 : bs.length ≤ 600) : (D.tup [D.lst (as.map D.int), D.lst (bs.map D.int)]).ok :=
  (sm_tup (b := 40) (w := 600 * 82) (k := 1) fun d hd => by
    rcases List.mem_cons.mp hd with rfl | hd
    · exact sm_big h hm
    · rcases List.mem_singleton.mp hd with rfl
      exact sm_big h2 hm2).ok (by decide) (by decide) (by simp)
theorem Rw.ok {lo : Nat} {ns : List Int} (h : Rw lo ns) : (D.lst (ns.map D.int)).ok := ok_big (fun x hx => by have := h.2.2 x hx; omega) (by have := h.2.1; omega)
theorem ints_typ {ns : List Int} {x : D} (h : x ∈ ns.map D.int) : x.typ := by
  obtain ⟨n, _, rfl⟩ := List.mem_map.mp h
  exact ⟨_, rfl⟩
section
variable {A : Amb} {env : Env} {Post : T → Env → Prop}
theorem wc_intR {k : Bool} {o : Option V} (q : ∀ r : Int, (r = 0 ∨ r = 1) → (r = 1 ↔ k = true) → Post (I r) env) : WC A rIntA [.t (.frz o (.bl k))] env Post := wc_intb (by
  cases k with
  | true => exact q 1 (.inr rfl) (by simp)
  | false => exact q 0 (.inl rfl) (by simp))
end
end TL
/-! TW6: range with a step; zip over what is told by its index; slices of numbers. -/
namespace TL
open PySem PySem.Spec PyProof.Rows L2
section
variable {A : Amb} {G H : Hp} {env : Env} {tr : TA} {Post : Nat → (Nat → D) → Env → Prop}
theorem ArR.three {c : Cn} {σ : L2.St} {t1 t2 t3 : T} {X : As} {vs : List V} (h : ArR c G H σ [.t t1, .t t2, .t t3] X vs) : ∃ u v w F1 F2 F3, vs = [u, v, w] ∧ TR c G H t1 F1 u ∧ TR c G H t2 F2 v ∧ TR c G H t3 F3 w := by
  obtain ⟨u, r, F1, F2, e, h1, h2, h3, h4⟩ := h
  obtain ⟨v, w, F3, F4, e2, h5, h6⟩ := h4.two
  subst e2
  exact ⟨u, v, w, F1, F3, F4, e, h3, h5, h6⟩
/-- range(i, j, c), told as lo + k c for k < n -/
theorem wi_rng3 (h : WA A tr env fun as e => ∃ o o2 o3 i j c, as = [.t (.frz o (.int i)), .t (.frz o2 (.int j)), .t (.frz o3 (.int c))] ∧ ∃ n, RgC i j c n ∧ Post n (fun k => .int (i + k * c)) e) : WI A (iRng3 tr) env Post := fun G H σ P s R k => by
  refine h G H σ P s _ fun as e vs G1 H1 P1 F1 p1 r1 => ?_
  obtain ⟨o, o2, o3, i, j, c, rfl, n, h1, hp⟩ := p1
  obtain ⟨u, v, w, F2, F3, F4, rfl, tr1, tr2, tr3⟩ := r1.tm.tr.three
  exact ⟨i, j, c, n, by rw [show u = .int i from tr1.1, show v = .int j from tr2.1, show w = .int c from tr3.1], h1, k _ _ _ _ _ _ _ hp r1.sr r1.drop itr_c⟩
theorem wi_zipF (h : WA A tr env fun as e => ∃ t1 t2 m f, ∃ ys : List Int, as = [.t t1, .t t2] ∧ t1.data = .lst ((List.range m).map f) ∧ t2.data = .lst (ys.map D.int) ∧ Post (min m ys.length) (fun i => .tup [f i, .int (gi ys i)]) e) : WI A (iZip A.c.K tr) env Post :=
  wi_cg (wi_zip (wa_imp h fun as e ⟨t1, t2, m, f, ys, e0, e1, e2, p⟩ => ⟨t1, t2, _, _, e0, e1, e2, fun i => .tup [f i, .int (gi ys i)], fun i hi => by
    rw [List.length_map, List.length_map, List.length_range] at hi
    have h1 := getD_map (n := m) (f := f) (i := i) (by omega)
    have h2 := getD_int (ns := ys) (i := i) (by omega)
    show D.tup [_, _] = _
    rw [h1, h2], by rw [List.length_map, List.length_map, List.length_range]; exact p⟩))
end
theorem cut_first {ns : List Int} (h : 0 < ns.length) : cutL ns none (some 1) = [gi ns 0] := by
  unfold cutL HT.sIx
  cases ns with
  | nil => simp at h
  | cons n ns => simp; rfl
theorem cut_last {ns : List Int} (h : 0 < ns.length) : cutL ns (some (-1)) none = [gi ns (ns.length - 1)] := by
  have e : cutL ns (some (-1)) none = ns.drop (ns.length - 1) := by
    unfold cutL HT.sIx
    have e1 : (-1 + (ns.length : Int)).toNat = ns.length - 1 := by omega
    simp only [show ((-1 : Int) < 0) by decide, if_true, e1]
    exact List.take_of_length_le (by rw [List.length_drop]; exact Nat.le_refl _)
  rw [e]
  refine List.ext_getElem? fun i => ?_
  rw [List.getElem?_drop]
  cases i with
  | zero => rw [Nat.add_zero, gi_at (by omega)]; rfl
  | succ i => rw [List.getElem?_eq_none (by omega)]; rfl
theorem cut_from {ns : List Int} {a : Nat} (h : a ≤ ns.length) : cutL ns (some (a : Int)) none = ns.drop a := by
  unfold cutL HT.sIx
  have e1 : ¬ ((a : Int) < 0) := by omega
  have e2 : min (a : Int).toNat ns.length = a := by omega
  simp only [e1, if_false, e2]
  exact List.take_of_length_le (by rw [List.length_drop]; exact Nat.le_refl _)
theorem gi_app1 {xs ys : List Int} {i : Nat} (h : i < xs.length) : gi (xs ++ ys) i = gi xs i := by
  unfold gi
  rw [List.getD_eq_getElem?_getD, List.getD_eq_getElem?_getD, List.getElem?_append_left h]
theorem gi_app2 {xs ys : List Int} {i : Nat} (h : xs.length ≤ i) : gi (xs ++ ys) i = gi ys (i - xs.length) := by
  unfold gi
  rw [List.getD_eq_getElem?_getD, List.getD_eq_getElem?_getD, List.getElem?_append_right h]
/-- the nearest place of n -/
def nr (n : Nat) (a : Int) : Nat := (if a < 0 then 0 else if a < n then a else (n : Int) - 1).toNat
theorem nr_lt {n : Nat} {a : Int} (h : 0 < n) : nr n a < n := by
  unfold nr
  split
  · omega
  · split <;> omega
theorem rgc2 {i j : Int} (h1 : 0 ≤ i) (h2 : i ≤ 100000) (h3 : 0 ≤ j) (h4 : j ≤ 100000) : RgC i j 2 ((j - i + 1) / 2).toNat := by
  have e : Builtin.Range.rangeSize i j 2 = (((j - i + 1) / 2).toNat : Nat) := by
    unfold Builtin.Range.rangeSize
    simp only [show ((2 : Int) > 0) by decide, if_true]
    split <;> omega
  refine ⟨by decide, by decide, ?_, e⟩
  unfold Builtin.Range.small
  rw [e]
  simp only [Builtin.Range.rangeFitsLong, Bool.and_eq_true, Bool.or_eq_true, decide_eq_true_eq, beq_iff_eq, show ((2 : Int) > 0) by decide, if_true]
  omega
theorem app_stp {f : Nat → Int} {i : Nat} {x : Int} (h : x = f i) : (List.range i).map f ++ [x] = (List.range (i + 1)).map f := by rw [map_rangeS, h]
theorem int_n : intsOf [] = some [] := rfl
theorem int_c {i : Int} {r : List T} {is : List Int} (h : intsOf r = some is) : intsOf (.frz none (.int i) :: r) = some (i :: is) := by show (intsOf r).map (i :: ·) = _; rw [h]; rfl
section
variable {A : Amb} {env : Env} {Post : T → Env → Prop} {a : Ar}
theorem wr_catL {d1 : D} {xs is : List Int} {ts : List T} (h1 : arD env a = some d1) (e1 : d1 = .lst (xs.map D.int)) (h : intsOf ts = some is) (hl : xs.length + is.length ≤ 1000000) (q : Post (.lst ((xs ++ is).map I)) env) : WR A (rAddA A.c.K) a (.t (.lst ts)) env Post := by
  rw [intsOf_eq h]
  exact wr_catI (h1.trans (by rw [e1])) (congrArg (fun d => some (D.lst d)) (datas_I is)) hl q
theorem wr_catM {d1 : D} {xs is : List Int} {ts : List T} (h : intsOf ts = some is) (h1 : arD env a = some d1) (e1 : d1 = .lst (xs.map D.int)) (hl : is.length + xs.length ≤ 1000000) (q : Post (.lst ((is ++ xs).map I)) env) : WR A (rAddA A.c.K) (.t (.lst ts)) a env Post := by
  rw [intsOf_eq h]
  exact wr_catI (congrArg (fun d => some (D.lst d)) (datas_I is)) (h1.trans (by rw [e1])) hl q
end
section
variable {A : Amb} {env : Env} {Post : T → Env → Prop} {te : TE}
/-- a name's own thing may be fixed ahead of any expression -/
theorem we_fixS {i : Nat} {t : T} (h : env[i]? = some (some t)) (q : WE A te (env.set i (some (.frz none t.data))) Post) : WE A te env Post := fun G H σ P sr Q k => by
  obtain ⟨v, hv, rp, s', st⟩ := sr.fix i h
  exact q _ _ _ _ s' Q fun t e v G' H' P' F p r => k t e v G' H' P' F p ⟨r.sr, st.trans r.st, r.tm⟩
theorem drop_one {ns : List Int} {a : Nat} (h : ns.length = a + 1) : ns.drop a = [gi ns (ns.length - 1)] := by
  refine List.ext_getElem? fun i => ?_
  rw [List.getElem?_drop]
  cases i with
  | zero => rw [Nat.add_zero, show a = ns.length - 1 by omega, gi_at (by omega)]; rfl
  | succ i => rw [List.getElem?_eq_none (by omega)]; rfl
theorem drop_non {ns : List Int} {a : Nat} (h : ns.length ≤ a) : ns.drop a = [] := List.drop_eq_nil_iff.mpr h
theorem cut_fromI {ns : List Int} {a : Int} (h0 : 0 ≤ a) (h : a ≤ ns.length) : cutL ns (some a) none = ns.drop a.toNat := by
  have := cut_from (ns := ns) (a := a.toNat) (by omega)
  rwa [Int.toNat_of_nonneg h0] at this
end
end TL
/-! TW7: texts in lists; slices to a place; comprehensions that let nothing through. -/
namespace TL
open PySem PySem.Spec PyProof.Rows L2
def strsD : List D → Option (List Str)
  | [] => some []
  | .str i :: r => (strsD r).map (i :: ·)
  | _ => none
theorem str_n : strsD [] = some [] := rfl
theorem str_c {i : Str} {r : List D} {is : List Str} (h : strsD r = some is) : strsD (.str i :: r) = some (i :: is) := by show (strsD r).map (i :: ·) = _; rw [h]; rfl
theorem strsD_eq : ∀ {ts : List D} {is : List Str}, strsD ts = some is → ts = is.map D.str
  | [], is, h => by cases h; rfl
  | t :: ts, is, h => by
    unfold strsD at h
    split at h
    · rename_i e; cases e
    · rename_i i r' e
      cases e
      cases q : strsD ts with
      | none => rw [q] at h; cases h
      | some is' =>
        rw [q] at h
        cases h
        rw [strsD_eq q]; rfl
    · cases h
theorem inV_strs {i : Str} : ∀ {is : List Str}, inV (.str i) (is.map V.str) = decide (i ∈ is)
  | [] => by simp [inV]
  | n :: is => by
    have ih := inV_strs (i := i) (is := is)
    unfold inV at ih ⊢
    rw [List.map_cons, List.any_cons, ih]
    by_cases h : i = n
    · subst h; simp [eqV]
    · have : ¬ n = i := fun e => h e.symm
      simp [eqV, h, this]
theorem reps_strs {c : Cn} {H : Hp} : ∀ {ns : List Str} {us : List V}, Reps c H (ns.map D.str) us → us = ns.map V.str
  | [], us, r => r
  | n :: ns, us, ⟨v, r', e, h1, h2⟩ => by rw [e, reps_strs h2, show v = .str n from h1]; rfl
theorem sq_of {c : Cn} {H : Hp} {d : D} {y : V} {ws : List Str} (hd : d = .lst (ws.map D.str) ∨ d = .tup (ws.map D.str)) (h : Rep c H d y) : ∃ p, y = .ref p ∧ (SqL c.K H p (ws.map V.str) ∨ SqT c.K H p (ws.map V.str)) := by
  rcases hd with rfl | rfl
  · obtain ⟨p, us, rfl, hp, rp⟩ := h
    rw [reps_strs rp] at hp
    exact ⟨p, rfl, .inl (SqL.of hp)⟩
  · obtain ⟨p, us, rfl, hp, rp⟩ := h
    rw [reps_strs rp] at hp
    exact ⟨p, rfl, .inr (SqT.of hp)⟩
section
variable {A : Amb} {env : Env} {Post : T → Env → Prop} {a b : Ar}
theorem wr_niS {o1 : Option V} {w : Str} {d : D} {ws : List Str} (h1 : arD env b = some d) (hd : d = .lst (ws.map D.str) ∨ d = .tup (ws.map D.str)) (q : Post (B (!decide (w ∈ ws))) env) : WR A (rNiA A.c.K) (.t (.frz o1 (.str w))) b env Post := by
  refine wr_flat (d1 := .str w) (d2 := d) (d := .bl (!decide (w ∈ ws))) rfl h1 (fun _ => rfl) (fun H x y e1 e2 Q q => ?_) q
  cases e1
  obtain ⟨p, rfl, hp⟩ := sq_of hd e2
  refine .inl (.inl ⟨p, _, rfl, hp, rfl, by simp [flatV], ?_⟩)
  show Q (.bl (if true = true then !inV (.str w) (ws.map V.str) else _)) H
  rw [inV_strs]
  exact q
theorem wr_inS {o1 : Option V} {w : Str} {d : D} {ws : List Str} (h1 : arD env b = some d) (hd : d = .lst (ws.map D.str) ∨ d = .tup (ws.map D.str)) (q : Post (B (decide (w ∈ ws))) env) : WR A (rInA A.c.K) (.t (.frz o1 (.str w))) b env Post := by
  refine wr_flat (d1 := .str w) (d2 := d) (d := .bl (decide (w ∈ ws))) rfl h1 (fun _ => rfl) (fun H x y e1 e2 Q q => ?_) q
  cases e1
  obtain ⟨p, rfl, hp⟩ := sq_of hd e2
  refine .inl (.inl ⟨p, _, rfl, hp, rfl, by simp [flatV], ?_⟩)
  show Q (.bl (if false = true then _ else inV (.str w) (ws.map V.str))) H
  rw [inV_strs]
  exact q
end
theorem cut_to {ns : List Int} {a : Int} (h0 : 0 ≤ a) (h : a ≤ ns.length) : cutL ns none (some a) = ns.take a.toNat := by
  unfold cutL HT.sIx
  have e1 : ¬ (a < 0) := by omega
  have e2 : min a.toNat ns.length = a.toNat := by omega
  simp only [e1, if_false, e2, List.drop_zero, Nat.sub_zero]
theorem cut_mem {ns : List Int} {a b : Int} {x : Int} (h0 : 0 ≤ a) (h : x ∈ cutL ns (some a) (some b)) : ∃ k, a.toNat ≤ k ∧ k < ns.length ∧ (0 ≤ b → k < b.toNat) ∧ (b < 0 → (k : Int) < ns.length + b) ∧ x = gi ns k := by
  unfold cutL HT.sIx at h
  obtain ⟨j, hj, e⟩ := List.mem_iff_getElem.mp h
  rw [List.length_take, List.length_drop] at hj
  rw [List.getElem_take, List.getElem_drop] at e
  have e1 : ¬ (a < 0) := by omega
  simp only [e1, if_false] at hj e
  have hlt : min a.toNat ns.length + j < ns.length := by omega
  refine ⟨min a.toNat ns.length + j, by omega, hlt, fun hb => ?_, fun hb => ?_, ?_⟩
  · have e2 : ¬ (b < 0) := by omega
    simp only [e2, if_false] at hj
    omega
  · simp only [hb, if_true] at hj
    omega
  · have := gi_at (ns := ns) hlt
    rw [List.getElem?_eq_getElem hlt] at this
    rw [← e]
    exact Option.some.inj this
theorem take_mem {ns : List Int} {n : Nat} {x : Int} (h : x ∈ ns.take n) : ∃ k, k < n ∧ k < ns.length ∧ x = gi ns k := by
  obtain ⟨j, hj, e⟩ := List.mem_iff_getElem.mp h
  rw [List.length_take] at hj
  rw [List.getElem_take] at e
  have hlt : j < ns.length := by omega
  refine ⟨j, by omega, hlt, ?_⟩
  have := gi_at (ns := ns) hlt
  rw [List.getElem?_eq_getElem hlt] at this
  rw [← e]
  exact Option.some.inj this
theorem gi_set {ns : List Int} {j : Nat} {x : Int} (hj : j < ns.length) : gi (ns.set j x) j = x := by
  unfold gi
  rw [List.getD_eq_getElem?_getD, List.getElem?_set_self hj]; rfl
theorem gi_setN {ns : List Int} {j k : Nat} {x : Int} (h : j ≠ k) : gi (ns.set j x) k = gi ns k := by
  unfold gi
  rw [List.getD_eq_getElem?_getD, List.getD_eq_getElem?_getD, List.getElem?_set_ne h]
/-- a comprehension that lets nothing through -/
theorem lc_none {A : Amb} {g : TG} {tt : TT} {te : TE} {R : List T → Env → Prop} {ws : List Nat} {n : Nat} {it : Nat → D} {e0 : Env} (hn : n ≤ 100000)
    (hs : ∀ i, i < n → WG A (fun j => j ∈ ws) g (.frz none (it i)) (wipeE e0 ws) fun e1 => WT A tt e1 fun b e2 => b = false ∧ wipeE e2 ws = wipeE e0 ws)
    (q : R [] (wipeE e0 ws)) : n ≤ 100000 ∧ ∃ Inv : Nat → List T → Env → Prop, Inv 0 [] (wipeE e0 ws) ∧
      (∀ i acc e, i < n → acc.length ≤ i → Inv i acc e → WG A (fun j => j ∈ ws) g (.frz none (it i)) e fun e1 => WT A tt e1 fun b e2 => (b = true → WE A te e2 fun t e3 => Inv (i + 1) (acc ++ [t]) (wipeE e3 ws)) ∧ (b = false → Inv (i + 1) acc (wipeE e2 ws))) ∧
      ∀ acc e, acc.length ≤ n → Inv n acc e → R acc e :=
  ⟨hn, fun i acc e => acc = [] ∧ e = wipeE e0 ws, ⟨rfl, rfl⟩, fun i acc e hlt hl ⟨ha, he⟩ => by
    rw [he]
    refine fun G H σ P v X s m Q k => hs i hlt G H σ P v X s m Q fun e' G' H' σ' P' q' s' st l w => k e' G' H' σ' P' (fun G H σ P s Q k => q' G H σ P s Q fun b e2 G' H' P' ⟨hb, he2⟩ s' st => k b e2 G' H' P' ⟨fun z => absurd (hb.symm.trans z) Bool.false_ne_true, fun _ => ⟨ha, he2⟩⟩ s' st) s' st l w,
   fun acc e hl ⟨ha, he⟩ => by rw [ha, he]; exact q⟩
section
variable {A : Amb} {env : Env} {Post : T → Env → Prop}
theorem wr_ne_nil (q : Post (B false) env) : WR A (rNeA A.c.K) (.t (.lst [])) (.t (.lst [])) env Post := wr_neA (d1 := .lst []) (d2 := .lst []) rfl rfl rfl rfl rfl rfl (by
  have e : PyData.eqv (D.lst []).py (D.lst []).py = true := by decide +kernel
  rw [e]; exact q)
end
end TL
/-! TF: attributes; signs of a text. -/
namespace TL
open PySem PySem.Spec PyProof.Rows L2
def putFT (f : Str) (t : T) : List (Str × T) → List (Str × T)
  | [] => [(f, t)]
  | (g, x) :: r => if g = f then (g, t) :: r else (g, x) :: putFT f t r
section
variable {A : Amb} {G H G' H' : Hp} {σ : L2.St} {env : Env} {P P' : Nat → As} {X X' X1 : As} {v x y z : V} {t t1 t2 : T} {vs : List V} {as : List Ar} {ta tb te : TE} {r : R2} {ts : List T} {a b : Ar} {Post : T → Env → Prop} {nx bk ct : Env → Prop} {rt : T → Env → Prop}
theorem repF_lookup {c : Cn} {H : Hp} {f : Str} : ∀ {fs : List (Str × D)} {gs : List (Str × V)} {d : D}, RepF c H fs gs → fs.lookup f = some d → ∃ v, gs.lookup f = some v ∧ Rep c H d v
  | [], gs, d, _, h => by cases h
  | (g, d0) :: fs, gs, d, ⟨v, r, e, h1, h2⟩, h => by
    subst e
    rw [List.lookup_cons] at h ⊢
    by_cases hb : f == g
    · simp only [hb] at h ⊢
      cases h
      exact ⟨v, rfl, h1⟩
    · simp only [hb] at h ⊢
      exact repF_lookup h2 h
theorem trf_lookup {c : Cn} {G H : Hp} {f : Str} : ∀ {fs : List (Str × T)} {F : As} {gs : List (Str × V)} {t : T}, TRf c G H fs F gs → fs.lookup f = some t → ∃ v F1, gs.lookup f = some v ∧ (∀ a, F1 a → F a) ∧ TR c G H t F1 v
  | [], F, gs, t, _, h => by cases h
  | (g, t0) :: fs, F, gs, t, ⟨v, r, F1, F2, e, h1, h2, h3, h4⟩, h => by
    subst e
    rw [List.lookup_cons] at h ⊢
    by_cases hb : f == g
    · simp only [hb] at h ⊢
      cases h
      exact ⟨v, F1, rfl, h1, h3⟩
    · simp only [hb] at h ⊢
      obtain ⟨w, F3, e1, e2, e3⟩ := trf_lookup h4 h
      exact ⟨w, F3, e1, fun a z => (h2 a (e2 a z)).1, e3⟩
/-- e.f of an instance that is fixed -/
theorem we_fld {k : Nat} {f : Str} (hc : Cls A.c.K (A.c.cls k)) (hn : NoAttr A.c.K (A.c.cls k) f) (h : WE A te env fun t e => ∃ o fs d, t = .frz o (.ins k fs) ∧ fs.lookup f = some d ∧ Post (.frz none d) e) : WE A (tFld A.c.K te f) env Post := fun G H σ P s Q kq => by
  refine h G H σ P s _ fun t e v G1 H1 P1 F1 p1 r1 => ?_
  obtain ⟨o, fs, d, rfl, hl, hp⟩ := p1
  obtain ⟨p, dx, gs, rfl, h2, h3⟩ := r1.tm.tr.1
  obtain ⟨w, hw, rw_⟩ := repF_lookup h3 hl
  refine ⟨p, _, dx, gs, w, rfl, r1.sr.le _ _ h2, hc, hn, hw, kq _ _ w _ _ _ noF hp ⟨r1.sr, r1.st.wk (fun _ h => h) fun a z => ?_, .flat rw_ fun _ z => nomatch z⟩⟩
  rcases z with z | z
  · exact .inl (.inl z)
  · exact z.elim
/-- x.f, itself fixed, of one's own instance that a name holds -/
theorem we_fldS {k n : Nat} {f : Str} {fs : List (Str × T)} {ov : Option V} {d : D} (hc : Cls A.c.K (A.c.cls k)) (hn : NoAttr A.c.K (A.c.cls k) f) (he : env[n]? = some (some (.ins k fs))) (hl : fs.lookup f = some (.frz ov d)) (q : Post (.frz ov d) env) : WE A (tFld A.c.K (tVar n) f) env Post := fun G H σ P s Q kq => by
  obtain ⟨v, hv, p, dx, gs, F1, rfl, h2, h3, h4, h5, h6⟩ := s.slot n _ he
  obtain ⟨w, F3, hw, _, tw⟩ := trf_lookup h6 hl
  exact ⟨_, hv, p, _, dx, gs, w, rfl, h4, hc, hn, hw, kq _ _ w _ _ _ noF q (.frz s tw.1 tw.2)⟩
theorem trf_put {c : Cn} {f : Str} : ∀ {fs : List (Str × T)} {F1 F2 F : As} {gs : List (Str × V)} {t : T} {v : V}, TRf c G H fs F1 gs → TR c G H t F2 v → (∀ a, F1 a → F a) → (∀ a, F2 a → F a ∧ ¬ F1 a) → (∀ a, F a → G a = none) → TRf c G H (putFT f t fs) F (putF f v gs)
  | [], F1, F2, F, gs, t, v, h, hb, _, h2, g => by
    cases h
    exact ⟨v, [], F2, noF, rfl, fun a z => (h2 a z).1, fun _ z => z.elim, hb, rfl⟩
  | (k, u) :: r, F1, F2, F, gs, t, v, ⟨w, r', X1, X2, e, h2, h3, h4, h5⟩, hb, k1, k2, g => by
    subst e
    unfold putFT putF
    by_cases hk : k = f
    · rw [if_pos hk, if_pos hk]
      exact ⟨v, r', F2, X2, rfl, fun a x => (k2 a x).1, fun a x => ⟨k1 a (h3 a x).1, fun y => (k2 a y).2 (h3 a x).1⟩, hb, h5⟩
    · rw [if_neg hk, if_neg hk]
      refine ⟨w, putF f v r', X1, fun a => X2 a ∨ F2 a, rfl, fun a x => k1 a (h2 a x), fun a x => ?_, h4, trf_put h5 hb (fun a x => .inl x) (fun a x => ⟨.inr x, fun y => (k2 a x).2 (h3 a y).1⟩) fun a x => ?_⟩
      · rcases x with x | x
        · exact ⟨k1 a (h3 a x).1, (h3 a x).2⟩
        · exact ⟨(k2 a x).1, fun y => (k2 a x).2 (h2 a y)⟩
      · rcases x with x | x
        · exact g a (k1 a (h3 a x).1)
        · exact g a (k2 a x).1
theorem trf_len {c : Cn} : ∀ {fs : List (Str × T)} {X : As} {gs : List (Str × V)}, TRf c G H fs X gs → gs.length = fs.length
  | [], _, _, h => by cases h; rfl
  | (f, d) :: ds, X, vs, ⟨v, r, F1, F2, e, _, _, h1, h2⟩ => by subst e; simp [trf_len h2]
/-- x.f = e, x one's own instance that a name holds -/
theorem ws_fld {k n : Nat} {f : Str} {fs : List (Str × T)} {tv : TE} (hc : Cls A.c.K (A.c.cls k)) (hn : NoAttr A.c.K (A.c.cls k) f) (hl : fs.length < 1000) (h : WE A tv env fun t e => e[n]? = some (some (.ins k fs)) ∧ nx (e.set n (some (.ins k (putFT f t fs))))) :
    WS A (sFld A.c.K (tVar n) tv f) env nx rt bk ct := fun G H σ P s D nx rt bk ct => by
  refine h G H σ P s _ fun t e y G1 H1 P1 F1 p1 r1 => ?_
  obtain ⟨he, hp⟩ := p1
  obtain ⟨v, hv, p, dx, gs, F2, rfl, h2, h3, h4, h5, h6⟩ := r1.sr.slot n _ he
  refine ⟨_, hv, p, _, dx, gs, rfl, h4, hc, hn, by rw [trf_len h6]; exact hl, ?_⟩
  have keep : ∀ a o, a ≠ p → H1 a = some o → upd H1 p (.ins (A.c.cls k) dx (putF f y gs)) a = some o := fun a o ne e => by rw [upd_ne ne]; exact e
  obtain ⟨s2, st2⟩ := r1.sr.modify (X := F1) he hv r1.tm.fd r1.tm.bs (H' := upd H1 p (.ins (A.c.cls k) dx (putF f y gs))) (t1 := .ins k (putFT f t fs))
    ⟨p, dx, _, fun a => F2 a ∨ F1 a, rfl, .inl h2, h3, upd_same, fun a z => by
      rcases z with z | z
      · exact ⟨.inl (h5 a z).1, (h5 a z).2⟩
      · exact ⟨.inr z, fun e => (r1.tm.fd a z).1 ⟨n, by subst e; exact h2⟩⟩,
     trf_put (F1 := F2) (F2 := F1) (h6.mono (Ex.refl _) (fun _ z => z) (fun a o z e => keep a o (h5 a z).2 e) fun a z => (r1.sr.own n a (h5 a z).1).1)
      (r1.tm.tr.mono (Ex.refl _) (fun _ z => z) (fun a o z e => keep a o (fun y => (r1.tm.fd a z).1 ⟨n, by subst y; exact h2⟩) e) fun a z => (r1.tm.fd a z).2.1) (fun a z => .inl z) (fun a z => ⟨.inr z, fun y => (r1.tm.fd a z).1 ⟨n, (h5 a y).1⟩⟩) fun a z => by
        rcases z with z | z
        · exact (r1.sr.own n a (h5 a z).1).1
        · exact (r1.tm.fd a z).2.1⟩
    (fun a o n' e => keep a o (fun q => n' (q ▸ h2)) e) fun a z => by
      by_cases q : a = p
      · subst q; rw [upd_same]; exact Option.some_ne_none _
      · rw [upd_ne q]; exact (r1.sr.own n a z).2
  exact nx _ G1 _ σ _ hp s2 ((r1.st.trans st2).g)
/-! ### signs -/
def sgn (c : Nat) : Str := ⟨#[c]⟩
/-- the i-th sign -/
def si (w : Str) (i : Nat) : Nat := w.cps.toList.getD i 0
theorem wi_sgn {Post : Nat → (Nat → D) → Env → Prop} (h : WE A te env fun t e => ∃ o w, t = .frz o (.str w) ∧ Post w.length (fun i => .str (sgn (si w i))) e) : WI A (iStr te) env Post := fun G H σ P s R k => by
  refine h G H σ P s _ fun t e v G1 H1 P1 F1 p1 r1 => ?_
  obtain ⟨o, w, rfl, hp⟩ := p1
  refine ⟨w, r1.tm.tr.1, k _ _ _ _ _ _ _ hp r1.sr r1.drop fun G' H' σ' env' P' s' ex i => ⟨fun hi => Nat.le_of_eq hi.symm, fun hi => ⟨hi, fun x H2 y => ?_⟩⟩⟩
  obtain ⟨rfl, c, hcp, rfl⟩ := y
  refine ⟨G', s', Ex.refl _, Stp.refl, ?_⟩
  have : si w i = c := by
    unfold si
    rw [List.getD_eq_getElem?_getD, Array.getElem?_toList, hcp]; rfl
  show V.str _ = V.str _
  rw [this]; rfl
theorem wr_inC {o1 o2 : Option V} {c : Nat} {w : Str} (q : Post (B (decide (c ∈ w.cps.toList))) env) : WR A (rInA A.c.K) (.t (.frz o1 (.str (sgn c)))) (.t (.frz o2 (.str w))) env Post :=
  wr_flat (d1 := .str (sgn c)) (d2 := .str w) (d := .bl (decide (c ∈ w.cps.toList))) rfl rfl (fun _ => rfl) (fun H x y e1 e2 Q q => .inl (.inr ⟨c, w, e1, e2, q⟩)) q
theorem wr_niC {o1 o2 : Option V} {c : Nat} {w : Str} (q : Post (B (!decide (c ∈ w.cps.toList))) env) : WR A (rNiA A.c.K) (.t (.frz o1 (.str (sgn c)))) (.t (.frz o2 (.str w))) env Post :=
  wr_flat (d1 := .str (sgn c)) (d2 := .str w) (d := .bl (!decide (c ∈ w.cps.toList))) rfl rfl (fun _ => rfl) (fun H x y e1 e2 Q q => .inl (.inr ⟨c, w, e1, e2, q⟩)) q
end
end TL
/-! TF2: instances that are fixed when made; what a text's classes must have; the head's further checks. -/
namespace TL
open PySem PySem.Spec PyProof.Rows L2
section
variable {A : Amb} {G H G' H' : Hp} {σ : L2.St} {env : Env} {P P' : Nat → As} {X X' X1 : As} {v x y z : V} {t t1 t2 : T} {vs : List V} {as : List Ar} {ta tb te : TE} {r : R2} {ts : List T} {a b : Ar} {Post : T → Env → Prop} {nx bk ct : Env → Prop} {rt : T → Env → Prop}
theorem we_frz (h : WE A te env fun t e => Post (.frz none t.data) e) : WE A te env Post := fun G H σ P s Q kq => by
  refine h G H σ P s _ fun t e v G1 H1 P1 F1 p1 r1 => ?_
  obtain ⟨s2, st2, rp⟩ := fixT r1.sr r1.tm
  exact kq _ _ v _ H1 P1 noF p1 ⟨s2, (r1.st.trans st2).wk (fun _ h => h) fun a z => by
    rcases z with z | z
    · exact .inl z
    · exact z.elim, .flat rp fun _ z => nomatch z⟩
/-- C(..), fixed at once -/
theorem we_makeF {n k : Nat} {Sf : FS} {E : XK} {tr : TA} (h : WA A tr env fun as e => ∃ ts, argT e as = some ts ∧ ts.length + 1 = n ∧ (slots as).Nodup ∧ Sf (.ins k [] :: ts) fun o => ∃ t ts', o = .ret N_ (some t :: ts') ∧ Post (.frz none t.data) (backT e as ts')) :
    WE A (tMake (A.c.cls k) (spOf A.c n Sf) [] E tr) env Post := we_frz (we_make h)
/-- what isinstance asks of a class -/
structure Isi (K : PySem.W.Frag) (C : Addr) : Prop where
  f1 : PySem.W.findIn K (.ref C) "__class__" = some (some (.builtin "object.__class__"))
  f2 : PySem.W.specialIn K (.builtin "object.__class__") "__get__" = some (some (.builtin "getset_descriptor.__get__"))
  f3 : PySem.W.takesIn K (.builtin "object.__class__") = some true
  f4 : PySem.W.mroIn K C (.type "object") = some true
theorem isi_ok {K : PySem.W.Frag} {x : Str} (h : isiB x K = true) : Isi K (He.ga K x) := by
  obtain ⟨h1, h⟩ := He.ba h
  obtain ⟨h2, h⟩ := He.ba h
  obtain ⟨h3, h4⟩ := He.ba h
  exact ⟨He.eqO_ok h1, He.eqO_ok h2, of_decide_eq_true h3, of_decide_eq_true h4⟩
theorem kitK_ok {K : PySem.W.Frag} {x y : Str} {b : Bool} (h : kitK x y b K = true) : PySem.W.kitOne K (.ref (He.ga K x)) (.ref (He.ga K y)) = some b := of_decide_eq_true h
/-- what the text's classes have: is: isinstance may be asked, ks: (class, class, answer) -/
structure CF (c : Cn) (cs : List Nat) (fs : List (Nat × Str)) (is : List Nat) (ks : List (Nat × Nat × Bool)) : Prop where
  cls : ∀ k, k ∈ cs → Cls c.K (c.cls k)
  noat : ∀ p, p ∈ fs → NoAttr c.K (c.cls p.1) p.2
  isi : ∀ k, k ∈ is → Isi c.K (c.cls k)
  kit : ∀ p, p ∈ ks → PySem.W.kitOne c.K (.ref (c.cls p.1)) (.ref (c.cls p.2.1)) = some p.2.2
section
variable {cs : List Nat} {fs : List (Nat × Str)} {is : List Nat} {ks : List (Nat × Nat × Bool)}
theorem CF.cl {c : Cn} {k : Nat} (h : CF c cs fs is ks) (m : cs.contains k = true) : Cls c.K (c.cls k) := h.cls k (List.contains_iff_mem.mp m)
theorem CF.na {c : Cn} {k : Nat} {f : Str} (h : CF c cs fs is ks) (m : fs.contains (k, f) = true) : NoAttr c.K (c.cls k) f := h.noat _ (List.contains_iff_mem.mp m)
theorem fi_own {k j : Nat} {gs : List (Str × D)} {bo : Bool} {o o2 : Option V} (h : CF A.c cs fs is ks) (m1 : cs.contains k = true) (m2 : is.contains k = true) (m3 : ks.contains (k, j, bo) = true) (q : Post (B bo) env) :
    WC A (rIsi A.c.K) [.t (.frz o (.ins k gs)), .t (.frz o2 (.oth (.ref (A.c.cls j))))] env Post :=
  let i := h.isi k (List.contains_iff_mem.mp m2)
  wc_isi_ins rfl (.own _) (h.kit _ (List.contains_iff_mem.mp m3)) (h.cl m1) i.f1 i.f2 i.f3 i.f4 q
theorem we_fldC {k : Nat} {f : Str} (h : WE A te env fun t e => ∃ o gs d, t = .frz o (.ins k gs) ∧ gs.lookup f = some d ∧ Post (.frz none d) e) (hc : CF A.c cs fs is ks) (m1 : cs.contains k = true) (m2 : fs.contains (k, f) = true) : WE A (tFld A.c.K te f) env Post := we_fld (hc.cl m1) (hc.na m2) h
end
/-- the i-th of a list that is told by a function -/
theorem wr_ix_frzM {o o2 : Option V} {m : Nat} {f : Nat → D} {i : Int} (h0 : 0 ≤ i) (h1 : i < m) (q : Post (.frz none (f i.toNat)) env) : WR A (rIxA A.c.K) (.t (.frz o (.lst ((List.range m).map f)))) (.t (.frz o2 (.int i))) env Post :=
  wr_ix_frz (by
    unfold atI
    rw [ixN_ok h0 (by rw [List.length_map, List.length_range]; exact h1)]
    show (List.map f (List.range m))[i.toNat]? = _
    rw [List.getElem?_map, List.getElem?_range (by omega)]; rfl) q
theorem wr_ix_frzML {o o2 : Option V} {m : Nat} {f : Nat → D} {i : Int} (hi : i = -1) (h1 : 0 < m) (q : Post (.frz none (f (m - 1))) env) : WR A (rIxA A.c.K) (.t (.frz o (.lst ((List.range m).map f)))) (.t (.frz o2 (.int i))) env Post :=
  wr_ix_frz (by
    subst hi
    unfold atI
    rw [ixN_last (by rw [List.length_map, List.length_range]; omega)]
    show (List.map f (List.range m))[(List.map f (List.range m)).length - 1]? = _
    rw [List.length_map, List.length_range, List.getElem?_map, List.getElem?_range (by omega)]; rfl) q
end
end TL
/-! TF3: fields by names; letters of ways. -/
namespace TL
open PySem PySem.Spec PyProof.Rows L2
theorem putFT_new {f : Str} {t : T} : ∀ {fs : List (Str × T)}, (fs.map (·.1)).contains f = false → putFT f t fs = fs ++ [(f, t)]
  | [], _ => rfl
  | (g, x) :: r, h => by
    rw [List.map_cons, List.contains_cons, Bool.or_eq_false_iff] at h
    unfold putFT
    rw [if_neg fun e => by subst e; simp at h, putFT_new h.2]; rfl
section
variable {A : Amb} {G H G' H' : Hp} {σ : L2.St} {env : Env} {te tv : TE} {r : R2} {a b : Ar} {Post : T → Env → Prop} {nx bk ct : Env → Prop} {rt : T → Env → Prop}
variable {cs : List Nat} {fs0 : List (Nat × Str)} {is : List Nat} {ks : List (Nat × Nat × Bool)}
theorem we_fldV {k n : Nat} {f : Str} {o : Option V} {gs : List (Str × D)} {d : D} (he : env[n]? = some (some (.frz o (.ins k gs)))) (hl : gs.lookup f = some d) (hc : CF A.c cs fs0 is ks) (m1 : cs.contains k = true) (m2 : fs0.contains (k, f) = true) (q : Post (.frz none d) env) :
    WE A (tFld A.c.K (tVar n) f) env Post := we_fld (hc.cl m1) (hc.na m2) (we_var he ⟨_, _, _, rfl, hl, q⟩)
theorem we_fldT {k n : Nat} {f : Str} {gs : List (Str × T)} {ov : Option V} {d : D} (he : env[n]? = some (some (.ins k gs))) (hl : gs.lookup f = some (.frz ov d)) (hc : CF A.c cs fs0 is ks) (m1 : cs.contains k = true) (m2 : fs0.contains (k, f) = true) (q : Post (.frz ov d) env) :
    WE A (tFld A.c.K (tVar n) f) env Post := we_fldS (hc.cl m1) (hc.na m2) he hl q
/-- x.f = e, f a new one -/
theorem ws_fldN {k n : Nat} {f : Str} {fs : List (Str × T)} (he : env[n]? = some (some (.ins k fs))) (hn : (fs.map (·.1)).contains f = false) (hl : fs.length < 1000) (hc : CF A.c cs fs0 is ks) (m1 : cs.contains k = true) (m2 : fs0.contains (k, f) = true)
    (h : WE A tv env fun t e => e[n]? = some (some (.ins k fs)) ∧ nx (e.set n (some (.ins k (fs ++ [(f, t)]))))) : WS A (sFld A.c.K (tVar n) tv f) env nx rt bk ct :=
  ws_fld (hc.cl m1) (hc.na m2) hl (we_imp h fun t e ⟨e1, q⟩ => ⟨e1, by rw [putFT_new hn]; exact q⟩)
/-! ### letters -/
theorem in_rb {c : Nat} : (c ∈ ("rb" : Str).cps.toList) = (c = 114 ∨ c = 98) := by
  rw [show ("rb" : Str).cps.toList = [114, 98] by decide +kernel]; simp
theorem in_pb {c : Nat} : (c ∈ ("pb" : Str).cps.toList) = (c = 112 ∨ c = 98) := by
  rw [show ("pb" : Str).cps.toList = [112, 98] by decide +kernel]; simp
theorem in_rpb {c : Nat} : (c ∈ ("rpb" : Str).cps.toList) = (c = 114 ∨ c = 112 ∨ c = 98) := by
  rw [show ("rpb" : Str).cps.toList = [114, 112, 98] by decide +kernel]; simp
theorem wr_inRB {o1 o2 : Option V} {c : Nat} (q : Post (B (decide (c = 114 ∨ c = 98))) env) : WR A (rInA A.c.K) (.t (.frz o1 (.str (sgn c)))) (.t (.frz o2 (.str "rb"))) env Post := wr_inC (by simp only [in_rb]; exact q)
theorem wr_inPB {o1 o2 : Option V} {c : Nat} (q : Post (B (decide (c = 112 ∨ c = 98))) env) : WR A (rInA A.c.K) (.t (.frz o1 (.str (sgn c)))) (.t (.frz o2 (.str "pb"))) env Post := wr_inC (by simp only [in_pb]; exact q)
theorem wr_niRPB {o1 o2 : Option V} {c : Nat} (q : Post (B (!decide (c = 114 ∨ c = 112 ∨ c = 98))) env) : WR A (rNiA A.c.K) (.t (.frz o1 (.str (sgn c)))) (.t (.frz o2 (.str "rpb"))) env Post := wr_niC (by simp only [in_rpb]; exact q)
theorem sgn_eq {a b : Nat} : (sgn a = sgn b) = (a = b) := by
  unfold sgn
  simp
theorem sgn_r : (("r" : Str)) = sgn 114 := by decide +kernel
theorem sgn_p : (("p" : Str)) = sgn 112 := by decide +kernel
theorem sgn_b : (("b" : Str)) = sgn 98 := by decide +kernel
end
end TL
/-! TF4: is None; what repr of lists of numbers tells. -/
namespace TL
open PySem PySem.Spec PyProof.Rows L2
def rIsN' : R2 := fun x y H Q => y = .non ∧ Q (.bl (decide (x = .non))) H
def rNotN' : R2 := fun x y H Q => y = .non ∧ Q (.bl (!decide (x = .non))) H
theorem op_isNo {X : Cx} : OpR X (compareOp .Is) rIsN' := op_isN
theorem op_notNo {X : Cx} : OpR X (compareOp .IsNot) rNotN' := op_notN
def D.isNon : D → Option Bool
  | .non => some true
  | .oth _ => none
  | _ => some false
theorem rep_isNon {c : Cn} {H : Hp} {d : D} {x : V} {b : Bool} (h : Rep c H d x) (e : d.isNon = some b) : decide (x = .non) = b := by
  cases d with
  | non => cases e; cases h; rfl
  | oth v => cases e
  | bl _ => cases e; cases h; rfl
  | int _ => cases e; cases h; rfl
  | str _ => cases e; cases h; rfl
  | lst _ => cases e; obtain ⟨p, vs, rfl, _⟩ := h; rfl
  | tup _ => cases e; obtain ⟨p, vs, rfl, _⟩ := h; rfl
  | dik _ => cases e; obtain ⟨p, vs, rfl, _⟩ := h; rfl
  | dit _ => cases e; obtain ⟨p, vs, rfl, _⟩ := h; rfl
  | ins _ _ => cases e; obtain ⟨p, vs, gs, rfl, _⟩ := h; rfl
  | scr _ => cases e; obtain ⟨p, rfl, _⟩ := h; rfl
section
variable {A : Amb} {env : Env} {a b : Ar} {Post : T → Env → Prop}
theorem wr_isN {d : D} {o : Option V} {k : Bool} (h : arD env a = some d) (e : d.isNon = some k) (q : Post (B k) env) : WR A rIsN' a (.t (.frz o .non)) env Post :=
  wr_flat (d1 := d) (d2 := .non) (d := .bl k) h rfl (fun _ => rfl) (fun H x y e1 e2 Q q => by
    cases e2
    exact ⟨rfl, by rw [rep_isNon e1 e]; exact q⟩) q
theorem wr_notN {d : D} {o : Option V} {k : Bool} (h : arD env a = some d) (e : d.isNon = some k) (q : Post (B (!k)) env) : WR A rNotN' a (.t (.frz o .non)) env Post :=
  wr_flat (d1 := d) (d2 := .non) (d := .bl (!k)) h rfl (fun _ => rfl) (fun H x y e1 e2 Q q => by
    cases e2
    exact ⟨rfl, by rw [rep_isNon e1 e]; exact q⟩) q
end
/-! ### signs of shown numbers -/
def numI (i : Int) : List Nat := tl (Str.ofString (toString i))
theorem numI_pos {i : Int} (h : 0 ≤ i) : numI i = numL i.toNat := by
  obtain ⟨n, rfl⟩ := Int.eq_ofNat_of_zero_le h
  exact tl_num n
theorem numI_neg {i : Int} (h : i < 0) : numI i = 45 :: numI (0 - i) := by
  unfold numI
  rw [toString_neg h]
  show (Str.ofString _).cps.toList = 45 :: (Str.ofString _).cps.toList
  rw [signs_ofString, signs_ofString, String.toList_append, List.map_append]
  rfl
theorem numI_sg (i : Int) : ∀ c, c ∈ numI i → 45 ≤ c ∧ c ≤ 57 := by
  have pos : ∀ i : Int, 0 ≤ i → ∀ c, c ∈ numI i → 45 ≤ c ∧ c ≤ 57 := fun i h c hc => by
    rw [numI_pos h] at hc
    have := numL_digits _ c hc
    omega
  by_cases h : 0 ≤ i
  · exact pos i h
  · intro c hc
    rw [numI_neg (by omega)] at hc
    rcases List.mem_cons.mp hc with rfl | hc
    · decide
    · exact pos _ (by omega) c hc
theorem numI_inj {i j : Int} (h : numI i = numI j) : i = j := by
  have hd : ∀ {i j : Int}, 0 ≤ i → j < 0 → numI i ≠ numI j := fun {i j} hi hj e => by
    rw [numI_neg hj, numI_pos hi] at e
    have := numL_digits i.toNat 45 (by rw [e]; exact List.mem_cons_self)
    omega
  by_cases hi : 0 ≤ i <;> by_cases hj : 0 ≤ j
  · rw [numI_pos hi, numI_pos hj] at h
    have := numL_inj h
    omega
  · exact absurd h (hd hi (by omega))
  · exact absurd h.symm (hd hj (by omega))
  · rw [numI_neg (i := i) (by omega), numI_neg (i := j) (by omega), numI_pos (i := 0 - i) (by omega), numI_pos (i := 0 - j) (by omega), List.cons.injEq] at h
    have := numL_inj h.2
    omega
/-- the number ahead of a sign that no number has -/
theorem cut_sg {a b : Nat} (ha : 57 < a ∨ a < 45) (hb : 57 < b ∨ b < 45) {r r' : List Nat} : ∀ {xs ys : List Nat}, (∀ c, c ∈ xs → 45 ≤ c ∧ c ≤ 57) → (∀ c, c ∈ ys → 45 ≤ c ∧ c ≤ 57) → xs ++ a :: r = ys ++ b :: r' → xs = ys ∧ a :: r = b :: r'
  | [], [], _, _, h => ⟨rfl, h⟩
  | [], y :: ys, _, hy, h => by
    rw [List.nil_append, List.cons_append, List.cons.injEq] at h
    have := hy y List.mem_cons_self
    omega
  | x :: xs, [], hx, _, h => by
    rw [List.nil_append, List.cons_append, List.cons.injEq] at h
    have := hx x List.mem_cons_self
    omega
  | x :: xs, y :: ys, hx, hy, h => by
    rw [List.cons_append, List.cons_append, List.cons.injEq] at h
    obtain ⟨e1, e2⟩ := cut_sg ha hb (fun c z => hx c (List.mem_cons_of_mem _ z)) (fun c z => hy c (List.mem_cons_of_mem _ z)) h.2
    exact ⟨by rw [h.1, e1], e2⟩
def rsI : List Int → List Nat
  | [] => [93]
  | n :: ns => 44 :: 32 :: (numI n ++ rsI ns)
def bdI : List Int → List Nat
  | [] => [93]
  | n :: ns => numI n ++ rsI ns
theorem rsI_hd (ns : List Int) (r : List Nat) : ∃ a q, rsI ns ++ r = a :: q ∧ (57 < a ∨ a < 45) := by
  cases ns with
  | nil => exact ⟨93, r, rfl, by decide⟩
  | cons n ns => exact ⟨44, _, rfl, by decide⟩
theorem rsI_inj {r r' : List Nat} : ∀ {a b : List Int}, rsI a ++ r = rsI b ++ r' → a = b ∧ r = r'
  | [], [], h => ⟨rfl, (List.cons.inj h).2⟩
  | [], _ :: _, h => absurd (List.cons.inj h).1 (by decide)
  | _ :: _, [], h => absurd (List.cons.inj h).1 (by decide)
  | n :: a, m :: b, h => by
    have h2 := (List.cons.inj (List.cons.inj h).2).2
    rw [List.append_eq, List.append_eq, List.append_assoc, List.append_assoc] at h2
    obtain ⟨x, q, e, hx⟩ := rsI_hd a r
    obtain ⟨y, q', e', hy⟩ := rsI_hd b r'
    rw [e, e'] at h2
    obtain ⟨e1, e2⟩ := cut_sg hx hy (numI_sg n) (numI_sg m) h2
    rw [← e, ← e'] at e2
    obtain ⟨e3, e4⟩ := rsI_inj e2
    exact ⟨by rw [numI_inj e1, e3], e4⟩
theorem bdI_inj {r r' : List Nat} : ∀ {a b : List Int}, bdI a ++ r = bdI b ++ r' → a = b ∧ r = r'
  | [], [], h => ⟨rfl, (List.cons.inj h).2⟩
  | [], m :: b, h => by
    obtain ⟨y, q', e', hy⟩ := rsI_hd b r'
    have h2 : [] ++ 93 :: r = numI m ++ (rsI b ++ r') := by rw [← List.append_assoc]; exact h
    rw [e'] at h2
    have := (cut_sg (by decide) hy (fun _ z => by cases z) (numI_sg m) h2).1
    have h3 : numI m ≠ [] := fun z => by
      by_cases hm : 0 ≤ m
      · rw [numI_pos hm] at z; exact numL_ne _ z
      · rw [numI_neg (by omega)] at z; cases z
    exact absurd this.symm h3
  | n :: a, [], h => by
    obtain ⟨y, q', e', hy⟩ := rsI_hd a r
    have h2 : numI n ++ (rsI a ++ r) = [] ++ 93 :: r' := by rw [← List.append_assoc]; exact h
    rw [e'] at h2
    have := (cut_sg hy (by decide) (numI_sg n) (fun _ z => by cases z) h2).1
    have h3 : numI n ≠ [] := fun z => by
      by_cases hm : 0 ≤ n
      · rw [numI_pos hm] at z; exact numL_ne _ z
      · rw [numI_neg (by omega)] at z; cases z
    exact absurd this h3
  | n :: a, m :: b, h => by
    have h2 : numI n ++ (rsI a ++ r) = numI m ++ (rsI b ++ r') := by rw [← List.append_assoc, ← List.append_assoc]; exact h
    obtain ⟨x, q, e, hx⟩ := rsI_hd a r
    obtain ⟨y, q', e', hy⟩ := rsI_hd b r'
    rw [e, e'] at h2
    obtain ⟨e1, e2⟩ := cut_sg hx hy (numI_sg n) (numI_sg m) h2
    rw [← e, ← e'] at e2
    obtain ⟨e3, e4⟩ := rsI_inj e2
    exact ⟨by rw [numI_inj e1, e3], e4⟩
theorem pys_I (ns : List Int) : D.pys (ns.map D.int) = ns.map PyData.int := by
  induction ns with
  | nil => rfl
  | cons n ns ih => show _ :: D.pys _ = _; rw [ih]; rfl
theorem shown_I (ns : List Int) : PyData.shownAll (ns.map PyData.int) = ns.map fun n => Str.ofString (toString n) := by
  induction ns with
  | nil => rfl
  | cons n ns ih => show _ :: PyData.shownAll _ = _; rw [ih]; rfl
theorem join_I : ∀ (n : Int) (ns : List Int), tl (Str.join ", " ((n :: ns).map fun n => Str.ofString (toString n))) ++ [93] = numI n ++ rsI ns
  | n, [] => rfl
  | n, m :: ns => by
    show tl ((Str.ofString (toString n) ++ (", " : Str)) ++ Str.join ", " ((m :: ns).map fun n => Str.ofString (toString n))) ++ [93] = _
    rw [tl_append, tl_append, List.append_assoc, join_I m ns, List.append_assoc]
    rfl
theorem list_I (ns : List Int) : tl (D.lst (ns.map D.int)).py.shown = 91 :: bdI ns := by
  show tl (listText (PyData.shownAll (D.pys (ns.map D.int)))) = _
  rw [pys_I, shown_I, listText_eq_join, tl_append, tl_append, List.append_assoc]
  cases ns with
  | nil => decide +kernel
  | cons n ns =>
    rw [show tl ("]" : Str) = [93] by decide +kernel, show tl ("[" : Str) = [91] by decide +kernel, join_I n ns]
    rfl
theorem pair_I {a b a' b' : List Int} (h : (D.tup [.lst (a.map D.int), .lst (b.map D.int)]).py.shown = (D.tup [.lst (a'.map D.int), .lst (b'.map D.int)]).py.shown) : a = a' ∧ b = b' := by
  have e : ∀ a b : List Int, tl (D.tup [.lst (a.map D.int), .lst (b.map D.int)]).py.shown = 40 :: 91 :: (bdI a ++ (44 :: 32 :: 91 :: (bdI b ++ [41]))) := fun a b => by
    show tl (("(" : Str) ++ ((D.lst (a.map D.int)).py.shown ++ (", " : Str) ++ (D.lst (b.map D.int)).py.shown) ++ (")" : Str)) = _
    rw [tl_append, tl_append, tl_append, tl_append, list_I, list_I, show tl ("(" : Str) = [40] by decide +kernel, show tl (")" : Str) = [41] by decide +kernel, show tl (", " : Str) = [44, 32] by decide +kernel]
    simp
  have h2 := congrArg tl h
  rw [e, e, List.cons.injEq, List.cons.injEq] at h2
  obtain ⟨e1, e2⟩ := bdI_inj h2.2.2
  simp only [List.cons.injEq, true_and] at e2
  exact ⟨e1, (bdI_inj e2).1⟩
theorem list_inj {a b : List Int} (h : (D.lst (a.map D.int)).py.shown = (D.lst (b.map D.int)).py.shown) : a = b := by
  have h2 := congrArg tl h
  rw [list_I, list_I, List.cons.injEq] at h2
  exact (bdI_inj (r := []) (r' := []) (by rw [h2.2])).1
end TL
/-! TF5: comprehensions that choose; a rule's methods. -/
namespace TL
open PySem PySem.Spec PyProof.Rows L2
abbrev kR (k : Nat) : Prop := k = 2 ∨ k = 3 ∨ k = 4 ∨ k = 5
theorem we_meth4 {A : Amb} {env : Env} {Post : T → Env → Prop} {k : Nat} {m : Str} {sp : Sp} {ds : List V} {E : XK} {ro : TE} {ra : TA} (hk : kR k) (h : WE A (tMeth (A.c.cls k) m sp ds E ro ra) env Post) :
    WE A (tOrE (tMeth (A.c.cls 2) m sp ds E ro ra) (tOrE (tMeth (A.c.cls 3) m sp ds E ro ra) (tOrE (tMeth (A.c.cls 4) m sp ds E ro ra) (tMeth (A.c.cls 5) m sp ds E ro ra)))) env Post := by
  rcases hk with rfl | rfl | rfl | rfl
  · exact we_orL h
  · exact we_orR (we_orL h)
  · exact we_orR (we_orR (we_orL h))
  · exact we_orR (we_orR (we_orR h))
/-- a comprehension that lets some through -/
theorem lc_filt {A : Amb} {g : TG} {tt : TT} {te : TE} {R : List T → Env → Prop} {ws : List Nat} {n : Nat} {it : Nat → D} {e0 : Env} (hn : n ≤ 100000) (p : Nat → Bool) (f : Nat → T)
    (hs : ∀ i, i < n → WG A (fun j => j ∈ ws) g (.frz none (it i)) (wipeE e0 ws) fun e1 => WT A tt e1 fun b e2 => b = p i ∧ (b = true → WE A te e2 fun t e3 => t = f i ∧ wipeE e3 ws = wipeE e0 ws) ∧ (b = false → wipeE e2 ws = wipeE e0 ws))
    (q : R (((List.range n).filter p).map f) (wipeE e0 ws)) : n ≤ 100000 ∧ ∃ Inv : Nat → List T → Env → Prop, Inv 0 [] (wipeE e0 ws) ∧
      (∀ i acc e, i < n → acc.length ≤ i → Inv i acc e → WG A (fun j => j ∈ ws) g (.frz none (it i)) e fun e1 => WT A tt e1 fun b e2 => (b = true → WE A te e2 fun t e3 => Inv (i + 1) (acc ++ [t]) (wipeE e3 ws)) ∧ (b = false → Inv (i + 1) acc (wipeE e2 ws))) ∧
      ∀ acc e, acc.length ≤ n → Inv n acc e → R acc e :=
  ⟨hn, fun i acc e => acc = ((List.range i).filter p).map f ∧ e = wipeE e0 ws, ⟨rfl, rfl⟩, fun i acc e hlt hl ⟨ha, he⟩ => by
    rw [he]
    refine fun G H σ P v X s m Q k => hs i hlt G H σ P v X s m Q fun e' G' H' σ' P' q' s' st l w => k e' G' H' σ' P' (fun G H σ P s Q k => q' G H σ P s Q fun b e2 G' H' P' ⟨hb, h1, h2⟩ s' st => k b e2 G' H' P' ⟨fun z => ?_, fun z => ⟨?_, h2 z⟩⟩ s' st) s' st l w
    · exact fun G H σ P s Q k => h1 z G H σ P s Q fun t e v G' H' P' F ⟨et, ee⟩ r => k t e v G' H' P' F ⟨by
        rw [List.range_succ, List.filter_append, List.map_append, ha, et]
        simp [hb.symm.trans z], ee⟩ r
    · rw [List.range_succ, List.filter_append, List.map_append, ha]
      simp [hb.symm.trans z],
   fun acc e hl ⟨ha, he⟩ => by rw [ha, he]; exact q⟩
section
variable {A : Amb} {env : Env} {a b : Ar} {Post : T → Env → Prop}
theorem eqv_nil {ds : List PyData} : PyData.eqv (.list ds) (.list []) = ds.isEmpty := by
  cases ds with
  | nil => decide +kernel
  | cons d ds => rfl
theorem plain_ints {ns : List Int} : (D.lst (ns.map D.int)).plain = true := by
  show D.plains _ = true
  induction ns with
  | nil => rfl
  | cons n ns ih => exact ih
theorem lay_ints : ∀ ns : List Int, PyData.canLayAll0 (ns.map PyData.int) = true ∧ PyData.depthAll (ns.map PyData.int) ≤ 1
  | [] => ⟨rfl, by decide⟩
  | n :: ns => ⟨by show (true && PyData.canLayAll0 _) = true; rw [(lay_ints ns).1]; rfl, by
      have := (lay_ints ns).2
      simp only [List.map_cons, PyData.depthAll, PyData.depth]
      omega⟩
theorem shaped_ints {ns : List Int} : SeqAt.shaped (D.lst (ns.map D.int)).py = true := by
  show SeqAt.shaped (.list (D.pys (ns.map D.int))) = true
  rw [pys_I]
  obtain ⟨h1, h2⟩ := lay_ints ns
  unfold SeqAt.shaped
  rw [Bool.and_eq_true]
  exact ⟨h1, decide_eq_true (by show PyData.depthAll _ + 1 ≤ 64; omega)⟩
theorem eqv_ints : ∀ a b : List Int, PyData.eqvAll (a.map PyData.int) (b.map PyData.int) = decide (a = b)
  | [], [] => by simp [PyData.eqvAll]
  | [], _ :: _ => by simp [PyData.eqvAll]
  | _ :: _, [] => by simp [PyData.eqvAll]
  | x :: a, y :: b => by
    simp only [List.map_cons, PyData.eqvAll, PyData.eqv, eqv_ints a b]
    by_cases h1 : x = y <;> by_cases h2 : a = b <;> simp [h1, h2]
theorem eqv_lst {a b : List Int} : PyData.eqv (D.lst (a.map D.int)).py (D.lst (b.map D.int)).py = decide (a = b) := by
  show PyData.eqv (.list (D.pys _)) (.list (D.pys _)) = _
  rw [pys_I, pys_I, PyData.eqv, eqv_ints]
/-- lists of numbers, alike -/
theorem wr_eqI {xs ys : List Int} (h1 : arD env a = some (.lst (xs.map D.int))) (h2 : arD env b = some (.lst (ys.map D.int))) (q : Post (B (decide (xs = ys))) env) : WR A (rEqA A.c.K) a b env Post :=
  wr_eqA h1 h2 plain_ints plain_ints shaped_ints shaped_ints (by rw [eqv_lst]; exact q)
theorem wr_neI {xs ys : List Int} (h1 : arD env a = some (.lst (xs.map D.int))) (h2 : arD env b = some (.lst (ys.map D.int))) (q : Post (B (!decide (xs = ys))) env) : WR A (rNeA A.c.K) a b env Post :=
  wr_neA h1 h2 plain_ints plain_ints shaped_ints shaped_ints (by rw [eqv_lst]; exact q)
theorem wr_nePairI {xs ys : List Int} (h1 : arD env a = some (.tup [.lst (xs.map D.int), .lst (ys.map D.int)])) (h2 : arD env b = some (.tup [.lst (xs.map D.int), .lst (ys.map D.int)])) (q : Post (B false) env) : WR A (rNeA A.c.K) a b env Post := by
  have p : (D.tup [.lst (xs.map D.int), .lst (ys.map D.int)]).plain = true := by
    show (D.plain _ && (D.plain _ && true)) = true
    rw [plain_ints, plain_ints]; rfl
  have s : SeqAt.shaped (D.tup [.lst (xs.map D.int), .lst (ys.map D.int)]).py = true := by
    show SeqAt.shaped (.tuple [.list (D.pys (xs.map D.int)), .list (D.pys (ys.map D.int))]) = true
    rw [pys_I, pys_I]
    obtain ⟨a1, a2⟩ := lay_ints xs
    obtain ⟨b1, b2⟩ := lay_ints ys
    unfold SeqAt.shaped
    rw [Bool.and_eq_true]
    exact ⟨by show (PyData.canLayAll0 _ && (PyData.canLayAll0 _ && true)) = true; rw [a1, b1]; rfl, decide_eq_true (by show max (PyData.depthAll _ + 1) (max (PyData.depthAll _ + 1) 0) + 1 ≤ 64; omega)⟩
  refine wr_neA h1 h2 p p s s ?_
  have e : PyData.eqv (D.tup [.lst (xs.map D.int), .lst (ys.map D.int)]).py (D.tup [.lst (xs.map D.int), .lst (ys.map D.int)]).py = true := by
    show PyData.eqv (.tuple [.list (D.pys (xs.map D.int)), .list (D.pys (ys.map D.int))]) (.tuple [.list (D.pys (xs.map D.int)), .list (D.pys (ys.map D.int))]) = true
    rw [pys_I, pys_I]
    simp only [PyData.eqv, PyData.eqvAll, eqv_ints]
    simp
  rw [e]
  exact q
end
end TL
/-! TF6: lists that stood in several places are one's own again. -/
namespace TL
open PySem PySem.Spec PyProof.Rows L2
def okD : D → Bool
  | .int _ => true | .bl _ => true | .str _ => true | .non => true
  | .ins _ [] => true
  | _ => false
mutual
def okT : T → Bool
  | .frz _ d => okD d
  | .lst ts => okTs ts
  | .tup ts => okTs ts
  | _ => false
def okTs : List T → Bool
  | [] => true
  | t :: ts => okT t && okTs ts
end
theorem okD_rep {c : Cn} {G G1 : Hp} (hi : ∀ a C dx fs, G a = some (.ins C dx fs) → G1 a = G a) {d : D} {v : V} (h : okD d = true) (r : Rep c G d v) : Rep c G1 d v := by
  cases d with
  | int _ => exact r
  | bl _ => exact r
  | str _ => exact r
  | non => exact r
  | ins k fs =>
    cases fs with
    | nil =>
      obtain ⟨a, dx, gs, e, h1, h2⟩ := r
      exact ⟨a, dx, gs, e, by rw [hi _ _ _ _ h1]; exact h1, h2⟩
    | cons _ _ => cases h
  | _ => cases h
mutual
theorem okT_tr {c : Cn} {G G1 H : Hp} (hi : ∀ a C dx fs, G a = some (.ins C dx fs) → G1 a = G a) (hn : ∀ a, G a = none → G1 a = none) : ∀ {t : T} {F : As} {v : V}, okT t = true → TR c G H t F v → TR c G1 H t F v
  | .frz _ _, F, v, h, ⟨r, ho⟩ => ⟨okD_rep hi h r, ho⟩
  | .lst ts, F, v, h, ⟨p, vs, F1, h1, h2, h3, h4, h5, h6⟩ => ⟨p, vs, F1, h1, h2, hn _ h3, h4, h5, okTs_tr hi hn h h6⟩
  | .tup ts, F, v, h, ⟨p, vs, F1, h1, h2, h3, h4, h5, h6⟩ => ⟨p, vs, F1, h1, h2, hn _ h3, h4, h5, okTs_tr hi hn h h6⟩
  | .dik _, _, _, h, _ => by cases h
  | .dit _, _, _, h, _ => by cases h
  | .ins _ _, _, _, h, _ => by cases h
theorem okTs_tr {c : Cn} {G G1 H : Hp} (hi : ∀ a C dx fs, G a = some (.ins C dx fs) → G1 a = G a) (hn : ∀ a, G a = none → G1 a = none) : ∀ {ts : List T} {F : As} {vs : List V}, okTs ts = true → TRs c G H ts F vs → TRs c G1 H ts F vs
  | [], _, _, _, h => h
  | t :: ts, F, vs, h, ⟨v, r, F1, F2, h1, h2, h3, h4, h5⟩ => ⟨v, r, F1, F2, h1, h2, h3, okT_tr hi hn (Bool.and_eq_true_iff.mp (show (okT t && okTs ts) = true from h)).1 h4, okTs_tr hi hn (Bool.and_eq_true_iff.mp (show (okT t && okTs ts) = true from h)).2 h5⟩
end
theorem okTs_I : ∀ ns : List Int, okTs (ns.map I) = true
  | [] => rfl
  | n :: ns => by show (true && okTs (ns.map I)) = true; rw [okTs_I ns]; rfl
theorem trs_I {c : Cn} {G H : Hp} {F : As} : ∀ ns : List Int, TRs c G H (ns.map I) F (ns.map V.int)
  | [] => rfl
  | n :: ns => ⟨.int n, ns.map V.int, noF, F, rfl, fun _ z => z.elim, fun a z => ⟨z, fun y => y.elim⟩, ⟨rfl, fun _ z => nomatch z⟩, trs_I ns⟩
abbrev Rc := Addr × List Int
/-- a list that was told, as it stands elsewhere too, and a copy -/
def tupOf (r : Rc) : T := .tup [.frz (some (.ref r.1)) (.lst (r.2.map D.int)), .lst (r.2.map I)]
def tupOwn (r : Rc) : T := .tup [.lst (r.2.map I), .lst (r.2.map I)]
theorem trs_thaw {c : Cn} {G G1 H : Hp} (hi : ∀ a C dx fs, G a = some (.ins C dx fs) → G1 a = G a) (hn : ∀ a, G a = none → G1 a = none) (le : Ex G H) : ∀ {rs : List Rc} {F : As} {vs : List V}, (rs.map (·.1)).Nodup → (∀ a, F a → G a = none) → (∀ r, r ∈ rs → G1 r.1 = none) →
    TRs c G H (rs.map tupOf) F vs → TRs c G1 H (rs.map tupOwn) (fun a => F a ∨ a ∈ rs.map (·.1)) vs
  | [], F, vs, _, _, _, h => h
  | r :: rs, F, vs, nd, hF, h1, ⟨v, vr, F1, F2, e, a1, a2, ⟨p, ws, F3, e2, b1, b2, b3, b4, b5⟩, a4⟩ => by
    obtain ⟨w, wr, X1, X2, e3, c1, c2, ⟨⟨q, us, e4, d1, d2⟩, ho⟩, c3⟩ := b5
    obtain ⟨w2, wr2, Y1, Y2, e5, y1, y2, y3, y4⟩ := c3
    have eq := ho _ rfl
    rw [e4] at eq
    cases eq
    have hus := reps_ints d2
    subst hus
    have ndc := List.nodup_cons.mp nd
    have hq : ∀ a, F a → a ≠ r.1 := fun a z y => by subst y; rw [hF _ z] at d1; cases d1
    refine ⟨v, vr, fun a => F1 a ∨ a = r.1, fun a => F2 a ∨ a ∈ rs.map (·.1), e, fun a z => ?_, fun a z => ?_, ⟨p, ws, fun a => (F3 a ∨ a = r.1), e2, .inl b1, hn _ b2, b3, fun a z => ?_, ⟨w, wr, fun a => a = r.1, fun a => F3 a, e3, fun a z => .inr z, fun a z => ⟨.inl z, hq a (a1 a (b4 a z).1)⟩, ⟨r.1, _, noF, e4, rfl, h1 r List.mem_cons_self, le _ _ d1, fun _ z => z.elim, trs_I _⟩, ?_⟩⟩, trs_thaw hi hn le ndc.2 (fun a z => hF a (a2 a z).1) (fun r' hr => h1 r' (List.mem_cons_of_mem _ hr)) a4⟩
    · rcases z with z | z
      · exact .inl (a1 a z)
      · exact .inr (by rw [List.map_cons, z]; exact List.mem_cons_self)
    · rcases z with z | z
      · exact ⟨.inl (a2 a z).1, fun y => by
          rcases y with y | y
          · exact (a2 a z).2 y
          · exact hq a (a2 a z).1 y⟩
      · refine ⟨.inr (by rw [List.map_cons]; exact List.mem_cons_of_mem _ z), fun y => ?_⟩
        rcases y with y | y
        · have g1 := hF a (a1 a y)
          obtain ⟨r', hr', e'⟩ := List.mem_map.mp z
          obtain ⟨us, hus⟩ := trs_tupOf_G a4 r' hr'
          rw [e', g1] at hus
          cases hus
        · subst y
          exact ndc.1 z
    · rcases z with z | z
      · exact ⟨.inl (b4 a z).1, (b4 a z).2⟩
      · exact ⟨.inr z, fun y => hq p (a1 p b1) (y ▸ z)⟩
    · exact ⟨w2, wr2, Y1, Y2, e5, fun a z => (c2 a (y1 a z)).1, fun a z => ⟨(c2 a (y2 a z).1).1, (y2 a z).2⟩, okT_tr hi hn (okTs_I _) y3, y4⟩
where
  trs_tupOf_G {c : Cn} {G H : Hp} : ∀ {rs : List Rc} {F : As} {vs : List V}, TRs c G H (rs.map tupOf) F vs → ∀ r, r ∈ rs → ∃ us, G r.1 = some (.lst us)
    | [], _, _, _, r, hr => by cases hr
    | r :: rs, F, vs, ⟨v, vr, F1, F2, e, a1, a2, ⟨p, ws, F3, e2, b1, b2, b3, b4, b5⟩, a4⟩, r', hr => by
      rcases List.mem_cons.mp hr with rfl | hr
      · obtain ⟨w, wr, X1, X2, e3, c1, c2, ⟨⟨q, us, e4, d1, d2⟩, ho⟩, c3⟩ := b5
        have eq := ho _ rfl
        rw [e4] at eq
        cases eq
        exact ⟨us, d1⟩
      · exact trs_tupOf_G a4 r' hr
theorem trs_G {c : Cn} {G H : Hp} : ∀ {rs : List Rc} {F : As} {vs : List V}, TRs c G H (rs.map tupOf) F vs → ∀ r, r ∈ rs → ∃ us, G r.1 = some (.lst us) := trs_thaw.trs_tupOf_G
section
variable {A : Amb} {G H G' H' : Hp} {σ : L2.St} {env env1 : Env} {P P' : Nat → As} {s : TS} {te : TE} {Post : T → Env → Prop} {nx bk ct : Env → Prop} {rt : T → Env → Prop}
theorem ws_thaw {n : Nat} {rs : List Rc} (he : env[n]? = some (some (.lst (rs.map tupOf)))) (nd : (rs.map (·.1)).Nodup) (hA : ∀ r, r ∈ rs → A.G r.1 = none ∧ (A.U r.1 ∨ A.H r.1 = none)) (hl : env1.length = env.length)
    (h1 : env1[n]? = some (some (.lst (rs.map tupOwn)))) (hk : ∀ m t, env1[m]? = some (some t) → m = n ∨ (env[m]? = some (some t) ∧ okT t = true))
    (q : WS A s env1 (fun _ => False) rt (fun _ => False) (fun _ => False)) : WS A s env nx rt bk ct := fun G H σ P sr D _ hr _ _ => by
  let G1 : Hp := fun a => match G a with
    | some (.ins C dx fs) => some (.ins C dx fs)
    | _ => A.G a
  have hi : ∀ a C dx fs, G a = some (.ins C dx fs) → G1 a = G a := fun a C dx fs e => by
    show (match G a with | some (.ins C dx fs) => some (.ins C dx fs) | _ => A.G a) = G a
    rw [e]
  have hn : ∀ a, G a = none → G1 a = none := fun a e => by
    show (match G a with | some (.ins C dx fs) => some (.ins C dx fs) | _ => A.G a) = none
    rw [e]
    cases q2 : A.G a with
    | none => rfl
    | some o => rw [sr.base.g _ _ q2] at e; cases e
  have hle : ∀ a o, G1 a = some o → G a = some o := fun a o e => by
    have e' : (match G a with | some (.ins C dx fs) => some (.ins C dx fs) | _ => A.G a) = some o := e
    split at e'
    · rename_i q2; rw [q2]; exact e'
    · exact sr.base.g _ _ e'
  have hAG : Ex A.G G1 := fun a o e => by
    show (match G a with | some (.ins C dx fs) => some (.ins C dx fs) | _ => A.G a) = some o
    have e2 := sr.base.g _ _ e
    split
    · rename_i q2; rw [← q2]; exact e2
    · exact e
  obtain ⟨v, hv, p, vs, F1, ev, p1, p2, p3, p4, p5⟩ := sr.slot n _ he
  have hG : ∀ r, r ∈ rs → ∃ us, G r.1 = some (.lst us) := trs_G p5
  have hG1 : ∀ r, r ∈ rs → G1 r.1 = none := fun r hr => by
    obtain ⟨us, e⟩ := hG r hr
    show (match G r.1 with | some (.ins C dx fs) => some (.ins C dx fs) | _ => A.G r.1) = none
    rw [e]
    exact (hA r hr).1
  have inR : ∀ a, a ∈ rs.map (·.1) → ∃ r, r ∈ rs ∧ r.1 = a := fun a h => List.mem_map.mp h
  have notP : ∀ m a, P m a → a ∈ rs.map (·.1) → False := fun m a z h => by
    obtain ⟨r, hr, rfl⟩ := inR a h
    obtain ⟨us, e⟩ := hG r hr
    rw [(sr.own m _ z).1] at e
    cases e
  have tr5 := trs_thaw hi hn sr.le nd (fun a z => (sr.own n a (p4 a z).1).1) hG1 p5
  let P1 : Nat → As := fun m a => P m a ∨ (m = n ∧ a ∈ rs.map (·.1))
  have s1 : SR A G1 H σ env1 P1 := ⟨⟨by rw [hl]; exact sr.len, fun a o e => sr.le _ _ (hle a o e), fun m t e => by
    by_cases em : m = n
    · subst em
      rw [h1] at e
      cases e
      refine ⟨v, hv, p, vs, fun a => F1 a ∨ a ∈ rs.map (·.1), ev, .inl p1, hn _ p2, p3, fun a z => ?_, tr5⟩
      rcases z with z | z
      · exact ⟨.inl (p4 a z).1, (p4 a z).2⟩
      · exact ⟨.inr ⟨rfl, z⟩, fun y => notP m p p1 (y ▸ z)⟩
    · rcases hk m t e with z | ⟨e2, ok⟩
      · exact absurd z em
      · obtain ⟨w, hw, tw⟩ := sr.slot m t e2
        exact ⟨w, hw, (okT_tr hi hn ok tw).mono (Ex.refl _) (fun a z => .inl z) (fun _ _ _ e => e) fun a z => hn _ (sr.own m a z).1⟩, fun i j a x y => by
    rcases x with x | x
    · rcases y with y | y
      · exact sr.dis i j a x y
      · exact (notP i a x y.2).elim
    · rcases y with y | y
      · exact (notP j a y x.2).elim
      · rw [x.1, y.1], fun i a x => by
    rcases x with x | x
    · exact ⟨hn _ (sr.own i a x).1, (sr.own i a x).2⟩
    · obtain ⟨r, hr, rfl⟩ := inR a x.2
      obtain ⟨us, e⟩ := hG r hr
      exact ⟨hG1 r hr, by rw [sr.le _ _ e]; exact Option.some_ne_none _⟩⟩, ⟨hAG, sr.base.h, fun a ⟨m, x⟩ => by
    rcases x with x | x
    · exact sr.base.n a ⟨m, x⟩
    · obtain ⟨r, hr, rfl⟩ := inR a x.2
      exact (hA r hr).2, fun a x => by
    cases q2 : G1 a with
    | none => exact absurd q2 x
    | some o => exact sr.base.m a (by rw [hle _ _ q2]; exact Option.some_ne_none _)⟩, sr.kp⟩
  exact q G1 H σ P1 s1 D (fun _ _ _ _ _ z => z.elim) hr (fun _ _ _ _ _ z => z.elim) (fun _ _ _ _ _ z => z.elim)
/-- a fixed thing by its name -/
theorem SR.name (s : SR A G H σ env P) {i : Nat} {o : Option V} {d : D} {v : V} (h : env[i]? = some (some (.frz o d))) (hv : σ[i]? = some (some v)) : SR A G H σ (env.set i (some (.frz (some v) d))) P := ⟨⟨by rw [List.length_set]; exact s.len, s.le, fun j u e => by
  by_cases ne : j = i
  · subst ne
    rw [List.getElem?_set_self (List.getElem?_eq_some_iff.mp h).1] at e
    cases e
    obtain ⟨w, hw, tw⟩ := s.slot j _ h
    rw [hv] at hw
    cases hw
    exact ⟨v, hv, tw.1, fun u e => by cases e; rfl⟩
  · rw [List.getElem?_set_ne (Ne.symm ne)] at e
    exact s.slot j u e, s.dis, s.own⟩, s.base, s.kp⟩
theorem ws_fixV {i : Nat} {xs : List Int} (h : env[i]? = some (some (.lst (xs.map I))))
    (q : ∀ p, A.G p = none → (A.U p ∨ A.H p = none) → (∀ (j : Nat) (q : Addr) (ds : List D), env[j]? = some (some (T.frz (some (V.ref q)) (D.lst ds))) → q ≠ p) → (∀ (n : Nat) (rs : List Rc), env[n]? = some (some (T.lst (rs.map tupOf))) → ∀ r, r ∈ rs → r.1 ≠ p) → WS A s (env.set i (some (.frz (some (.ref p)) (.lst (xs.map D.int))))) nx rt bk ct) : WS A s env nx rt bk ct := fun G H σ P sr DD n rt bk ct => by
  obtain ⟨v0, hv0, p, vs, F1, ev, p1, p2, p3, p4, p5⟩ := sr.slot i _ h
  obtain ⟨v, hv, rp, s', st⟩ := sr.fix i h
  rw [hv0] at hv
  cases hv
  subst ev
  have hlt := (List.getElem?_eq_some_iff.mp h).1
  have s2 := s'.name (i := i) (o := none) (d := (T.lst (xs.map I)).data) (v := .ref p) (by rw [List.getElem?_set_self hlt]) hv0
  rw [List.set_set] at s2
  have ed : (T.lst (xs.map I)).data = .lst (xs.map D.int) := congrArg D.lst (datas_I xs)
  rw [ed] at s2
  refine q p ?_ (sr.base.n p ⟨i, p1⟩) (fun j q ds e ne => ?_) (fun m rs e r hr ne => ?_) _ _ _ _ s2 DD (fun e G' H' σ' P' p s2 x => n e G' H' σ' P' p s2 (st.g.trans x)) rt (fun e G' H' σ' P' p s2 x => bk e G' H' σ' P' p s2 (st.g.trans x)) (fun e G' H' σ' P' p s2 x => ct e G' H' σ' P' p s2 (st.g.trans x))
  · cases q2 : A.G p with
    | none => rfl
    | some o => rw [sr.base.g _ _ q2] at p2; cases p2
  · subst ne
    obtain ⟨w, hw, ⟨a, us, e1, e2, e3⟩, ho⟩ := sr.slot j _ e
    have := ho _ rfl
    rw [e1] at this
    cases this
    rw [p2] at e2
    cases e2
  · obtain ⟨w, hw, p', vs', F', e1, e2, e3, e4, e5, e6⟩ := sr.slot m _ e
    obtain ⟨us, hus⟩ := trs_G e6 r hr
    rw [ne, p2] at hus
    cases hus
theorem ws_alias {n m : Nat} {v : V} {d : D} (hn : env[n]? = some (some (.frz none (.oth v)))) (hm : env[m]? = some (some (.frz (some v) d))) (q : WS A s (env.set n (some (.frz (some v) d))) nx rt bk ct) : WS A s env nx rt bk ct := fun G H σ P sr D nx rt bk ct => by
  obtain ⟨w, hw, tw, _⟩ := sr.slot n _ hn
  have e : w = v := tw
  subst e
  obtain ⟨w2, hw2, tw2, ho⟩ := sr.slot m _ hm
  have e2 := ho _ rfl
  subst e2
  have s1 : SR A G H σ (env.set n (some (.frz (some w2) d))) P := ⟨⟨by rw [List.length_set]; exact sr.len, sr.le, fun j u e => by
    by_cases ne : j = n
    · subst ne
      rw [List.getElem?_set_self (List.getElem?_eq_some_iff.mp hn).1] at e
      cases e
      exact ⟨_, hw, tw2, fun u e => by cases e; rfl⟩
    · rw [List.getElem?_set_ne (Ne.symm ne)] at e
      exact sr.slot j u e, sr.dis, sr.own⟩, sr.base, sr.kp⟩
  exact q _ _ _ _ s1 D nx rt bk ct
theorem we_varO {n : Nat} {v : V} {d : D} (he : env[n]? = some (some (.frz (some v) d))) (q : Post (.frz none (.oth v)) env) : WE A (tVar n) env Post := fun G H σ P s Q k => by
  obtain ⟨w, hw, tr, ho⟩ := s.slot n _ he
  exact ⟨w, hw, k _ _ _ _ _ _ _ q (.frz s (ho _ rfl) fun _ z => nomatch z)⟩
end
end TL
/-! TF7: drawing while one goes through a list. -/
namespace TL
open PySem PySem.Spec PyProof.Rows L2
theorem lc_boxL {A : Amb} {g : TG} {te : TE} {R : List T → Env → Prop} {ws : List Nat} {n : Nat} {it : Nat → D} {e0 : Env} (hn : n ≤ 100000) (b m k : Nat) (lo hi : Int) (h0 : ∃ t, (wipeE e0 ws)[b]? = some (some t) ∧ Box m t)
    (hs : ∀ (i : Nat) t, i < n → Box (m + k * i) t → WG A (fun j => j ∈ ws) g (.frz none (it i)) ((wipeE e0 ws).set b (some t)) fun e1 => WE A te e1 fun t' e3 => ∃ x t2, t' = I x ∧ (lo ≤ x ∧ x ≤ hi) ∧ Box (m + k * (i + 1)) t2 ∧ wipeE e3 ws = (wipeE e0 ws).set b (some t2))
    (q : ∀ (ns : List Int) t2, ns.length = n → (∀ n, n ∈ ns → lo ≤ n ∧ n ≤ hi) → Box (m + k * n) t2 → R (ns.map I) ((wipeE e0 ws).set b (some t2))) : n ≤ 100000 ∧ ∃ Iv : Nat → List T → Env → Prop, Iv 0 [] (wipeE e0 ws) ∧
      (∀ (i : Nat) acc e, i < n → acc.length ≤ i → Iv i acc e → WG A (fun j => j ∈ ws) g (.frz none (it i)) e fun e1 => WT A tYes e1 fun b e2 => (b = true → WE A te e2 fun t e3 => Iv (i + 1) (acc ++ [t]) (wipeE e3 ws)) ∧ (b = false → Iv (i + 1) acc (wipeE e2 ws))) ∧
      ∀ acc e, acc.length ≤ n → Iv n acc e → R acc e := by
  obtain ⟨t, h1, h2⟩ := h0
  refine ⟨hn, fun i acc e => (∃ ns : List Int, acc = ns.map I ∧ ns.length = i ∧ ∀ n, n ∈ ns → lo ≤ n ∧ n ≤ hi) ∧ ∃ t, Box (m + k * i) t ∧ e = (wipeE e0 ws).set b (some t), ⟨⟨[], rfl, rfl, fun _ z => by cases z⟩, t, h2, (set_same h1).symm⟩, ?_, ?_⟩
  · rintro i acc e hi hl ⟨⟨ns, rfl, hn, hb⟩, t2, hbox, rfl⟩
    refine fun G H σ P v X s m Q k => hs i t2 hi hbox G H σ P v X s m Q fun e' G' H' σ' P' q' s' st l w => k e' G' H' σ' P' (wt_yes ⟨fun _ => ?_, fun z => nomatch z⟩) s' st l w
    refine we_imp q' fun t' e3 ⟨x, t3, e1, hx, hb3, e4⟩ => ⟨⟨ns ++ [x], by rw [e1, List.map_append]; rfl, by simp [hn], fun n hm => ?_⟩, t3, hb3, e4⟩
    rcases List.mem_append.mp hm with hm | hm
    · exact hb n hm
    · rcases List.mem_singleton.mp hm with rfl
      exact hx
  · rintro acc e hl ⟨⟨ns, rfl, hn, hb⟩, t2, hbox, rfl⟩
    exact q ns t2 hn hb hbox
section
variable {A : Amb} {env : Env} {Post : T → Env → Prop}
theorem reps_I {c : Cn} {G : Hp} : ∀ ns : List Int, Reps c G (ns.map D.int) (ns.map V.int)
  | [] => rfl
  | n :: ns => ⟨.int n, _, rfl, rfl, reps_I ns⟩
/-- xs[lo:hi] of one's own numbers -/
theorem we_slO {n : Nat} {tl th : TO} (hn : ∃ t, env[n]? = some (some t)) (h : WP A tl env fun lo e => WP A th e fun hi e => ∃ ns : List Int, e[n]? = some (some (.lst (ns.map I))) ∧ Post (.lst ((cutL ns lo hi).map I)) e) : WE A (tSl (rSlA A.c.K) (tVar n) tl th) env Post := fun G H σ P s Q k => by
  obtain ⟨t, ht⟩ := hn
  obtain ⟨v, hv, _⟩ := s.slot n t ht
  refine ⟨v, hv, ?_⟩
  refine h G H σ P s _ fun lo e2 G2 H2 P2 p2 s2 st2 => p2 G2 H2 σ P2 s2 _ fun hi e3 G3 H3 P3 p3 s3 st3 => ?_
  obtain ⟨ns, he, p3⟩ := p3
  obtain ⟨w, hw, tw⟩ := s3.slot n _ he
  rw [hv] at hw
  cases hw
  have rp := tw.view s3.le
  rw [show (T.lst (ns.map I)).data = .lst (ns.map D.int) from congrArg D.lst (datas_I ns)] at rp
  obtain ⟨p, ws, rfl, hp, rr⟩ := rp
  have e1 := reps_ints rr
  subst e1
  refine .inl ⟨p, _, rfl, SqL.of hp, fun l hl => ?_⟩
  have ec : cutV (ns.map V.int) lo hi = (cutL ns lo hi).map V.int := by
    unfold cutV cutL
    rw [List.length_map, List.map_take, List.map_drop]
  rw [ec]
  have r := alloc_frzs (vs := (cutL ns lo hi).map V.int) s3 (reps_I (cutL ns lo hi)) (U0 := uP P3) (fun _ z => z) hl
  rw [List.map_map] at r
  exact k _ _ _ _ _ _ _ p3 ⟨r.sr, (st2.trans st3).trans r.st, r.tm⟩
theorem wr_ix_slotE {n : Nat} {o2 : Option V} {ts : List T} {i : Int} {d : D} (he : env[n]? = some (some (.lst ts))) (ha : ∀ t, t ∈ ts → t = F d) (h0 : 0 ≤ i) (h1 : i < ts.length) (q : Post (F d) env) : WR A (rIxA A.c.K) (.s n) (.t (.frz o2 (.int i))) env Post := by
  obtain ⟨j, _, hj, e⟩ := atI_nat (xs := ts) h0 h1
  refine wr_ix_slot (ov := none) (d := d) he ?_ q
  rw [e]
  exact congrArg some (ha _ (List.getElem_mem hj))
end
end TL
/-! TF8: what stands deep within one's own. -/
namespace TL
open PySem PySem.Spec PyProof.Rows L2
section
variable {A : Amb} {G H G' H' : Hp} {σ : L2.St} {env : Env} {P P' : Nat → As} {X : As} {te ti : TE} {Post : T → Env → Prop}
/-- one of them may change within its own cells -/
theorem trs_hole {c : Cn} : ∀ {ts : List T} {F : As} {vs : List V} {j : Nat} {t : T}, TRs c G H ts F vs → ts[j]? = some t → (∀ a, F a → G a = none) → ∃ v Ft, vs[j]? = some v ∧ (∀ a, Ft a → F a) ∧ TR c G H t Ft v ∧
    ∀ H2 t', (∀ a o, ¬ Ft a → H a = some o → H2 a = some o) → TR c G H2 t' Ft v → TRs c G H2 (ts.set j t') F vs
  | t0 :: ts, F, vs, 0, t, ⟨v, r, F1, F2, e, h1, h2, h3, h4⟩, hj, g => by
    cases hj
    subst e
    exact ⟨v, F1, rfl, h1, h3, fun H2 t' keep tr => ⟨v, r, F1, F2, rfl, h1, h2, tr, h4.mono (Ex.refl _) (fun _ z => z) (fun a o z e => keep a o (h2 a z).2 e) fun a z => g a (h2 a z).1⟩⟩
  | t0 :: ts, F, vs, j + 1, t, ⟨v, r, F1, F2, e, h1, h2, h3, h4⟩, hj, g => by
    subst e
    obtain ⟨w, Ft, e1, e2, e3, mk⟩ := trs_hole (j := j) h4 hj fun a z => g a (h2 a z).1
    exact ⟨w, Ft, e1, fun a z => (h2 a (e2 a z)).1, e3, fun H2 t' keep tr => ⟨v, r, F1, F2, rfl, h1, h2, h3.mono (Ex.refl _) (fun _ z => z) (fun a o z e => keep a o (fun y => (h2 a (e2 a y)).2 z) e) fun a z => g a (h1 a z), mk H2 t' keep tr⟩⟩
theorem we_clear2 {n : Nat} (hn : ∃ t, env[n]? = some (some t)) (h : WE A ti env fun t e => ∃ o i, t = .frz o (.int i) ∧ ∃ ts j us xs, e[n]? = some (some (.lst ts)) ∧ i = ((j : Nat) : Int) ∧ ts[j]? = some (.tup us) ∧ us[0]? = some (.lst xs) ∧ Post N_ (e.set n (some (.lst (ts.set j (.tup (us.set 0 (.lst [])))))))) :
    WE A (tBM0 A.c.K "list" rClear (tOp (rIxA A.c.K) (tOp (rIxA A.c.K) (tVar n) ti) (tC (.int 0)))) env Post := fun G H σ P s Q k => by
  obtain ⟨t0, ht0⟩ := hn
  obtain ⟨v, hv, _⟩ := s.slot n t0 ht0
  refine ⟨v, hv, h G H σ P s _ fun t e v2 G1 H1 P1 F1 p1 r1 => ?_⟩
  obtain ⟨o, i, rfl, ts, j, us, xs, he, rfl, hj, h0, hp⟩ := p1
  have hv2 : v2 = .int ((j : Nat) : Int) := r1.tm.tr.1
  subst hv2
  obtain ⟨w, hw, p, vs, F2, e1, a1, a2, a3, a4, a5⟩ := r1.sr.slot n _ he
  rw [hv] at hw
  cases hw
  subst e1
  have own : ∀ a, P1 n a → G1 a = none := fun a z => (r1.sr.own n a z).1
  obtain ⟨w, Ft, b1, b2, ⟨q, ws, F3, e2, c1, c2, c3, c4, c5⟩, mk⟩ := trs_hole a5 hj fun a z => own a (a4 a z).1
  subst e2
  obtain ⟨w2, Fl, d1, d2, ⟨r, zs, F4, e3, f1, f2, f3, f4, f5⟩, mk2⟩ := trs_hole c5 h0 fun a z => own a (a4 a (b2 a (c4 a z).1)).1
  subst e3
  have rq : r ≠ q := (c4 r (d2 r f1)).2
  have rp : r ≠ p := (a4 r (b2 r (c4 r (d2 r f1)).1)).2
  have hr : P1 n r := (a4 r (b2 r (c4 r (d2 r f1)).1)).1
  have keep : ∀ a o, a ≠ r → H1 a = some o → upd H1 r (.lst []) a = some o := fun a o ne e => by rw [upd_ne ne]; exact e
  have t1 : TRs A.c G1 (upd H1 r (.lst [])) (us.set 0 (.lst [])) F3 ws := mk2 _ _ (fun a o ne e => keep a o (fun z => ne (z ▸ f1)) e) ⟨r, [], noF, rfl, f1, f2, upd_same, fun _ z => z.elim, rfl⟩
  have t2 : TRs A.c G1 (upd H1 r (.lst [])) (ts.set j (.tup (us.set 0 (.lst [])))) F2 vs := mk _ _ (fun a o ne e => keep a o (fun z => ne (by subst z; exact (c4 _ (d2 _ f1)).1)) e) ⟨q, ws, F3, rfl, c1, c2, keep q _ (Ne.symm rq) c3, c4, t1⟩
  obtain ⟨s2, st2⟩ := r1.sr.modify (X := noF) (H' := upd H1 r (.lst [])) (t1 := .lst (ts.set j (.tup (us.set 0 (.lst []))))) he hv (fun _ z => z.elim) (fun _ z => z.elim)
    ⟨p, vs, F2, rfl, .inl a1, a2, keep p _ (Ne.symm rp) a3, fun a z => ⟨.inl (a4 a z).1, (a4 a z).2⟩, t2⟩ (fun a o ne e => keep a o (fun z => ne (z ▸ hr)) e) fun a z => by
      by_cases q' : a = r
      · subst q'; rw [upd_same]; exact Option.some_ne_none _
      · rw [upd_ne q']; exact (r1.sr.own n a z).2
  have fin : tyV A.c.K "list" (.ref r) H1 ∧ rClear (.ref r) [] H1 Q := ⟨.inl ⟨rfl, _, SqL.of f3⟩, r, zs, rfl, rfl, f3, k N_ _ .non _ _ _ noF hp ⟨s2, (r1.drop.trans (st2.wk (V := uP P1) (fun a z => by rcases z with z | z; exact z; exact z.elim) fun a z => z)).wk (fun _ z => z) (fun a z => by rcases z with z | z; exact .inl (.inl z); exact z.elim), .flat rfl fun _ z => nomatch z⟩⟩
  exact .inl (.inl ⟨p, vs, _, _, rfl, rfl, SqL.of a3, atI_nat' b1, .inl (.inr ⟨q, ws, _, _, rfl, rfl, SqT.of c3, atI_nat' (j := 0) d1, fin⟩)⟩)
end
end TL
/-! TG3: the first ones of a list take others' place. -/
namespace TL
open PySem PySem.Spec PyProof.Rows L2
section
variable {prog : Program} {w : World} {A : Around} {E : Value → Shared → Prop} {s : Shared}
theorem up_to {c n : Nat} (hc : c ≤ n) : sliceBounds none (some (c : Int)) none n = ((0 : Int), (c : Int), 1) := by
  have h : ¬ ((c : Int) < 0) := by omega
  simp only [sliceBounds, Option.getD_none, h, if_false, show (1 : Int) > 0 by decide, if_true]
  congr 2
  omega
/-- xs[:c] = ys, ys another list: what list.__setitem__ does -/
theorem setItem_upto {l b sl : Addr} {items new : Array Value} {n n2 : Nat} {vl vu : Value} {c : Nat} {Q : Unit → Shared → Prop} (e : s.heap.get? l = some { cls := .type "list", data := .seq items n }) (e2 : s.heap.get? b = some { cls := .type "list", data := .seq new n2 }) (hne : l ≠ b)
    (hs : s.heap.IsSliceOf sl vl vu .none) (pl : IsPart vl none) (pu : IsPart vu (some (c : Int))) (hc : c ≤ items.size) (hsz : items.size + new.size ≤ sizeLine) (h : Q () { s with heap := s.heap.update l (Obj.mapSeq fun xs => xs.extract 0 0 ++ new ++ xs.extract c xs.size) }) :
    wpAny (model prog w) A (setItem (.ref l) (.ref sl) (.ref b)) Q E s := by
  have L1 : s.heap.IsList l items := PySem.IsL.isList e
  have L2 : s.heap.IsList b new := PySem.IsL.isList e2
  obtain ⟨os, o1, o2, o3⟩ := id hs
  have T1 : s.TypeIs (.ref sl) "slice" := ⟨os, o1, o2⟩
  have st : ¬ ((rawPart none == rawInt 0) = true) := Bool.false_ne_true
  have dif : Builtin.List.listSameRef (.ref l) (.ref b) = false := by unfold Builtin.List.listSameRef; exact beq_eq_false_iff_ne.mpr hne
  have mx : (max (0 : Int) (c : Int)).toNat = c := by omega
  have sz2 : ((fun xs : Array Value => xs.extract 0 0 ++ new ++ xs.extract c xs.size) items).size ≤ sizeLine + 1 := by simp only [Array.size_append, Array.size_extract]; omega
  unfold setItem
  try with_reducible refine wpAny_holding ?_
  first | (refine wpAny_bind (wpAny_pure ?_)) | skip
  refine wpAny_bind (wpAny_sequenceKey L1.typeIs (by decide) (wpAny_bind (wpAny_callSpecial?_slot (name := Str.ofString "__setitem__") L1.typeIs slot_list_setitem (wpAny_call_entry slot_list_setitem L1.typeIs entry_list_setitem ?_ (args_list_setitem _ _ _)))))
  show wpAny _ _ (Builtin.List.listSubscript? (.ref sl) >>= _) _ _ s
  refine wpAny_bind ?_
  unfold Builtin.List.listSubscript?
  refine wpAny_bind (wpAny_specialOf T1 slice_no_index ?_)
  simp only [Option.isNone_none, if_true]
  refine wpAny_pure ?_
  show wpAny _ _ (typeOf (.ref sl) >>= _) _ _ s
  refine wpAny_bind (wpAny_typeOf T1 ?_)
  first | rw [if_neg (by decide)] | (refine PySem.W.KFB.if_not (by decide) ?_)
  rw [listSliceParts_eq]
  refine wpAny_bind (wpAny_bind (wpAny_field o1 o3 (x := .none) rfl (wpAny_bind (wpAny_listPart .none ?_))))
  rw [if_neg st]
  refine wpAny_bind (wpAny_field o1 o3 (x := vl) rfl (wpAny_bind (wpAny_listPart pl (wpAny_bind (wpAny_field o1 o3 (x := vu) rfl (wpAny_bind (wpAny_listPart pu (wpAny_pure ?_))))))))
  first | (simp only [dif, Bool.false_eq_true, if_false]) | (refine PySem.W.KFB.if_not dif ?_) | (dsimp only; rw [if_neg (by rw [dif]; exact Bool.false_ne_true)])
  refine wpAny_bind (m := Builtin.List.listAllItems (.ref b) "must assign iterable to extended slice") ?_
  unfold Builtin.List.listAllItems
  refine wpAny_bind (wpAny_typeOf L2.typeIs ?_)
  first | (refine PySem.W.KFB.if_so (by decide) ?_) | rw [if_pos (by decide)] | (simp only [beq_self_eq_true, Bool.true_or, if_true])
  unfold Builtin.List.listItems
  refine wpAny_bind (wpAny_seqItems e2 rfl (wpAny_pure (wpAny_bind (wpAny_bind (wpAny_seqItems e rfl (wpAny_pure ?_))))))
  refine wpAny_bind (wpAny_of_eq ((sliceIndices_raw none (some (c : Int)) none items.size (by simp)).trans (congrArg (pure : Int × Int × Int → Sem (Int × Int × Int)) (up_to hc))) ?_)
  show wpAny _ _ (if ((1 : Int) == 1) = true then _ else _) _ _ s
  rw [if_pos (by decide)]
  refine wpAny_bind (wpAny_rule ?_)
  first | (simp only [notLongL hsz, Bool.false_eq_true, if_false]) | (refine PySem.W.KFB.if_not (notLongL hsz) ?_)
  first | (refine wpAny_bind (wpAny_pure ?_)) | skip
  show wpAny _ _ (updateSeq l (fun xs => xs.extract 0 ((0 : Int)).toNat ++ new ++ xs.extract (max (0 : Int) (c : Int)).toNat xs.size) >>= _) _ _ s
  rw [mx]
  refine wpAny_bind (wpAny_updateSeq (hz := Nat.le_trans (Nat.le_add_right _ _) hsz) (_hz' := sz2) e rfl (wpAny_bind (wpAny_letGo ?_)))
  first | exact wpAny_bind (wpAny_pure (wpAny_pure ⟨.none, rfl, wpAny_pure h⟩)) | exact wpAny_pure ⟨.none, rfl, wpAny_pure h⟩
end
section
variable {X : Cx}
theorem set_upto {pins : List (Addr × Obj)} {s : Shared} {σ : L2.St} {H : Hp} {l b sl : Addr} {xs ys : List V} {c : Nat} {vl vu : Value} {Q : Unit → Shared → Prop} (I : Inv X pins σ H s) (hH : H l = some (.lst xs)) (hB : H b = some (.lst ys)) (hne : l ≠ b)
    (hs : s.heap.IsSliceOf sl vl vu .none) (pl : IsPart vl none) (pu : IsPart vu (some (c : Int))) (hc : c ≤ xs.length) (hz : xs.length + ys.length ≤ sizeLine) (h : ∀ s', Inv X pins σ (upd H l (.lst (ys ++ xs.drop c))) s' → Q () s') :
    wpAny (model X.prog X.w) X.A (setItem (.ref l) (.ref sl) (.ref b)) Q X.xe s := by
  obtain ⟨z, its, n, r, hl, e⟩ := I.lstM hH
  obtain ⟨z2, its2, n2, r2, hl2, e2⟩ := I.lstM hB
  refine setItem_upto (c := c) e e2 hne hs pl pu (by rw [List.size_toArray]; omega) (by rw [List.size_toArray, List.size_toArray]; omega) (h _ ?_)
  refine I.lset (its' := its2 ++ its.drop c) (t' := s.toks) hH e ?_ (Vals.append r2 (r.drop _)) ?_
  · have := splice_eq its its2 0 c
    rw [List.take_zero, List.nil_append] at this
    exact this
  · rw [List.length_append, List.length_drop]; omega
/-- e[:h] = v, v a list -/
def gUpto (to : TE) (th : TO) : TG := fun v σ H Q => to σ H fun x H1 => th σ H1 fun u H2 => ∃ a b xs ys, ∃ c : Nat, x = .ref a ∧ v = .ref b ∧ u = some (c : Int) ∧ a ≠ b ∧ H2 a = some (.lst xs) ∧ H2 b = some (.lst ys) ∧ c ≤ xs.length ∧ xs.length + ys.length ≤ sizeLine ∧ Q σ (upd H2 a (.lst (ys ++ xs.drop c)))
theorem pg_upto {o : Expr} {hi : Option Expr} {to : TE} {th : TO} {p2 pos : Pos} (ho : PE X o to) (hh : PO X hi th)
    (ha : ∀ v, assign (.Subscript o (.Slice none hi none p2) pos) X.env v = (do
      let ov ← holding [v] (eval o X.env)
      let iv ← holding [v, ov] (eval (.Slice none hi none p2) X.env)
      standAt pos
      holding [v, ov, iv] (setItem ov iv v)
      release [iv, v, ov] []) := by intro _; rfl) : PG X (.Subscript o (.Slice none hi none p2) pos) (gUpto to th) := by
  refine ⟨fun pins s σ H v u Q I r h => ?_⟩
  rw [ha]
  refine wpAny_bind (wpAny_holding (thn (ho.run pins s σ H _ I h) fun ov s1 ⟨x, H1, I1, r1, q1⟩ => wpAny_bind (wpAny_holding ?_)))
  refine wpAny_Slice ?_
  rw [evalPart_none]
  refine wpAny_pure (thn (hh.run pins s1 σ H1 _ I1 q1) fun vu s2 ⟨w, H2, I2, pu, q2⟩ => ?_)
  refine wpAny_pure ?_
  obtain ⟨a, b, xs, ys, c, rfl, rfl, rfl, ne, e1, e2, hc, hz, q⟩ := q2
  cases r1
  cases r
  have I3 : Inv X pins σ H2 { s2 with heap := s2.heap.push { cls := .type "slice", data := .fields #[.none, vu, .none] } } := I2.kept (t' := s2.toks) fun _ _ q => Heap.get?_push_of_some _ q
  refine wpAny_bind (wpAny_standAt (wpAny_bind (wpAny_holding (set_upto I3 e1 e2 ne (Heap.IsSliceOf.new ..) .none pu hc hz fun s' I4 => ?_))))
  exact wpAny_release ⟨σ, _, I4, q⟩
end
end TL
/-! TG4: rows of numbers, changed in their places. -/
namespace TL
open PySem PySem.Spec PyProof.Rows L2
theorem trs_ints {c : Cn} {G H : Hp} : ∀ {ns : List Int} {F : As} {vs : List V}, TRs c G H (ns.map I) F vs → vs = ns.map V.int
  | [], _, _, h => h
  | n :: ns, F, vs, ⟨v, r, F1, F2, e, _, _, ⟨h, _⟩, h2⟩ => by rw [e, trs_ints h2, show v = .int n from h]; rfl
section
variable {A : Amb} {G H : Hp} {σ : L2.St} {env : Env} {P : Nat → As}
/-- the j-th list of numbers of what a name holds -/
theorem slot_row (s : SR A G H σ env P) {n j : Nat} {ts : List T} {ns : List Int} (he : env[n]? = some (some (.lst ts))) (hj : ts[j]? = some (.lst (ns.map I))) :
    ∃ p vs q, σ[n]? = some (some (.ref p)) ∧ H p = some (.lst vs) ∧ vs[j]? = some (.ref q) ∧ H q = some (.lst (ns.map V.int)) ∧ P n q ∧ ∀ ms : List Int, SR A G (upd H q (.lst (ms.map V.int))) σ (env.set n (some (.lst (ts.set j (.lst (ms.map I)))))) P ∧ Stp G H (uP P) G (upd H q (.lst (ms.map V.int))) (uP P) := by
  obtain ⟨v, hv, p, vs, F2, rfl, a1, a2, a3, a4, a5⟩ := s.slot n _ he
  have own : ∀ a, P n a → G a = none := fun a z => (s.own n a z).1
  obtain ⟨w, Ft, b1, b2, ⟨q, ws, F3, rfl, c1, c2, c3, c4, c5⟩, mk⟩ := trs_hole a5 hj fun a z => own a (a4 a z).1
  have ew := trs_ints c5
  subst ew
  have qp : q ≠ p := (a4 q (b2 q c1)).2
  have hq : P n q := (a4 q (b2 q c1)).1
  refine ⟨p, vs, q, hv, a3, b1, c3, hq, fun ms => ?_⟩
  have keep : ∀ a o, a ≠ q → H a = some o → upd H q (.lst (ms.map V.int)) a = some o := fun a o ne e => by rw [upd_ne ne]; exact e
  have t2 := mk (upd H q (.lst (ms.map V.int))) (.lst (ms.map I)) (fun a o ne e => keep a o (fun z => ne (z ▸ c1)) e) ⟨q, _, noF, rfl, c1, c2, upd_same, fun _ z => z.elim, trs_I _⟩
  obtain ⟨s2, st2⟩ := s.modify (X := noF) (H' := upd H q (.lst (ms.map V.int))) (t1 := .lst (ts.set j (.lst (ms.map I)))) he hv (fun _ z => z.elim) (fun _ z => z.elim)
    ⟨p, vs, F2, rfl, .inl a1, a2, keep p _ (Ne.symm qp) a3, fun a z => ⟨.inl (a4 a z).1, (a4 a z).2⟩, t2⟩ (fun a o ne e => keep a o (fun z => ne (z ▸ hq)) e) fun a z => by
      by_cases q' : a = q
      · subst q'; rw [upd_same]; exact Option.some_ne_none _
      · rw [upd_ne q']; exact (s.own n a z).2
  have eP : (fun j a => P j a ∨ (j = n ∧ noF a)) = P := funext fun j => funext fun a => propext ⟨fun z => z.elim id fun z => z.2.elim, .inl⟩
  rw [eP] at s2 st2
  exact ⟨s2, st2.wk (fun a z => by rcases z with z | z; exact z; exact z.elim) fun a z => .inl z⟩
/-- rows[y][x] = v -/
theorem wg_sub2 {W : Nat → Prop} {n ny nx y x : Nat} {v : Int} {ts : List T} {ns : List Int} {oy ox : Option V} {Post : Env → Prop} (he : env[n]? = some (some (.lst ts))) (hy : env[ny]? = some (some (.frz oy (.int (y : Int))))) (hx : env[nx]? = some (some (.frz ox (.int (x : Int))))) (hj : ts[y]? = some (.lst (ns.map I))) (hl : x < ns.length)
    (q : Post (env.set n (some (.lst (ts.set y (.lst ((ns.set x v).map I))))))) : WG A W (gSub (tOp (rIxA A.c.K) (tVar n) (tVar ny)) (tVar nx) rSetL) (I v) env Post := fun G H σ P v0 X s m Q k => by
  have hv0 : v0 = .int v := m.tr.1
  subst hv0
  obtain ⟨p, vs, r, hσ, hp, hv, hr, hP, mk⟩ := slot_row s he hj
  obtain ⟨vy, hvy, ty, _⟩ := s.slot ny _ hy
  have ey : vy = .int (y : Int) := ty
  subst ey
  obtain ⟨vx, hvx, tx, _⟩ := s.slot nx _ hx
  have ex : vx = .int (x : Int) := tx
  subst ex
  obtain ⟨s2, st2⟩ := mk (ns.set x v)
  refine ⟨_, hσ, _, hvy, .inl (.inl ⟨p, vs, _, _, rfl, rfl, SqL.of hp, atI_nat' hv, _, hvx, r, _, (x : Int), x, rfl, rfl, hr, by rw [List.length_map]; exact ixN_ok (by omega) (by omega), ?_⟩)⟩
  rw [List.map_set] at s2 st2
  rw [show (ns.map V.int).set x (.int v) = (ns.set x v).map V.int from List.map_set.symm]
  rw [← List.map_set] at s2 st2
  exact k _ _ _ σ _ q s2 (st2.wk (V := fun a => uP P a ∨ X a) (fun a z => .inl z) fun a z => .inl z) rfl fun _ _ => rfl
/-- rows[y][:c[i]] = a list made on the way -/
theorem wg_upto2 {W : Nat → Prop} {n ny m y c i : Nat} {ms ns : List Int} {ts : List T} {ds : List D} {oy om : Option V} {Post : Env → Prop} (he : env[n]? = some (some (.lst ts))) (hy : env[ny]? = some (some (.frz oy (.int (y : Int))))) (hm : env[m]? = some (some (.frz om (.tup ds)))) (hi : ds[i]? = some (.int (c : Int)))
    (hj : ts[y]? = some (.lst (ns.map I))) (hc : c ≤ ns.length) (hz : ns.length + ms.length ≤ 1000000) (q : Post (env.set n (some (.lst (ts.set y (.lst ((ms ++ ns.drop c).map I))))))) :
    WG A W (gUpto (tOp (rIxA A.c.K) (tVar n) (tVar ny)) (tPart (tOp (rIxA A.c.K) (tVar m) (tC (.int (i : Int)))))) (.lst (ms.map I)) env Post := fun G H σ P v0 X s mm Q k => by
  obtain ⟨b, zs, F1, rfl, x1, x2, x3, x4, x5⟩ := mm.tr
  have ez := trs_ints x5
  subst ez
  obtain ⟨p, vs, r, hσ, hp, hv, hr, hP, mk⟩ := slot_row s he hj
  obtain ⟨vy, hvy, ty, _⟩ := s.slot ny _ hy
  have ey : vy = .int (y : Int) := ty
  subst ey
  obtain ⟨vm, hvm, ⟨pm, us, rfl, hpm, rps⟩, _⟩ := s.slot m _ hm
  have hus : us[i]? = some (.int (c : Int)) := by
    obtain ⟨w, hw, rw_⟩ := reps_at rps hi
    rw [hw, show w = .int (c : Int) from rw_]
  have rb : r ≠ b := fun z => (mm.fd b x1).1 ⟨n, z ▸ hP⟩
  obtain ⟨s2, st2⟩ := mk (ms ++ ns.drop c)
  have em : (ms ++ ns.drop c).map V.int = ms.map V.int ++ (ns.map V.int).drop c := by rw [List.map_append, List.map_drop]
  rw [em] at s2 st2
  refine ⟨_, hσ, _, hvy, .inl (.inl ⟨p, vs, _, _, rfl, rfl, SqL.of hp, atI_nat' hv, _, hvm, .inl (.inr ⟨pm, us, _, _, rfl, rfl, SqT.of (s.le _ _ hpm), atI_nat' hus, _, rfl, r, b, _, _, c, rfl, rfl, rfl, rb, hr, x3, by rw [List.length_map]; exact hc, by rw [List.length_map, List.length_map, sizeLine_eq]; omega, ?_⟩)⟩)⟩
  exact k _ _ _ σ _ q s2 (st2.wk (V := fun a => uP P a ∨ X a) (fun a z => .inl z) fun a z => .inl z) rfl fun _ _ => rfl
end
end TL
/-! TG5: rows told by a function. -/
namespace TL
open PySem PySem.Spec PyProof.Rows L2
abbrev Gr := Nat → Nat → Int
def rowL (f : Gr) (w y : Nat) : List Int := (List.range w).map (f y)
def colL (f : Gr) (h x : Nat) : List Int := (List.range h).map fun y => f y x
abbrev gT (h w : Nat) (f : Gr) : T := .lst ((List.range h).map fun y => .lst ((rowL f w y).map I))
abbrev gD (h w : Nat) (f : Gr) : D := .lst ((List.range h).map fun y => .lst ((rowL f w y).map D.int))
theorem rowL_len {f : Gr} {w y : Nat} : (rowL f w y).length = w := by unfold rowL; rw [List.length_map, List.length_range]
theorem colL_len {f : Gr} {h x : Nat} : (colL f h x).length = h := by unfold colL; rw [List.length_map, List.length_range]
theorem rowL_gi {f : Gr} {w y x : Nat} (h : x < w) : gi (rowL f w y) x = f y x := gi_map h
theorem colL_gi {f : Gr} {h x y : Nat} (hy : y < h) : gi (colL f h x) y = f y x := gi_map (f := fun y => f y x) hy
theorem rowL_cg {f g : Gr} {w y : Nat} (h : ∀ x, x < w → f y x = g y x) : rowL f w y = rowL g w y := by
  unfold rowL
  exact List.map_congr_left fun x hx => h x (List.mem_range.mp hx)
theorem colL_cg {f g : Gr} {h x : Nat} (e : ∀ y, y < h → f y x = g y x) : colL f h x = colL g h x := by
  unfold colL
  exact List.map_congr_left fun y hy => e y (List.mem_range.mp hy)
theorem gT_data {h w : Nat} {f : Gr} : (gT h w f).data = gD h w f := by
  show D.lst (T.datas _) = D.lst _
  rw [datas_rg]
  congr 1
  refine List.map_congr_left fun y _ => ?_
  show D.lst (T.datas _) = D.lst _
  rw [datas_I]
theorem gD_cg {h w : Nat} {f g : Gr} (e : ∀ y x, y < h → x < w → f y x = g y x) : gD h w f = gD h w g := by
  show D.lst _ = D.lst _
  congr 1
  exact List.map_congr_left fun y hy => by rw [rowL_cg fun x hx => e y x (List.mem_range.mp hy) hx]
theorem gT_cg {h w : Nat} {f g : Gr} (e : ∀ y x, y < h → x < w → f y x = g y x) : gT h w f = gT h w g := by
  show T.lst _ = T.lst _
  congr 1
  exact List.map_congr_left fun y hy => by rw [rowL_cg fun x hx => e y x (List.mem_range.mp hy) hx]
theorem gT_set {h w y : Nat} {f g : Gr} {ms : List Int} (hy : y < h) (h1 : rowL g w y = ms) (h2 : ∀ y', y' ≠ y → y' < h → rowL g w y' = rowL f w y') :
    ((List.range h).map fun y => T.lst ((rowL f w y).map I)).set y (.lst (ms.map I)) = (List.range h).map fun y => T.lst ((rowL g w y).map I) := by
  refine List.ext_getElem? fun i => ?_
  rw [List.getElem?_map]
  by_cases hi : i < h
  · rw [List.getElem?_range hi, Option.map_some]
    by_cases e : i = y
    · subst e
      rw [List.getElem?_set_self (by rw [List.length_map, List.length_range]; exact hi), h1]
    · rw [List.getElem?_set_ne (Ne.symm e), List.getElem?_map, List.getElem?_range hi, Option.map_some, h2 i e hi]
  · rw [List.getElem?_eq_none (by rw [List.length_set, List.length_map, List.length_range]; omega), List.getElem?_eq_none (by rw [List.length_range]; omega)]
    rfl
theorem gT_at {h w y : Nat} {f : Gr} (hy : y < h) : ((List.range h).map fun y => T.lst ((rowL f w y).map I))[y]? = some (.lst ((rowL f w y).map I)) := by
  rw [List.getElem?_map, List.getElem?_range hy]; rfl
def up2 (f : Gr) (y x : Nat) (v : Int) : Gr := fun y' x' => if y' = y ∧ x' = x then v else f y' x'
theorem rowL_up {f : Gr} {w y x : Nat} {v : Int} (hx : x < w) : rowL (up2 f y x v) w y = (rowL f w y).set x v := by
  refine List.ext_getElem? fun i => ?_
  by_cases hi : i < w
  · rw [gi_at (by rw [rowL_len]; exact hi), rowL_gi hi]
    by_cases e : i = x
    · subst e
      rw [List.getElem?_set_self (by rw [rowL_len]; exact hi)]
      unfold up2
      rw [if_pos ⟨rfl, rfl⟩]
    · rw [List.getElem?_set_ne (Ne.symm e), gi_at (by rw [rowL_len]; exact hi), rowL_gi hi]
      unfold up2
      rw [if_neg fun z => e z.2]
  · rw [List.getElem?_eq_none (by rw [rowL_len]; omega), List.getElem?_eq_none (by rw [List.length_set, rowL_len]; omega)]
theorem gT_up {h w y x : Nat} {f : Gr} {v : Int} (hy : y < h) (hx : x < w) : ((List.range h).map fun y => T.lst ((rowL f w y).map I)).set y (.lst (((rowL f w y).set x v).map I)) = (List.range h).map fun y' => T.lst ((rowL (up2 f y x v) w y').map I) :=
  gT_set hy (rowL_up hx) fun y' ne _ => rowL_cg fun x' _ => by unfold up2; rw [if_neg fun z => ne z.1]
theorem rowL_take {f : Gr} {w c y : Nat} (h : c ≤ w) : (rowL f w y).take c = rowL f c y := by
  unfold rowL
  rw [← List.map_take, List.take_range, Nat.min_eq_left h]
theorem cut_row {f : Gr} {w y : Nat} {c : Int} (h0 : 0 ≤ c) (h : c ≤ w) : cutL (rowL f w y) none (some c) = rowL f c.toNat y := by
  rw [cut_to h0 (by rw [rowL_len]; exact h), rowL_take (by omega)]
/-- the first ones exchanged -/
theorem row_upto {f : Gr} {w c y : Nat} {ms : List Int} (h : c ≤ w) (hm : ms.length = c) : ms ++ (rowL f w y).drop c = rowL (fun y' x' => if y' = y ∧ x' < c then gi ms x' else f y' x') w y := by
  refine List.ext_getElem? fun i => ?_
  by_cases hi : i < w
  · rw [gi_at (ns := rowL _ w y) (by rw [rowL_len]; exact hi), rowL_gi hi]
    by_cases e : i < c
    · rw [List.getElem?_append_left (by omega), gi_at (by omega), if_pos ⟨rfl, e⟩]
    · rw [List.getElem?_append_right (by omega), List.getElem?_drop, hm, show c + (i - c) = i by omega, gi_at (by rw [rowL_len]; exact hi), rowL_gi hi, if_neg fun z => e z.2]
  · rw [List.getElem?_eq_none (by rw [List.length_append, List.length_drop, rowL_len]; omega), List.getElem?_eq_none (by rw [rowL_len]; omega)]
section
variable {A : Amb} {env : Env} {Post : T → Env → Prop}
/-- the i-th row of what is fixed -/
theorem wr_ix_gD {o o2 : Option V} {h w : Nat} {f : Gr} {i : Int} (h0 : 0 ≤ i) (h1 : i < h) (q : Post (.frz none (.lst ((rowL f w i.toNat).map D.int))) env) : WR A (rIxA A.c.K) (.t (.frz o (gD h w f))) (.t (.frz o2 (.int i))) env Post := wr_ix_frzM h0 h1 q
end
def pickS (S2 S3 S4 S5 : FS) : Nat → FS
  | 2 => S2 | 3 => S3 | 4 => S4 | _ => S5
theorem we_meth4S {A : Amb} {env : Env} {Post : T → Env → Prop} {k n : Nat} {m : Str} {S2 S3 S4 S5 : FS} {E : XK} {ro : TE} {ra : TA} (hk : kR k)
    (h : WO A ro env fun a e => instO e k m a ∧ WA A ra e fun as e => ∃ ts, argT e (a :: as) = some ts ∧ ts.length = n ∧ (slots (a :: as)).Nodup ∧ pickS S2 S3 S4 S5 k ts fun o => ∃ t ts', o = .ret t ts' ∧ Post t (backT e (a :: as) ts')) :
    WE A (tOrE (tMeth (A.c.cls 2) m (spOf A.c n S2) [] E ro ra) (tOrE (tMeth (A.c.cls 3) m (spOf A.c n S3) [] E ro ra) (tOrE (tMeth (A.c.cls 4) m (spOf A.c n S4) [] E ro ra) (tMeth (A.c.cls 5) m (spOf A.c n S5) [] E ro ra)))) env Post := by
  rcases hk with rfl | rfl | rfl | rfl
  · exact we_orL (we_meth h)
  · exact we_orR (we_orL (we_meth h))
  · exact we_orR (we_orR (we_orL (we_meth h)))
  · exact we_orR (we_orR (we_orR (we_meth h)))
end TL
/-! TG6: a list drawn out by what is fixed; pairs of numbers; texts made. -/
namespace TL
open PySem PySem.Spec PyProof.Rows L2
section
variable {A : Amb} {env : Env} {Post : T → Env → Prop} {a b : Ar}
theorem we_extendF {n : Nat} {ts0 : List T} (h0 : env[n]? = some (some (.lst ts0))) {tr : TA} (h : WA A tr env fun as e => ∃ o ds ts, as = [.t (.frz o (.lst ds))] ∧ e[n]? = some (some (.lst ts)) ∧ ts.length + ds.length ≤ 1000000 ∧ Post N_ (e.set n (some (.lst (ts ++ ds.map F))))) :
    WE A (tBM A.c.K "list" rExtend (tVar n) tr) env Post := fun G H σ P s Q k => by
  obtain ⟨p0, vs0, hσ0, hp0, _⟩ := ty_slot s h0
  refine ⟨_, hσ0, .inl ⟨rfl, _, SqL.of hp0⟩, h G H σ P s _ fun as e1 vs G1 H1 P1 F1 p1 r1 => ?_⟩
  obtain ⟨o, ds, ts, rfl, he, hl, hp⟩ := p1
  obtain ⟨y, F2, rfl, hF2, ⟨b, zs, rfl, hgb, rp⟩, _⟩ := r1.tm.tr.one
  obtain ⟨q, ws, F3, hσ, hq, hPq, hF, trs, mk⟩ := slot_list r1.sr he r1.tm.fd r1.tm.bs (us := ts ++ ds.map F)
  rw [hσ0] at hσ
  cases hσ
  have lz : ∀ {G : Hp} {ds : List D} {zs : List V}, Reps A.c G ds zs → zs.length = ds.length := by
    intro G ds
    induction ds with
    | nil => intro zs h; cases h; rfl
    | cons d ds ih => intro zs h; obtain ⟨v, r, e, _, h2⟩ := h; subst e; exact congrArg (· + 1) (ih h2)
  refine ⟨p0, b, ws, zs, rfl, rfl, hq, r1.sr.le _ _ hgb, by rw [trs_len trs, lz rp, sizeLine_eq]; omega, ?_⟩
  obtain ⟨s2, st2⟩ := mk (ws ++ zs) fun H2 keep => trs_app (F1 := F3) (F2 := noF) (trs.mono (Ex.refl _) (fun _ z => z) (fun a o z e => keep a o (hF a z).2 e) fun a z => (r1.sr.own n a (hF a z).1).1)
    (trs_frz rp) (fun a z => .inl z) (fun a z => z.elim) fun a z => by
      rcases z with z | z
      · exact (r1.sr.own n a (hF a z).1).1
      · exact (r1.tm.fd a z).2.1
  exact k N_ _ .non _ _ _ noF hp ⟨s2, (r1.st.trans st2).wk (fun _ h => h) fun a z => by
    rcases z with z | z
    · exact .inl z
    · exact z.elim, .flat rfl fun _ z => nomatch z⟩
/-! ### pairs of numbers -/
theorem eqv_pair {i j k l : Int} : PyData.eqv (D.tup [.int i, .int j]).py (D.tup [.int k, .int l]).py = decide (i = k ∧ j = l) := by
  show PyData.eqv (.tuple [.int i, .int j]) (.tuple [.int k, .int l]) = _
  simp only [PyData.eqv, PyData.eqvAll]
  by_cases h1 : i = k <;> by_cases h2 : j = l <;> simp [h1, h2]
theorem wr_nePr {o1 o2 : Option V} {i j k l : Int} (q : Post (B (!decide (i = k ∧ j = l))) env) : WR A (rNeA A.c.K) (.t (.frz o1 (.tup [.int i, .int j]))) (.t (.frz o2 (.tup [.int k, .int l]))) env Post :=
  wr_neA rfl rfl rfl rfl rfl rfl (by show Post (B (!PyData.eqv (D.tup [.int i, .int j]).py (D.tup [.int k, .int l]).py)) env; rw [eqv_pair]; exact q)
theorem wr_eqPr {o1 o2 : Option V} {i j k l : Int} (q : Post (B (decide (i = k ∧ j = l))) env) : WR A (rEqA A.c.K) (.t (.frz o1 (.tup [.int i, .int j]))) (.t (.frz o2 (.tup [.int k, .int l]))) env Post :=
  wr_eqA rfl rfl rfl rfl rfl rfl (by show Post (B (PyData.eqv (D.tup [.int i, .int j]).py (D.tup [.int k, .int l]).py)) env; rw [eqv_pair]; exact q)
/-! ### signs of a text -/
theorem wr_ix_sgn {o o2 : Option V} {w : Str} {i : Int} (h0 : 0 ≤ i) (h1 : i < w.length) (hl : w.length ≤ 1000000) (q : Post (S (sgn (si w i.toNat))) env) : WR A (rIxA A.c.K) (.t (.frz o (.str w))) (.t (.frz o2 (.int i))) env Post :=
  wr_ix_str (c := si w i.toNat) hl (by
    have hlen : w.cps.toList.length = w.length := by show w.cps.toList.length = w.cps.size; rw [Array.length_toList]
    obtain ⟨j, rfl⟩ := Int.eq_ofNat_of_zero_le h0
    refine atI_nat' ?_
    unfold si
    rw [Int.toNat_natCast, List.getD_eq_getElem?_getD, List.getElem?_eq_getElem (by rw [hlen]; omega)]; rfl) q
/-! ### reversed(range(a, b)) -/
theorem wi_revR2 {ta tb : TE} {Post : Nat → (Nat → D) → Env → Prop} (h : WE A ta env fun t e => ∃ o i, t = .frz o (.int i) ∧ WE A tb e fun t2 e2 => ∃ o2 j, t2 = .frz o2 (.int j) ∧ (-(2 ^ 62) ≤ i ∧ i < 2 ^ 62 ∧ -(2 ^ 62) ≤ j ∧ j < 2 ^ 62) ∧ Post (j - i).toNat (fun n => .int (i + ((j - i).toNat : Int) - 1 + n * -1)) e2) : WI A (iRevR (tRg2 ta tb)) env Post := fun G H σ P s R k => by
  refine h G H σ P s _ fun t e v G1 H1 P1 F1 p1 r1 => ?_
  obtain ⟨o, i, rfl, h2⟩ := p1
  refine h2 G1 H1 σ P1 r1.sr _ fun t2 e2 w G2 H2 P2 F2 p2 r2 => ?_
  obtain ⟨o2, j, rfl, hb, hp⟩ := p2
  exact ⟨i, j, r1.tm.tr.1, r2.tm.tr.1, hb.1, hb.2.1, hb.2.2.1, hb.2.2.2, k _ _ _ _ _ _ _ hp r2.sr (r1.drop.trans r2.drop) itr_c⟩
theorem wi_revR1 {ta : TE} {Post : Nat → (Nat → D) → Env → Prop} (h : WE A ta env fun t e => ∃ o j, t = .frz o (.int j) ∧ (-(2 ^ 62) ≤ j ∧ j < 2 ^ 62) ∧ Post (j - 0).toNat (fun n => .int (0 + ((j - 0).toNat : Int) - 1 + n * -1)) e) : WI A (iRevR (tRg1 ta)) env Post := fun G H σ P s R k => by
  refine h G H σ P s _ fun t e v G1 H1 P1 F1 p1 r1 => ?_
  obtain ⟨o, j, rfl, hb, hp⟩ := p1
  exact ⟨j, r1.tm.tr.1, by decide, by decide, hb.1, hb.2, k _ _ _ _ _ _ _ hp r1.sr r1.drop itr_c⟩
theorem cut_toG {α : Type} {ns : List α} {a : Int} (h0 : 0 ≤ a) (h : a ≤ ns.length) : cutL ns none (some a) = ns.take a.toNat := by
  have e2 : ¬ a < 0 := by omega
  unfold cutL HT.sIx
  simp only [e2, if_false]
  rw [List.drop_zero, Nat.sub_zero, show min a.toNat ns.length = a.toNat by omega]
theorem cut_rg {g : Nat → D} {h : Nat} {c : Int} (h0 : 0 ≤ c) (h1 : c ≤ h) : cutL ((List.range h).map g) none (some c) = (List.range c.toNat).map g := by
  rw [cut_toG h0 (by rw [List.length_map, List.length_range]; exact h1), ← List.map_take, List.take_range, Nat.min_eq_left (by omega)]
theorem datas_F' {ds : List D} : T.datas (ds.map F) = ds := by rw [datas_map, List.map_map]; exact List.map_id ds
/-! ### a text once or not at all; one of two -/
theorem wr_repR {o1 o2 : Option V} {w : Str} {r : Int} {k : Bool} (h1 : r = 0 ∨ r = 1) (h2 : r = 1 ↔ k = true) (q : Post (S (bif k then w else Str.empty)) env) : WR A rMulA (.t (.frz o1 (.str w))) (.t (.frz o2 (.int r))) env Post :=
  wr_repS (w' := bif k then w else Str.empty) (by
    cases k with
    | true => exact .inr ⟨h2.mpr rfl, rfl⟩
    | false => exact .inl ⟨h1.resolve_right (fun e => Bool.noConfusion (h2.mp e)), rfl⟩) q
theorem wr_ix_pick {o2 : Option V} {x y r : Int} {k : Bool} (h1 : r = 0 ∨ r = 1) (h2 : r = 1 ↔ k = true) (q : Post (I (bif k then y else x)) env) : WR A (rIxA A.c.K) (.t (.lst [I x, I y])) (.t (.frz o2 (.int r))) env Post := by
  cases k with
  | true =>
    have e : r = 1 := h2.mpr rfl
    subst e
    exact wr_ix_tmpIx (ns := [x, y]) (by decide) (by simp) q
  | false =>
    have e : r = 0 := h1.resolve_right (fun e => Bool.noConfusion (h2.mp e))
    subst e
    exact wr_ix_tmpIx (ns := [x, y]) (by decide) (by simp) q
/-! ### a letter added -/
theorem str_app_len {s t : Str} : (s ++ t).length = s.length + t.length := by
  show (s.cps ++ t.cps).size = s.cps.size + t.cps.size
  rw [Array.size_append]
theorem si_app {s : Str} {c i : Nat} : si (s ++ sgn c) i = if i < s.length then si s i else if i = s.length then c else 0 := by
  have e : (s ++ sgn c).cps.toList = s.cps.toList ++ [c] := by
    show (s.cps ++ #[c]).toList = _
    rw [Array.toList_append]
  have hl : s.cps.toList.length = s.length := by rw [Array.length_toList]; rfl
  unfold si
  rw [e, List.getD_eq_getElem?_getD, List.getD_eq_getElem?_getD]
  by_cases h : i < s.length
  · rw [if_pos h, List.getElem?_append_left (by omega)]
  · rw [if_neg h, List.getElem?_append_right (by omega), hl]
    by_cases h2 : i = s.length
    · rw [if_pos h2, h2, Nat.sub_self]; rfl
    · rw [if_neg h2, List.getElem?_eq_none (by simp; omega)]; rfl
/-! ### rows drawn from a box, one by one -/
theorem lc_boxR {g : TG} {te : TE} {R : List T → Env → Prop} {ws : List Nat} {j : Int} {e0 : Env} (b m k w : Nat) (lo hi : Int) (h0 : ∃ t, (wipeE e0 ws)[b]? = some (some t) ∧ Box m t)
    (hs : ∀ (i : Nat) t, (i : Int) < j → Box (m + k * i) t → WG A (fun j => j ∈ ws) g (I i) ((wipeE e0 ws).set b (some t)) fun e1 => WE A te e1 fun t' e3 => ∃ (ns : List Int) (t2 : T), t' = .lst (ns.map I) ∧ ns.length = w ∧ (∀ x, x ∈ ns → lo ≤ x ∧ x ≤ hi) ∧ Box (m + k * (i + 1)) t2 ∧ wipeE e3 ws = (wipeE e0 ws).set b (some t2))
    (q : ∀ (f : Gr) t2, (∀ y x, y < j.toNat → x < w → lo ≤ f y x ∧ f y x ≤ hi) → Box (m + k * j.toNat) t2 → R ((List.range j.toNat).map fun y => T.lst ((rowL f w y).map I)) ((wipeE e0 ws).set b (some t2))) : ∃ Iv : Nat → List T → Env → Prop, Iv 0 [] (wipeE e0 ws) ∧
      (∀ (i : Nat) acc e, (i : Int) < j → acc.length ≤ i → Iv i acc e → WG A (fun j => j ∈ ws) g (I i) e fun e1 => WT A tYes e1 fun b e2 => (b = true → WE A te e2 fun t e3 => Iv (i + 1) (acc ++ [t]) (wipeE e3 ws)) ∧ (b = false → Iv (i + 1) acc (wipeE e2 ws))) ∧
      ∀ acc e, acc.length ≤ j.toNat → Iv j.toNat acc e → R acc e := by
  obtain ⟨t, h1, h2⟩ := h0
  refine ⟨fun i acc e => (∃ f : Gr, acc = ((List.range i).map fun y => T.lst ((rowL f w y).map I)) ∧ ∀ y x, y < i → x < w → lo ≤ f y x ∧ f y x ≤ hi) ∧ ∃ t, Box (m + k * i) t ∧ e = (wipeE e0 ws).set b (some t), ⟨⟨fun _ _ => 0, rfl, fun _ _ z => by omega⟩, t, h2, (set_same h1).symm⟩, ?_, ?_⟩
  · rintro i acc e hij hl ⟨⟨f, rfl, hb⟩, t2, hbox, rfl⟩
    refine fun G H σ P v X s m Q k => hs i t2 hij hbox G H σ P v X s m Q fun e' G' H' σ' P' q' s' st l w => k e' G' H' σ' P' (wt_yes ⟨fun _ => ?_, fun z => nomatch z⟩) s' st l w
    refine we_imp q' fun t' e3 ⟨ns, t3, e1, hn, hx, hb3, e4⟩ => ⟨⟨fun y x => if y = i then gi ns x else f y x, ?_, fun y x hy hxw => ?_⟩, t3, hb3, e4⟩
    · rw [List.range_succ, List.map_append, e1]
      congr 1
      · exact List.map_congr_left fun y hy => by rw [rowL_cg (f := f) (g := fun y x => if y = i then gi ns x else f y x) fun x _ => by show f y x = if y = i then _ else f y x; rw [if_neg (by have := List.mem_range.mp hy; omega)]]
      · show [T.lst (ns.map I)] = [T.lst _]
        rw [show rowL (fun y x => if y = i then gi ns x else f y x) _ i = ns from ?_]
        refine List.ext_getElem? fun x => ?_
        by_cases hxw : x < ns.length
        · rw [gi_at (by rw [rowL_len, ← hn]; exact hxw), rowL_gi (by omega), gi_at hxw, if_pos rfl]
        · rw [List.getElem?_eq_none (by rw [rowL_len]; omega), List.getElem?_eq_none (by omega)]
    · show lo ≤ (if y = i then gi ns x else f y x) ∧ (if y = i then gi ns x else f y x) ≤ hi
      split
      · exact hx _ (gi_mem (by omega))
      · exact hb y x (by omega) hxw
  · rintro acc e hl ⟨⟨f, rfl, hb⟩, t2, hbox, rfl⟩
    exact q f t2 hb hbox
/-! ### a comprehension in a comprehension -/
theorem look_relabel {env : PySem.Env} {n : Str} : ∀ {ns : List (Str × NameKind)}, (List.lookup n ns = some .cell ∨ List.lookup n ns = some .free) →
    (List.lookup n (ns.map fun (x : Str × NameKind) => match x with | (n, k) => if (k == .free && env.scope.kind == .function && env.kindOf n == some .cell) = true then (n, NameKind.cell) else (n, k)) = some .cell ∨
     List.lookup n (ns.map fun (x : Str × NameKind) => match x with | (n, k) => if (k == .free && env.scope.kind == .function && env.kindOf n == some .cell) = true then (n, NameKind.cell) else (n, k)) = some .free)
  | [], h => by rcases h with h | h <;> cases h
  | (m, k) :: r, h => by
    have ih := look_relabel (env := env) (n := n) (ns := r)
    simp only [List.map_cons]
    by_cases e : (n == m) = true
    · have e1 : List.lookup n ((m, k) :: r) = some k := by simp only [List.lookup, e]
      rw [e1] at h
      split
      · simp [List.lookup, e]
      · simp only [List.lookup, e]; exact h
    · have e1 : List.lookup n ((m, k) :: r) = List.lookup n r := by simp only [List.lookup, e]
      rw [e1] at h
      split
      · simp only [List.lookup, e]; exact ih h
      · simp only [List.lookup, e]; exact ih h
theorem blkOk_nest {N : List Str} {sc scope : Scope} {env : PySem.Env} {own : List (Str × Nat)} (h : blkC N sc scope own = true) : BlkOk N (relabel sc env) scope own :=
  have b := blkOk_by h
  ⟨b.kind, b.uniq, b.ix, fun y hy hf => look_relabel (b.free y hy hf), b.own⟩
end
end TL
/-! TZ: enumerate(text), zip(text, list). -/
namespace TL
open PySem PySem.Spec PyProof.Rows L2
theorem zipD_next_item {prog : Program} {w : World} {A : Around} {E : Value → Shared → Prop} {s : Shared} {z TI TO i1 i2 : Addr} {f1 f2 : List Addr} {n1 n2 k1 k2 : Nat} {P1 P2 : Nat → Value → Prop} {S1 S2 : Nat → Heap → Prop} {a b : Value} {Q : Value → Shared → Prop}
    (d1 : Draws prog w A i1 f1 n1 P1 S1) (d2 : Draws prog w A i2 f2 n2 P2 S2)
    (TIz : TI ≠ z) (TOz : TO ≠ z) (i1z : i1 ≠ z) (i2z : i2 ≠ z) (TOi1 : TO ≠ i1) (TOi2 : TO ≠ i2) (i12 : i1 ≠ i2) (z1 : z ∉ f1) (t1 : TO ∉ f1) (o1 : i2 ∉ f1) (z2 : z ∉ f2) (t2 : TO ∉ f2) (o2 : i1 ∉ f2)
    (hz : IsZip s.heap z TI TO Value.none) (hTI : IsPair s.heap TI (Value.ref i1) (Value.ref i2)) (hTO : IsPair s.heap TO a b)
    (h1 : S1 k1 s.heap) (h2 : S2 k2 s.heap) (l1 : k1 < n1) (l2 : k2 < n2)
    (hQ : ∀ (h' : Heap) (x y : Value) (tk : Nat), P1 k1 x → P2 k2 y → IsZip h' z TI TO (rawInt s.heap.objs.size) → IsPair h' TO x y → S1 (k1 + 1) h' → S2 (k2 + 1) h' → IsPair h' s.heap.objs.size x y → h'.objs.size = s.heap.objs.size + 1 →
      (∀ (c : Addr) (o : Obj), c ≠ z → c ≠ TO → c ≠ i1 → c ≠ i2 → s.heap.get? c = some o → h'.get? c = some o) → Q (Value.ref s.heap.objs.size) { heap := h', gens := s.gens, drawn := s.drawn, toks := tk, os := s.os }) :
    wpAny (model prog w) A (Builtin.«zip.__next__» { pos := [Value.ref z] }) (fun fin s' => ∃ v, fin = Fin.done (Flow.ret v) ∧ Q v s') E s := by
  refine wpAny_bind (show wpAny _ _ (pure (Value.ref z, [])) _ _ _ from wpAny_pure ?_)
  refine wpAny_bind (wpAny_field hz rfl rfl ?_)
  refine wpAny_bind (wpAny_field hz rfl rfl ?_)
  refine wpAny_bind (wpAny_seqItems hTI rfl ?_)
  refine wpAny_bind ?_
  refine wpAny_bind (wpAny_field hz rfl rfl (wpAny_pure ?_))
  simp only [beq_self_eq_true, if_true]
  refine wpAny_bind (wpAny_rule (wpAny_bind (wpAny_field hz rfl rfl (wpAny_bind (wpAny_setField_rec hz (by simp) fun ha hza sa => ?_)))))
  refine wpAny_bind ?_
  simp only [List.zipIdx_cons, List.zipIdx_nil, List.forIn_cons, List.forIn_nil]
  refine wpAny_bind (wpAny_bind (wpAny_onRaise ?_))
  show wpAny _ _ (do let v ← Builtin.SmallTypes.nextOf (Value.ref i1); pure (some v)) _ _ _
  refine wpAny_bind (d1.item k1 _ _ _ l1 (d1.frame _ _ _ h1 fun c hc o e => sa.extBut _ _ (fun q => z1 (q ▸ hc)) e) fun x hb tk px s1 sb => wpAny_pure ?_)
  have hTO2 : IsPair hb TO a b := sb.extBut _ _ TOi1 (sa.extBut _ _ TOz hTO)
  refine wpAny_bind (wpAny_seqItems hTO2 rfl (wpAny_bind (wpAny_updateSeq_pair hTO2 fun hc hTO3 sc => wpAny_bind (wpAny_letGo (wpAny_pure ?_)))))
  have hTO3 : IsPair hc TO x b := hTO3
  refine wpAny_bind (wpAny_bind (wpAny_onRaise ?_))
  show wpAny _ _ (do let v ← Builtin.SmallTypes.nextOf (Value.ref i2); pure (some v)) _ _ _
  have g2 : S2 k2 hc := d2.frame _ _ _ (d2.frame _ _ _ (d2.frame _ _ _ h2 fun c hc o e => sa.extBut _ _ (fun q => z2 (q ▸ hc)) e) fun c hc o e => sb.extBut _ _ (fun q => o2 (q ▸ hc)) e) fun c hc o e => sc.extBut _ _ (fun q => t2 (q ▸ hc)) e
  have g1 : S1 (k1 + 1) hc := d1.frame _ _ _ s1 fun c hc o e => sc.extBut _ _ (fun q => t1 (q ▸ hc)) e
  refine wpAny_bind (d2.item k2 { heap := hc, gens := s.gens, drawn := s.drawn, toks := tk, os := s.os } _ _ l2 g2 fun y hd tk2 py s2 sd => wpAny_pure ?_)
  have g1' : S1 (k1 + 1) hd := d1.frame _ _ _ g1 fun c hc o e => sd.extBut _ _ (fun q => o1 (q ▸ hc)) e
  have hTO4 : IsPair hd TO x b := sd.extBut _ _ TOi2 hTO3
  refine wpAny_bind (wpAny_seqItems hTO4 rfl (wpAny_bind (wpAny_updateSeq_pair hTO4 fun he hTO5 se => wpAny_bind (wpAny_letGo (wpAny_pure (wpAny_pure ?_))))))
  have hTO5 : IsPair he TO x y := hTO5
  refine wpAny_bind (wpAny_seqItems hTO5 rfl (wpAny_bind (wpAny_newTuple ?_)))
  have hsz : he.objs.size = s.heap.objs.size := by rw [se.1, sd.1, sc.1, sb.1, sa.1]
  have hz5 := se.extBut _ _ (Ne.symm TOz) (sd.extBut _ _ (Ne.symm i2z) (sc.extBut _ _ (Ne.symm TOz) (sb.extBut _ _ (Ne.symm i1z) hza)))
  have hz6 := Heap.get?_push_of_some { cls := .type "tuple", data := .seq #[x, y] } hz5
  refine wpAny_bind ?_
  refine wpAny_bind (wpAny_setField_rec hz6 (by simp) fun h7 hz7 s7 => wpAny_setField_rec hz7 (by simp) fun h8 hz8 s8 => ?_)
  have s7' : Heap.SameBut z (he.push { cls := .type "tuple", data := .seq #[x, y] }) h7 := s7
  have s8' : Heap.SameBut z h7 h8 := s8
  have hz8' : IsZip h8 z TI TO (rawInt he.objs.size) := hz8
  have lt : z < he.objs.size := Heap.lt_size hz5
  have old : ∀ c o, c ≠ z → he.get? c = some o → h8.get? c = some o := fun c o ne e => s8'.extBut _ _ ne (s7'.extBut _ _ ne (Heap.get?_push_of_some _ e))
  have new : IsPair h8 he.objs.size x y := s8'.extBut _ _ (Nat.ne_of_gt lt) (s7'.extBut _ _ (Nat.ne_of_gt lt) (Heap.get?_push_size _ rfl))
  rw [← hsz] at hQ
  have g1e : S1 (k1 + 1) h8 := d1.frame _ _ _ (d1.frame _ _ _ g1' fun c hc o e => se.extBut _ _ (fun q => t1 (q ▸ hc)) e) fun c hc o e => old c o (fun q => z1 (q ▸ hc)) e
  have g2e : S2 (k2 + 1) h8 := d2.frame _ _ _ (d2.frame _ _ _ s2 fun c hc o e => se.extBut _ _ (fun q => t2 (q ▸ hc)) e) fun c hc o e => old c o (fun q => z2 (q ▸ hc)) e
  refine wpAny_pure ⟨_, rfl, ?_⟩
  refine hQ h8 x y tk2 px py hz8' (old _ _ TOz hTO5) g1e g2e new (by rw [s8'.1, s7'.1, Heap.size_push]) fun c o n1 n2 n3 n4 e => ?_
  exact old _ _ n1 (se.extBut _ _ n2 (sd.extBut _ _ n4 (sc.extBut _ _ n2 (sb.extBut _ _ n3 (sa.extBut _ _ n1 e)))))
theorem zipD_next_end {prog : Program} {w : World} {A : Around} {E : Value → Shared → Prop} {s : Shared} {z TI TO i1 i2 : Addr} {f1 f2 : List Addr} {n1 n2 k1 k2 : Nat} {P1 P2 : Nat → Value → Prop} {S1 S2 : Nat → Heap → Prop} {a b : Value} {Q : PySem.Fin → Shared → Prop}
    (d1 : Draws prog w A i1 f1 n1 P1 S1) (d2 : Draws prog w A i2 f2 n2 P2 S2)
    (TIz : TI ≠ z) (TOz : TO ≠ z) (i1z : i1 ≠ z) (i2z : i2 ≠ z) (TOi1 : TO ≠ i1) (TOi2 : TO ≠ i2) (i12 : i1 ≠ i2) (z1 : z ∉ f1) (t1 : TO ∉ f1) (o1 : i2 ∉ f1) (z2 : z ∉ f2) (t2 : TO ∉ f2) (o2 : i1 ∉ f2)
    (hz : IsZip s.heap z TI TO Value.none) (hTI : IsPair s.heap TI (Value.ref i1) (Value.ref i2)) (hTO : IsPair s.heap TO a b)
    (h1 : S1 k1 s.heap) (h2 : S2 k2 s.heap) (hk : (∀ (s : Shared) (Q : Value → Shared → Prop) (E : Value → Shared → Prop), S1 k1 s.heap → (∀ (h' : Heap) (e : Addr), Heap.ExtBut i1 s.heap h' → (∃ o, h'.get? e = some o ∧ o.cls = Value.type "StopIteration") → E (Value.ref e) { heap := h', gens := s.gens, drawn := s.drawn, toks := s.toks, os := s.os }) → wpAny (model prog w) A (Builtin.SmallTypes.nextOf (Value.ref i1)) Q E s) ∨ (k1 < n1 ∧ (∀ (s : Shared) (Q : Value → Shared → Prop) (E : Value → Shared → Prop), S2 k2 s.heap → (∀ (h' : Heap) (e : Addr), Heap.ExtBut i2 s.heap h' → (∃ o, h'.get? e = some o ∧ o.cls = Value.type "StopIteration") → E (Value.ref e) { heap := h', gens := s.gens, drawn := s.drawn, toks := s.toks, os := s.os }) → wpAny (model prog w) A (Builtin.SmallTypes.nextOf (Value.ref i2)) Q E s)))
    (hQ : ∀ (h' : Heap) (e : Addr) (tk : Nat), (∀ (c : Addr) (o : Obj), c ≠ z → c ≠ TO → c ≠ i1 → c ≠ i2 → s.heap.get? c = some o → h'.get? c = some o) → (∃ o, h'.get? e = some o ∧ o.cls = Value.type "StopIteration") →
      E (Value.ref e) { heap := h', gens := s.gens, drawn := s.drawn, toks := tk, os := s.os }) :
    wpAny (model prog w) A (Builtin.«zip.__next__» { pos := [Value.ref z] }) Q E s := by
  refine wpAny_bind (show wpAny _ _ (pure (Value.ref z, [])) _ _ _ from wpAny_pure ?_)
  refine wpAny_bind (wpAny_field hz rfl rfl ?_)
  refine wpAny_bind (wpAny_field hz rfl rfl ?_)
  refine wpAny_bind (wpAny_seqItems hTI rfl ?_)
  refine wpAny_bind ?_
  refine wpAny_bind (wpAny_field hz rfl rfl (wpAny_pure ?_))
  simp only [beq_self_eq_true, if_true]
  refine wpAny_bind (wpAny_rule (wpAny_bind (wpAny_field hz rfl rfl (wpAny_bind (wpAny_setField_rec hz (by simp) fun ha hza sa => ?_)))))
  refine wpAny_bind ?_
  simp only [List.zipIdx_cons, List.zipIdx_nil, List.forIn_cons, List.forIn_nil]
  refine wpAny_bind (wpAny_bind (wpAny_onRaise ?_))
  show wpAny _ _ (do let v ← Builtin.SmallTypes.nextOf (Value.ref i1); pure (some v)) _ _ _
  have h1a := d1.frame _ _ _ h1 fun c hc o e => sa.extBut _ _ (fun q => z1 (q ▸ hc)) e
  rcases hk with en | ⟨l1, en⟩
  · refine wpAny_bind (en { heap := ha, gens := s.gens, drawn := s.drawn, toks := s.toks, os := s.os } _ _ h1a fun hb e sb hs => ?_)
    have hzb := sb _ _ (Ne.symm i1z) hza
    refine wpAny_setField_rec hzb (by simp) fun h9 hz9 s9 => ?_
    have s9' : Heap.SameBut z hb h9 := s9
    refine hQ h9 e s.toks (fun c o n1 n2 n3 n4 q => s9'.extBut _ _ n1 (sb _ _ n3 (sa.extBut _ _ n1 q))) ?_
    obtain ⟨o, ho, hc⟩ := hs
    refine ⟨o, s9'.extBut _ _ (fun q => ?_) ho, hc⟩
    subst q
    rw [hzb] at ho
    cases ho
    exact absurd (Value.type.inj hc) (by decide)
  · refine wpAny_bind (d1.item k1 _ _ _ l1 h1a fun x hb tk px s1 sb => wpAny_pure ?_)
    have hTO2 : IsPair hb TO a b := sb.extBut _ _ TOi1 (sa.extBut _ _ TOz hTO)
    refine wpAny_bind (wpAny_seqItems hTO2 rfl (wpAny_bind (wpAny_updateSeq_pair hTO2 fun hc hTO3 sc => wpAny_bind (wpAny_letGo (wpAny_pure ?_)))))
    have hTO3 : IsPair hc TO x b := hTO3
    refine wpAny_bind (wpAny_bind (wpAny_onRaise ?_))
    show wpAny _ _ (do let v ← Builtin.SmallTypes.nextOf (Value.ref i2); pure (some v)) _ _ _
    have g2 := d2.frame _ _ _ (d2.frame _ _ _ (d2.frame _ _ _ h2 fun c hc o e => sa.extBut _ _ (fun q => z2 (q ▸ hc)) e) fun c hc o e => sb.extBut _ _ (fun q => o2 (q ▸ hc)) e) fun c hc o e => sc.extBut _ _ (fun q => t2 (q ▸ hc)) e
    refine wpAny_bind (en { heap := hc, gens := s.gens, drawn := s.drawn, toks := tk, os := s.os } _ _ g2 fun hd e sd hs => ?_)
    have hzd := sd _ _ (Ne.symm i2z) (sc.extBut _ _ (Ne.symm TOz) (sb.extBut _ _ (Ne.symm i1z) hza))
    refine wpAny_setField_rec hzd (by simp) fun h9 hz9 s9 => ?_
    have s9' : Heap.SameBut z hd h9 := s9
    refine hQ h9 e tk (fun c o n1 n2 n3 n4 q => s9'.extBut _ _ n1 (sd _ _ n4 (sc.extBut _ _ n2 (sb.extBut _ _ n3 (sa.extBut _ _ n1 q))))) ?_
    obtain ⟨o, ho, hc⟩ := hs
    refine ⟨o, s9'.extBut _ _ (fun q => ?_) ho, hc⟩
    subst q
    rw [hzd] at ho
    cases ho
    exact absurd (Value.type.inj hc) (by decide)
theorem wpAny_zipRec {prog : Program} {w : World} {A : Around} {E : Value → Shared → Prop} {s : Shared} {a b : Value} {Q : Value → Shared → Prop} (q : Q (.ref s.heap.objs.size) { heap := s.heap.push { cls := .type "zip", data := .fields #[.none, .bool false, .bool false, a, b] }, gens := s.gens, drawn := s.drawn, toks := s.toks, os := s.os }) :
    wpAny (model prog w) A (Builtin.SmallTypes.newRecord (.type "zip") (Builtin.SmallTypes.ownedTupleFields ++ [.bool false, a, b])) Q E s := by
  show wpAny _ _ (newObj (.type "zip") (.fields #[.none, .bool false, .bool false, a, b]) none) _ _ _
  unfold newObj
  dsimp only
  rw [if_neg (by rw [sizeLine_eq]; simp)]
  exact wpAny_bind (wpAny_alloc (wpAny_pure q))
abbrev zs1 (x : Str) (t : Tok) (h : Heap) : Heap := h.push { cls := .type (strIterType x), data := .fields #[.str x t, .int 0 0] }
abbrev zs2 (x : Str) (t : Tok) (l : Addr) (h : Heap) : Heap := (zs1 x t h).push { cls := .type "list_iterator", data := .fields #[.ref l, .int 0 0] }
abbrev zs3 (x : Str) (t : Tok) (l : Addr) (h : Heap) : Heap := (zs2 x t l h).push { cls := .type "tuple", data := .seq #[.ref h.objs.size, .ref (zs1 x t h).objs.size] }
abbrev zs4 (x : Str) (t : Tok) (l : Addr) (h : Heap) : Heap := (zs3 x t l h).push { cls := .type "tuple", data := .seq #[.none, .none] }
abbrev zs5 (x : Str) (t : Tok) (l : Addr) (h : Heap) : Heap := (zs4 x t l h).push { cls := .type "zip", data := .fields #[.none, .bool false, .bool false, .ref (zs2 x t l h).objs.size, .ref (zs3 x t l h).objs.size] }
theorem meets_zipSL (x : Str) (t : Tok) (l : Addr) (ys : Array Value) : Meets (Builtin.«zip.__new__» { pos := [.type "zip", .str x t, .ref l] }) fun _ R s => s.heap.IsList l ys ∧ R (.ok (.ret (.ref (zs4 x t l s.heap).objs.size))) { heap := zs5 x t l s.heap, gens := s.gens, drawn := s.drawn, toks := s.toks, os := s.os } := by
  refine Meets.of_wp fun prog w A R s h => ?_
  obtain ⟨hp', g, d, tk, os⟩ := s
  obtain ⟨hl, h⟩ := h
  refine wpAny_bind ?_
  refine wpAny_bind (show wpAny _ _ (pure true) _ _ _ from wpAny_pure ?_)
  refine wpAny_ite_false rfl ?_
  refine wpAny_bind (wpAny_of_eq sub_zip ?_)
  refine wpAny_ite_false rfl (wpAny_pure (wpAny_ite_false rfl ?_))
  refine wpAny_bind ?_
  refine wpAny_bind ?_
  simp only [List.forIn_cons, List.forIn_nil]
  have str : ∀ {A : Around} {E : Value → Shared → Prop} {s : Shared} {Q : Value → Shared → Prop}, Q (.ref s.heap.objs.size) { heap := zs1 x t s.heap, gens := s.gens, drawn := s.drawn, toks := s.toks, os := s.os } → wpAny (model prog w) A (pyIter (.str x t)) Q E s := by
    intro A E s Q q
    by_cases hx : (x.cps.all fun x => decide (x < 128)) = true
    · refine wpAny_pyIter_ascii hx ?_
      have e : strIterType x = "str_ascii_iterator" := by unfold strIterType; rw [if_pos hx]
      rw [← e]; exact q
    · refine wpAny_pyIter_wide (by simpa using hx) ?_
      have e : strIterType x = "str_iterator" := by unfold strIterType; rw [if_neg hx]
      rw [← e]; exact q
  refine wpAny_bind (wpAny_bind (wpAny_holding (str (wpAny_pure ?_))))
  have hl2 : (zs1 x t hp').IsList l ys := Heap.IsList.push hl _
  refine wpAny_bind (wpAny_bind (wpAny_holding (wpAny_pyIter_list hl2 (wpAny_pure (wpAny_pure (wpAny_pure ?_))))))
  refine wpAny_bind (wpAny_newTuple ?_ (by show 2 ≤ sizeLine; rw [sizeLine_eq]; decide))
  refine wpAny_bind (wpAny_newTuple ?_ (by show 2 ≤ sizeLine; rw [sizeLine_eq]; decide))
  exact wpAny_bind (wpAny_zipRec (wpAny_pure ⟨_, rfl, h⟩))
/-- zip(x, l), x a text and l a list -/
theorem call_zipSL {prog : Program} {w : World} {A : Around} {E : Value → Shared → Prop} {s : Shared} {x : Str} {t : Tok} {l : Addr} {ys : Array Value} {Q : Value → Shared → Prop} (hl : s.heap.IsList l ys)
    (hQ : ∀ h' : Heap, IsZip h' (s.heap.objs.size + 4) (s.heap.objs.size + 2) (s.heap.objs.size + 3) Value.none → IsPair h' (s.heap.objs.size + 2) (Value.ref s.heap.objs.size) (Value.ref (s.heap.objs.size + 1)) → IsPair h' (s.heap.objs.size + 3) Value.none Value.none →
      h'.IsStrIter s.heap.objs.size (strIterType x) x t 0 → h'.IsListIter (s.heap.objs.size + 1) l 0 → h'.objs.size = s.heap.objs.size + 5 → (∀ (c : Addr) (o : Obj), s.heap.get? c = some o → h'.get? c = some o) →
      Q (Value.ref (s.heap.objs.size + 4)) { heap := h', gens := s.gens, drawn := s.drawn, toks := s.toks, os := s.os }) :
    wpAny (model prog w) A (call (Value.type "zip") [Value.str x t, Value.ref l]) Q E s := by
  refine callType_new F.called_zip (by decide) (F.typeCall_zip_2 _ _) (F.newCall_zip_2 _ _) (fun obj => F.args_object_init_3 _ _ _) F.entry_zip_new (meets_zipSL x t l ys) ⟨hl, ?_⟩
  have e1 : (zs1 x t s.heap).objs.size = s.heap.objs.size + 1 := Heap.size_push _ _
  have e2 : (zs2 x t l s.heap).objs.size = s.heap.objs.size + 2 := by rw [Heap.size_push, e1]
  have e3 : (zs3 x t l s.heap).objs.size = s.heap.objs.size + 3 := by rw [Heap.size_push, e2]
  have e4 : (zs4 x t l s.heap).objs.size = s.heap.objs.size + 4 := by rw [Heap.size_push, e3]
  have e5 : (zs5 x t l s.heap).objs.size = s.heap.objs.size + 5 := by rw [Heap.size_push, e4]
  have g5 : (zs5 x t l s.heap).get? (zs4 x t l s.heap).objs.size = _ := Heap.get?_push_size _ rfl
  have g4 : (zs5 x t l s.heap).get? (zs3 x t l s.heap).objs.size = _ := Heap.get?_push_of_some _ (Heap.get?_push_size _ rfl)
  have g3 : (zs5 x t l s.heap).get? (zs2 x t l s.heap).objs.size = _ := Heap.get?_push_of_some _ (Heap.get?_push_of_some _ (Heap.get?_push_size _ rfl))
  have g2 : (zs5 x t l s.heap).get? (zs1 x t s.heap).objs.size = _ := Heap.get?_push_of_some _ (Heap.get?_push_of_some _ (Heap.get?_push_of_some _ (Heap.get?_push_size _ rfl)))
  have g1 : (zs5 x t l s.heap).get? s.heap.objs.size = _ := Heap.get?_push_of_some _ (Heap.get?_push_of_some _ (Heap.get?_push_of_some _ (Heap.get?_push_of_some _ (Heap.get?_push_size _ rfl))))
  rw [e4, e2, e3] at g5
  rw [e3] at g4
  rw [e2, e1] at g3
  rw [e1] at g2
  have old : ∀ (c : Addr) (o : Obj), s.heap.get? c = some o → (zs5 x t l s.heap).get? c = some o := fun c o e => Heap.get?_push_of_some _ (Heap.get?_push_of_some _ (Heap.get?_push_of_some _ (Heap.get?_push_of_some _ (Heap.get?_push_of_some _ e))))
  show Shared.TypeIs _ (.ref (zs4 x t l s.heap).objs.size) "zip" ∧ Q (.ref (zs4 x t l s.heap).objs.size) _
  rw [e4]
  exact ⟨⟨_, g5, rfl⟩, hQ _ g5 g3 g4 ⟨_, g1, rfl, rfl⟩ ⟨_, g2, rfl, rfl⟩ e5 old⟩
theorem pyNext_zipD_item {prog : Program} {w : World} {A : Around} {E : Value → Shared → Prop} {s : Shared} {z TI TO i1 i2 : Addr} {f1 f2 : List Addr} {n1 n2 k1 k2 : Nat} {P1 P2 : Nat → Value → Prop} {S1 S2 : Nat → Heap → Prop} {a b : Value} {Q : Option Value → Shared → Prop}
    (d1 : Draws prog w A.in1 i1 f1 n1 P1 S1) (d2 : Draws prog w A.in1 i2 f2 n2 P2 S2)
    (TIz : TI ≠ z) (TOz : TO ≠ z) (i1z : i1 ≠ z) (i2z : i2 ≠ z) (TOi1 : TO ≠ i1) (TOi2 : TO ≠ i2) (i12 : i1 ≠ i2) (z1 : z ∉ f1) (t1 : TO ∉ f1) (o1 : i2 ∉ f1) (z2 : z ∉ f2) (t2 : TO ∉ f2) (o2 : i1 ∉ f2)
    (hz : IsZip s.heap z TI TO Value.none) (hTI : IsPair s.heap TI (Value.ref i1) (Value.ref i2)) (hTO : IsPair s.heap TO a b)
    (h1 : S1 k1 s.heap) (h2 : S2 k2 s.heap) (l1 : k1 < n1) (l2 : k2 < n2)
    (hQ : ∀ (h' : Heap) (x y : Value) (tk : Nat), P1 k1 x → P2 k2 y → IsZip h' z TI TO (rawInt s.heap.objs.size) → IsPair h' TO x y → S1 (k1 + 1) h' → S2 (k2 + 1) h' → IsPair h' s.heap.objs.size x y → h'.objs.size = s.heap.objs.size + 1 →
      (∀ (c : Addr) (o : Obj), c ≠ z → c ≠ TO → c ≠ i1 → c ≠ i2 → s.heap.get? c = some o → h'.get? c = some o) → Q (some (Value.ref s.heap.objs.size)) { heap := h', gens := s.gens, drawn := s.drawn, toks := tk, os := s.os }) :
    wpAny (model prog w) A (pyNext (Value.ref z)) Q E s :=
  wpAny_bind (wpAny_attempt (wpAny_callSpecial?_slot (T := "zip") ⟨_, hz, rfl⟩ F.slot_zip_next (wpAny_call_entry F.slot_zip_next ⟨_, hz, rfl⟩ F.entry_zip_next
    (zipD_next_item d1 d2 TIz TOz i1z i2z TOi1 TOi2 i12 z1 t1 o1 z2 t2 o2 hz hTI hTO h1 h2 l1 l2 fun h' x y tk a b c d e f g h i => wpAny_pure (hQ h' x y tk a b c d e f g h i)) (F.args_zip_next_1 _))))
theorem pyNext_zipD_end {prog : Program} {w : World} {A : Around} {E : Value → Shared → Prop} {s : Shared} {z TI TO i1 i2 : Addr} {f1 f2 : List Addr} {n1 n2 k1 k2 : Nat} {P1 P2 : Nat → Value → Prop} {S1 S2 : Nat → Heap → Prop} {a b : Value} {Q : Option Value → Shared → Prop}
    (d1 : Draws prog w A.in1 i1 f1 n1 P1 S1) (d2 : Draws prog w A.in1 i2 f2 n2 P2 S2)
    (TIz : TI ≠ z) (TOz : TO ≠ z) (i1z : i1 ≠ z) (i2z : i2 ≠ z) (TOi1 : TO ≠ i1) (TOi2 : TO ≠ i2) (i12 : i1 ≠ i2) (z1 : z ∉ f1) (t1 : TO ∉ f1) (o1 : i2 ∉ f1) (z2 : z ∉ f2) (t2 : TO ∉ f2) (o2 : i1 ∉ f2)
    (hz : IsZip s.heap z TI TO Value.none) (hTI : IsPair s.heap TI (Value.ref i1) (Value.ref i2)) (hTO : IsPair s.heap TO a b)
    (h1 : S1 k1 s.heap) (h2 : S2 k2 s.heap) (hk : (∀ (s : Shared) (Q : Value → Shared → Prop) (E : Value → Shared → Prop), S1 k1 s.heap → (∀ (h' : Heap) (e : Addr), Heap.ExtBut i1 s.heap h' → (∃ o, h'.get? e = some o ∧ o.cls = Value.type "StopIteration") → E (Value.ref e) { heap := h', gens := s.gens, drawn := s.drawn, toks := s.toks, os := s.os }) → wpAny (model prog w) A.in1 (Builtin.SmallTypes.nextOf (Value.ref i1)) Q E s) ∨ (k1 < n1 ∧ (∀ (s : Shared) (Q : Value → Shared → Prop) (E : Value → Shared → Prop), S2 k2 s.heap → (∀ (h' : Heap) (e : Addr), Heap.ExtBut i2 s.heap h' → (∃ o, h'.get? e = some o ∧ o.cls = Value.type "StopIteration") → E (Value.ref e) { heap := h', gens := s.gens, drawn := s.drawn, toks := s.toks, os := s.os }) → wpAny (model prog w) A.in1 (Builtin.SmallTypes.nextOf (Value.ref i2)) Q E s)))
    (hQ : ∀ (h' : Heap) (tk : Nat), (∀ (c : Addr) (o : Obj), c ≠ z → c ≠ TO → c ≠ i1 → c ≠ i2 → s.heap.get? c = some o → h'.get? c = some o) → Q none { heap := h', gens := s.gens, drawn := s.drawn, toks := tk, os := s.os }) :
    wpAny (model prog w) A (pyNext (Value.ref z)) Q E s :=
  wpAny_bind (wpAny_attempt (wpAny_callSpecial?_slot (T := "zip") ⟨_, hz, rfl⟩ F.slot_zip_next (wpAny_call_entry F.slot_zip_next ⟨_, hz, rfl⟩ F.entry_zip_next
    (zipD_next_end d1 d2 TIz TOz i1z i2z TOi1 TOi2 i12 z1 t1 o1 z2 t2 o2 hz hTI hTO h1 h2 hk fun h' e tk old hs => wpAny_bind (wpAny_isInstance (T := "StopIteration") hs isSubtype_stop (wpAny_pure (hQ h' tk old)))) (F.args_zip_next_1 _))))
def ItzS (K : PySem.W.Frag) (x : Str) (b : Addr) : It where
  go i H := ∃ ys y, i < x.cps.size ∧ SqL K H b ys ∧ ys[i]? = some y
  yld i H v H' := ∃ T c y, v = .ref T ∧ H T = none ∧ H' = upd H T (.tup [.str ⟨#[c]⟩, y]) ∧ x.cps[i]? = some c ∧ ∀ ys, SqL K H b ys → ys[i]? = some y
  stop i H := (∃ ys, SqL K H b ys) ∧ (x.cps.size ≤ i ∨ ∃ ys, SqL K H b ys ∧ ys.length ≤ i)
theorem drawsStr {prog : Program} {w : World} {A : Around} (hh : A.handled = none) (it : Addr) (x : Str) (t : Tok) : Draws prog w A it [it] x.cps.size (fun i v => ∃ c u, x.cps[i]? = some c ∧ v = Value.str ⟨#[c]⟩ u) fun i h => h.IsStrIter it (strIterType x) x t i := by
  unfold strIterType
  by_cases hx : (x.cps.all fun x => decide (x < 128)) = true
  · rw [if_pos hx]; exact Draws.strAscii hh it x t
  · rw [if_neg hx]; exact Draws.strWide hh it x t
theorem strIter_at {h h' : Heap} {a : Addr} {ty : String} {x : Str} {t : Tok} {i : Nat} (hi : h.IsStrIter a ty x t i) (k : ∀ o, h.get? a = some o → h'.get? a = some o) : h'.IsStrIter a ty x t i := by
  obtain ⟨o, h1, h2, h3⟩ := hi
  exact ⟨o, k o h1, h2, h3⟩
theorem turn_zipS {P : Program} {w : World} {K : PySem.W.Frag} {elts : List Expr} {kk : Nat} {tpos : Pos} {x : Str} {t : Tok} {b z TI TO i1 i2 : Addr} (D : ZipApart z TI TO i1 i2 b b) :
    Turn P w K (Expr.Tuple elts kk tpos) (ItzS K x b) [z, TI, TO, i1, i2] z fun i h => IsZip h z TI TO Value.none ∧ IsPair h TI (Value.ref i1) (Value.ref i2) ∧ (∃ x y, IsPair h TO x y) ∧ h.IsStrIter i1 (strIterType x) x t i ∧ h.IsListIter i2 b i where
  mem := by simp
  obj := fun i h st c hc => by
    obtain ⟨hz, hTI, ⟨x0, y0, hTO⟩, ⟨o1, h1, _, e1⟩, ⟨o2, h2, _, e2⟩⟩ := st
    simp only [List.mem_cons, List.not_mem_nil, or_false] at hc
    rcases hc with rfl | rfl | rfl | rfl | rfl
    · exact ⟨_, hz, fun v q => nomatch q⟩
    · exact ⟨_, hTI, fun v q => nomatch q⟩
    · exact ⟨_, hTO, fun v q => nomatch q⟩
    · exact ⟨_, h1, fun v q => by rw [e1] at q; cases q⟩
    · exact ⟨_, h2, fun v q => by rw [e2] at q; cases q⟩
  keep := fun i h h' st k => by
    obtain ⟨hz, hTI, ⟨x0, y0, hTO⟩, h1, h2⟩ := st
    exact ⟨k _ (by simp) _ hz, k _ (by simp) _ hTI, ⟨_, _, k _ (by simp) _ hTO⟩, strIter_at h1 fun o q => k _ (by simp) _ q, Heap.IsListIter.at h2 fun o q => k _ (by simp) _ q⟩
  item := fun X hP hw hK hc i pins s σ H E I hf st hg => by
    subst hP hw hK
    obtain ⟨hz, hTI, ⟨x0, y0, hTO⟩, h1, h2⟩ := st
    obtain ⟨ys, y, hi, hqy, hy⟩ := hg
    obtain ⟨its, rv, p, hsz⟩ := I.list hqy
    obtain ⟨u, hu, ru⟩ := Vals.get rv hy
    have hh : X.A.in1.handled = none := (I.ok).hd hc
    have hzl := Heap.lt_size hz
    have d2 := Draws.list (prog := X.prog) (w := X.w) (A := X.A.in1) hh i2 b D.l2i2 its.toArray
    have hu' : its.toArray[i]? = some u := by rw [List.getElem?_toArray]; exact hu
    have li : i < its.toArray.size := by
      rcases Nat.lt_or_ge i its.toArray.size with q | q
      · exact q
      · rw [Array.getElem?_eq_none q] at hu'; cases hu'
    refine pyNext_zipD_item (drawsStr hh i1 x t) d2 D.TIz D.TOz D.i1z D.i2z D.TOi1 D.TOi2 D.i12 (by simpa using Ne.symm D.i1z) (by simpa using D.TOi1) (by simpa using Ne.symm D.i12) (by simp; exact ⟨Ne.symm D.i2z, Ne.symm D.l2z⟩) (by simp; exact ⟨D.TOi2, Ne.symm D.l2TO⟩) (by simp; exact ⟨D.i12, Ne.symm D.l2i1⟩) hz hTI hTO h1 ⟨h2, PlainL.isList p⟩ hi li ?_
    intro h' vx vy tk px py z' TO' g1 g2 hT hs' hk
    obtain ⟨c, t', hc1, rfl⟩ := px
    have ev : vy = u := by
      have : its.toArray[i]? = some vy := py
      rw [hu'] at this
      exact (Option.some.inj this).symm
    subst ev
    refine ⟨_, rfl, wpAny_letOwnedTupleGo_zip z' fun h'' z'' sb => ?_⟩
    have hT2 : IsPair h'' s.heap.objs.size _ _ := sb.extBut _ _ (Nat.ne_of_gt hzl) hT
    have new : ObjOk X.prog X.w (upd H s.heap.objs.size (.tup [.str ⟨#[c]⟩, y])) h'' s.heap.objs.size (.tup [.str ⟨#[c]⟩, y]) := ⟨by show 2 ≤ sizeLine; rw [sizeLine_eq]; decide, [_, _], ⟨Paired.cons ⟨t', rfl⟩ (Paired.cons ru Paired.nil), _, hT2, rfl, 0, rfl⟩⟩
    have I1 := I.turnedNew (t' := tk) (h' := h'') (ch := [z, TI, TO, i1, i2]) (fun c o hb q => sb.extBut _ _ (fun q' => hb (by simp [q'])) (hk c o (fun q' => hb (by simp [q'])) (fun q' => hb (by simp [q'])) (fun q' => hb (by simp [q'])) (fun q' => hb (by simp [q'])) q)) hf (Nat.le_refl _) new
    refine ⟨.ref s.heap.objs.size, _, I1, rfl, ⟨_, c, y, rfl, I.hok.fresh (Nat.le_refl _), rfl, hc1, fun l hl => by rw [I.list_inj hl hqy]; exact hy⟩, ⟨z'', ?_, ⟨_, _, sb.extBut _ _ D.TOz TO'⟩, strIter_at g1 fun o q => sb.extBut _ _ D.i1z q, Heap.IsListIter.at g2.1 fun o q => sb.extBut _ _ D.i2z q⟩, fun c' hcm => ?_⟩
    · exact sb.extBut _ _ D.TIz (hk _ _ D.TIz D.TITO D.TIi1 D.TIi2 hTI)
    · have hlt : c' < s.heap.objs.size := by
        obtain ⟨o1, k1, _⟩ := h1
        obtain ⟨o2, k2, _⟩ := h2
        simp only [List.mem_cons, List.not_mem_nil, or_false] at hcm
        rcases hcm with rfl | rfl | rfl | rfl | rfl
        · exact hzl
        · exact Heap.lt_size hTI
        · exact Heap.lt_size hTO
        · exact Heap.lt_size k1
        · exact Heap.lt_size k2
      rw [upd_ne (Nat.ne_of_lt hlt)]
      exact (hf c' hcm).1
  done := fun X hP hw hK hc i pins s σ H E I hf st hg => by
    subst hP hw hK
    obtain ⟨hz, hTI, ⟨x0, y0, hTO⟩, h1, h2⟩ := st
    obtain ⟨⟨ys, hqy⟩, hstop⟩ := hg
    obtain ⟨its, rv, p, hsz⟩ := I.list hqy
    have hh : X.A.in1.handled = none := (I.ok).hd hc
    have d2 := Draws.list (prog := X.prog) (w := X.w) (A := X.A.in1) hh i2 b D.l2i2 its.toArray
    have en1 : x.cps.size ≤ i → ∀ (s : Shared) (Q : Value → Shared → Prop) (E : Value → Shared → Prop), s.heap.IsStrIter i1 (strIterType x) x t i → (∀ (h' : Heap) (e : Addr), Heap.ExtBut i1 s.heap h' → (∃ o, h'.get? e = some o ∧ o.cls = Value.type "StopIteration") → E (Value.ref e) { heap := h', gens := s.gens, drawn := s.drawn, toks := s.toks, os := s.os }) → wpAny (model X.prog X.w) X.A.in1 (Builtin.SmallTypes.nextOf (Value.ref i1)) Q E s := fun hi s Q E hs q => by
      have hn : x.cps[i]? = none := Array.getElem?_eq_none hi
      unfold strIterType at hs
      by_cases hx : (x.cps.all fun x => decide (x < 128)) = true
      · rw [if_pos hx] at hs; exact wpAny_nextOf_ascii_end hh hs hn q
      · rw [if_neg hx] at hs; exact wpAny_nextOf_wide_end hh hs hn q
    have en2 : its.toArray.size ≤ i → ∀ (s : Shared) (Q : Value → Shared → Prop) (E : Value → Shared → Prop), (s.heap.IsListIter i2 b i ∧ s.heap.IsList b its.toArray) → (∀ (h' : Heap) (e : Addr), Heap.ExtBut i2 s.heap h' → (∃ o, h'.get? e = some o ∧ o.cls = Value.type "StopIteration") → E (Value.ref e) { heap := h', gens := s.gens, drawn := s.drawn, toks := s.toks, os := s.os }) → wpAny (model X.prog X.w) X.A.in1 (Builtin.SmallTypes.nextOf (Value.ref i2)) Q E s := fun hi s Q E hs q =>
      wpAny_nextOf_list_end hh hs.1 hs.2 (Array.getElem?_eq_none hi) q
    have hk : x.cps.size ≤ i ∨ (i < x.cps.size ∧ its.toArray.size ≤ i) := by
      rcases Nat.lt_or_ge i x.cps.size with q | q
      · refine .inr ⟨q, ?_⟩
        rcases hstop with e | ⟨ys', q', e⟩
        · exact absurd e (Nat.not_le.mpr q)
        · rw [I.list_inj q' hqy] at e
          rw [List.size_toArray, ← Vals.length rv]; exact e
      · exact .inl q
    refine pyNext_zipD_end (drawsStr hh i1 x t) d2 D.TIz D.TOz D.i1z D.i2z D.TOi1 D.TOi2 D.i12 (by simpa using Ne.symm D.i1z) (by simpa using D.TOi1) (by simpa using Ne.symm D.i12) (by simp; exact ⟨Ne.symm D.i2z, Ne.symm D.l2z⟩) (by simp; exact ⟨D.TOi2, Ne.symm D.l2TO⟩) (by simp; exact ⟨D.i12, Ne.symm D.l2i1⟩) hz hTI hTO h1 ⟨h2, PlainL.isList p⟩ (hk.imp (fun q => en1 q) fun q => ⟨q.1, en2 q.2⟩) fun h' tk old => ⟨rfl, ?_⟩
    exact I.turnedL (ch := [z, TI, TO, i1, i2]) (fun c o hb q => old c o (fun q' => hb (by simp [q'])) (fun q' => hb (by simp [q'])) (fun q' => hb (by simp [q'])) (fun q' => hb (by simp [q'])) q) hf
  self := fun A i s Q E st q => wpAny_pyIter_zip st.1 q
def iZipS (K : PySem.W.Frag) (ta : TA) : TI := fun σ H R => ta σ H fun vs H1 => ∃ x b ys, vs = [.str x, .ref b] ∧ SqL K H1 b ys ∧ R (ItzS K x b) H1
theorem pi_zipS {X : Cx} {e e2 : Expr} {ta : TA} {p pos tpos : Pos} {elts : List Expr} {kk : Nat} (hg : Gl X "zip") (hm : X.mg "zip" = none) (ha : PA X [e, e2] ta)
    (hs : starEach [e, e2] X.env = (false, eval e X.env) :: starEach [e2] X.env := by rfl) (hpl : ((backTo pos (starEach [e2] X.env)).any fun x => x.fst) = false := by rfl) :
    PI X (Expr.Tuple elts kk tpos) ((Expr.Name "zip" p).Call [e, e2] [] pos) (iZipS X.K ta) where
  run := fun pins s σ H R I h => by
    refine Call_ (ld_blt I hg hm boot_zip (PyProof.Rows.callWith_type1 (thn (ha.run pos pins s σ H _ I h) fun us s1 q0 => ?_) hs hpl) (by decide) (by decide)) rfl
    obtain ⟨vs, H1, I1, r1, x, b, ys, rfl, hqy, q⟩ := q0
    cases r1 with
    | cons ra rr =>
      obtain ⟨t, rfl⟩ := ra
      cases rr with
      | cons rb rn =>
        cases rb
        cases rn
        obtain ⟨its, rv, p, hz⟩ := I1.list hqy
        have bl := PlainL.lt p
        refine call_zipSL (PlainL.isList p) fun h' z1 z2 z3 z4 z5 z6 old => wpAny_pyIter_zip z1 ?_
        refine ⟨_, [_, _, _, _, _], _, _, H1, rfl, I1.kept old, turn_zipS (t := t) (x := x) (PySem.W.ktu_apart _ _ _ bl bl), ⟨z1, z2, ⟨_, _, z3⟩, z4, z5⟩, fun c hc => ?_, q⟩
        simp only [List.mem_cons, List.not_mem_nil, or_false] at hc
        have hle : s1.heap.objs.size ≤ c := by
          rcases hc with rfl | rfl | rfl | rfl | rfl
          · exact Nat.le_add_right _ _
          · exact Nat.le_add_right _ _
          · exact Nat.le_add_right _ _
          · exact Nat.le_refl _
          · exact Nat.le_add_right _ _
        exact I1.fpOk hle (I1.hok.fresh hle)
section
variable {A : Amb} {G H G' H' : Hp} {σ : L2.St} {env : Env} {P P' : Nat → As}
/-- zip(x, ys), x a text -/
theorem wi_zipS {tr : TA} {Post : Nat → (Nat → D) → Env → Prop} (h : WA A tr env fun as e => ∃ o w t es, as = [.t (.frz o (.str w)), .t t] ∧ t.data = .lst es ∧ Post (min w.length es.length) (fun i => .tup [.str (sgn (si w i)), es.getD i .non]) e) : WI A (iZipS A.c.K tr) env Post := fun G H σ P s R k => by
  refine h G H σ P s _ fun as e vs G1 H1 P1 F1 p1 r1 => ?_
  obtain ⟨o, x, t2, es, rfl, he, hp⟩ := p1
  obtain ⟨s2, st2, rp⟩ := fixA r1.sr r1.tm (ts := [.frz o (.str x), t2]) rfl
  obtain ⟨w, r', e1, rp1, w2, r2, e2, rp2, rp3⟩ := rp
  cases rp3
  subst e2 e1
  cases rp1
  rw [he] at rp2
  obtain ⟨p', ws', rfl, hp3, hr'⟩ := rp2
  refine ⟨x, p', ws', rfl, SqL.of (s2.le _ _ hp3), k _ _ _ _ _ _ _ hp s2 (r1.st.trans st2) fun G' H' σ' env' P' s' ex i => ?_⟩
  have hq' : SqL A.c.K H' p' ws' := SqL.of (s'.le _ _ (ex _ _ hp3))
  have hl' := reps_len hr'
  have hxl : x.length = x.cps.size := rfl
  refine ⟨fun hi => ⟨⟨ws', hq'⟩, ?_⟩, fun hi => ?_⟩
  · by_cases q : x.cps.size ≤ i
    · exact .inl q
    · exact .inr ⟨ws', hq', by omega⟩
  have hi2 : i < es.length := by omega
  obtain ⟨w', hw', rw'⟩ := reps_at hr' (j := i) (d := es.getD i .non) (by rw [List.getD_eq_getElem?_getD, List.getElem?_eq_getElem hi2]; rfl)
  refine ⟨⟨ws', w', by omega, hq', hw'⟩, fun v H2 y => ?_⟩
  obtain ⟨T, c, y', rfl, hT, rfl, hc, y3⟩ := y
  have e3 := y3 ws' hq'
  rw [hw'] at e3
  cases e3
  have ec : si x i = c := by
    unfold si
    rw [List.getD_eq_getElem?_getD, Array.getElem?_toList, hc]; rfl
  exact yield_tup (ds := [.str (sgn (si x i)), es.getD i .non]) (vs := [.str ⟨#[c]⟩, w']) s' ⟨.str ⟨#[c]⟩, [w'], rfl, by rw [ec]; rfl, w', [], rfl, rw'.mono ex, rfl⟩ hT
theorem wi_zipSF {tr : TA} {Post : Nat → (Nat → D) → Env → Prop} (h : WA A tr env fun as e => ∃ o w t m f, as = [.t (.frz o (.str w)), .t t] ∧ t.data = .lst ((List.range m).map f) ∧ Post (min w.length m) (fun i => .tup [.str (sgn (si w i)), f i]) e) : WI A (iZipS A.c.K tr) env Post :=
  wi_cg (wi_zipS (wa_imp h fun as e ⟨o, w, t, m, f, e0, e1, p⟩ => ⟨o, w, t, _, e0, e1, fun i => .tup [.str (sgn (si w i)), f i], fun i hi => by show D.tup [_, ((List.range m).map f).getD i .non] = D.tup [_, f i]; rw [getD_map (by simp at hi; omega)], by rw [List.length_map, List.length_range]; exact p⟩))
end
/-! ### enumerate(text) -/
def IteS (x : Str) : It where
  go i _ := i < x.cps.size
  yld i H v H' := ∃ T c, v = .ref T ∧ H T = none ∧ H' = upd H T (.tup [.int i, .str ⟨#[c]⟩]) ∧ x.cps[i]? = some c
  stop i _ := x.cps.size ≤ i
theorem turn_enumS {P : Program} {w : World} {K : PySem.W.Frag} {elts : List Expr} {kk : Nat} {tpos : Pos} {x : Str} {t : Tok} {e it : Addr} (ne : e ≠ it) :
    Turn P w K (Expr.Tuple elts kk tpos) (IteS x) [e, it] e fun i h => (∃ old, IsEnum h e it (i : Int) old) ∧ h.IsStrIter it (strIterType x) x t i ∧ i ≤ x.cps.size where
  mem := by simp
  obj := fun i h st c hc => by
    obtain ⟨⟨old, he⟩, ⟨o1, h1, _, e1⟩, _⟩ := st
    simp only [List.mem_cons, List.not_mem_nil, or_false] at hc
    rcases hc with rfl | rfl
    · exact ⟨_, he, fun v q => nomatch q⟩
    · exact ⟨_, h1, fun v q => by rw [e1] at q; cases q⟩
  keep := fun i h h' st k => by
    obtain ⟨⟨old, he⟩, h1, hi⟩ := st
    exact ⟨⟨old, k _ (by simp) _ he⟩, strIter_at h1 fun o q => k _ (by simp) _ q, hi⟩
  item := fun X hP hw hK hc i pins s σ H E I hf st hg => by
    subst hP hw hK
    obtain ⟨⟨old, he⟩, h1, hi⟩ := st
    have hi : i < x.cps.size := hg
    have hh : X.A.in1.handled = none := (I.ok).hd hc
    have hel := Heap.lt_size he
    refine wpAny_pyNext_enum_itemD (drawsStr hh it x t) he h1 hi ne (by simpa using ne) fun v h' tk px ho h1' hT hsz hk => ⟨_, rfl, wpAny_letOwnedTupleGo_enum ho fun h'' he' sb => ?_⟩
    obtain ⟨c, t', hc1, rfl⟩ := px
    have hT2 : h''.get? s.heap.objs.size = _ := sb.extBut _ _ (Nat.ne_of_gt hel) hT
    have new : ObjOk X.prog X.w (upd H s.heap.objs.size (.tup [.int i, .str ⟨#[c]⟩])) h'' s.heap.objs.size (.tup [.int i, .str ⟨#[c]⟩]) := ⟨by show 2 ≤ sizeLine; rw [sizeLine_eq]; decide, [_, _], ⟨Paired.cons ⟨_, rfl⟩ (Paired.cons ⟨t', rfl⟩ Paired.nil), _, hT2, rfl, 0, rfl⟩⟩
    have I1 := I.turnedNew (t' := tk + 1) (h' := h'') (ch := [e, it]) (fun c o hb q => sb.extBut _ _ (fun q' => hb (by simp [q'])) (hk c o (fun q' => hb (by simp [q'])) (fun q' => hb (by simp [q'])) q)) hf (Nat.le_refl _) new
    refine ⟨.ref s.heap.objs.size, _, I1, rfl, ⟨_, c, rfl, I.hok.fresh (Nat.le_refl _), rfl, hc1⟩, ⟨⟨_, he'⟩, strIter_at h1' fun o q => sb.extBut _ _ (Ne.symm ne) q, hi⟩, fun c' hcm => ?_⟩
    have hlt : c' < s.heap.objs.size := by
      obtain ⟨o1, k1, _⟩ := h1
      simp only [List.mem_cons, List.not_mem_nil, or_false] at hcm
      rcases hcm with rfl | rfl
      · exact hel
      · exact Heap.lt_size k1
    rw [upd_ne (Nat.ne_of_lt hlt)]
    exact (hf c' hcm).1
  done := fun X hP hw hK hc i pins s σ H E I hf st hg => by
    subst hP hw hK
    obtain ⟨⟨old, he⟩, h1, hi⟩ := st
    have e1 : i = x.cps.size := Nat.le_antisymm hi hg
    have hh : X.A.in1.handled = none := (I.ok).hd hc
    rw [e1] at h1
    refine wpAny_pyNext_enum_endD (drawsStr hh it x t) he h1 fun h' ex => ⟨rfl, I.turnedL (ch := [e, it]) (fun c o hb q => ex c o (fun q' => hb (by simp [q'])) q) hf⟩
  self := fun A i s Q E st q => by
    obtain ⟨⟨old, he⟩, _⟩ := st
    exact wpAny_pyIter_enum he q
def iEnumS (ta : TA) : TI := fun σ H R => ta σ H fun vs H1 => ∃ x, vs = [.str x] ∧ R (IteS x) H1
theorem pi_enumS {X : Cx} {e : Expr} {ta : TA} {p pos tpos : Pos} {elts : List Expr} {kk : Nat} (hg : Gl X "enumerate") (hm : X.mg "enumerate" = none) (ha : PA X [e] ta)
    (hs : starEach [e] X.env = [(false, eval e X.env)] := by rfl) :
    PI X (Expr.Tuple elts kk tpos) ((Expr.Name "enumerate" p).Call [e] [] pos) (iEnumS ta) where
  run := fun pins s σ H R I h => by
    refine Call_ (ld_blt I hg hm boot_enumerate (PyProof.Rows.callWith_type1 (thn (ha.run pos pins s σ H _ I h) fun us s1 q0 => ?_) hs rfl) (by decide) (by decide)) rfl
    obtain ⟨vs, H1, I1, r1, x, rfl, q⟩ := q0
    cases r1 with
    | cons ra rr =>
      obtain ⟨t, rfl⟩ := ra
      cases rr
      refine call_enumerate_str fun h' z1 z4 z6 old => wpAny_pyIter_enum z1 ?_
      refine ⟨_, [_, _], _, _, H1, rfl, I1.kept old, turn_enumS (t := t) (x := x) (Nat.succ_ne_self _), ⟨⟨_, z1⟩, z4, Nat.zero_le _⟩, fun c hc => ?_, q⟩
      simp only [List.mem_cons, List.not_mem_nil, or_false] at hc
      have hle : s1.heap.objs.size ≤ c := by
        rcases hc with rfl | rfl
        · exact Nat.le_add_right _ _
        · exact Nat.le_refl _
      exact I1.fpOk hle (I1.hok.fresh hle)
section
variable {A : Amb} {G H G' H' : Hp} {σ : L2.St} {env : Env} {P P' : Nat → As}
theorem wi_enumS {tr : TA} {Post : Nat → (Nat → D) → Env → Prop} (h : WA A tr env fun as e => ∃ o w, as = [.t (.frz o (.str w))] ∧ Post w.length (fun i => .tup [.int i, .str (sgn (si w i))]) e) : WI A (iEnumS tr) env Post := fun G H σ P s R k => by
  refine h G H σ P s _ fun as e vs G1 H1 P1 F1 p1 r1 => ?_
  obtain ⟨o, x, rfl, hp⟩ := p1
  obtain ⟨v, F2, rfl, _, tr⟩ := r1.tm.tr.one
  refine ⟨x, by rw [show v = .str x from tr.1], k _ _ _ _ _ _ _ hp r1.sr r1.drop fun G' H' σ' env' P' s' ex i => ⟨fun hi => Nat.le_of_eq hi.symm, fun hi => ⟨hi, fun v H2 y => ?_⟩⟩⟩
  obtain ⟨T, c, rfl, hT, rfl, hc⟩ := y
  have ec : si x i = c := by
    unfold si
    rw [List.getD_eq_getElem?_getD, Array.getElem?_toList, hc]; rfl
  exact yield_tup (ds := [.int (i : Nat), .str (sgn (si x i))]) (vs := [.int (i : Nat), .str ⟨#[c]⟩]) s' ⟨.int (i : Nat), [.str ⟨#[c]⟩], rfl, rfl, .str ⟨#[c]⟩, [], rfl, by rw [ec]; rfl, rfl⟩ hT
end
end TL
/-! TC: a store at a called index. -/
namespace TL
open PySem PySem.Spec PyProof.Rows L2
section
variable {A : Amb} {G H G' H' : Hp} {σ : L2.St} {env : Env} {P P' : Nat → As} {X X' : As} {v x y z : V} {t t1 t2 : T} {vs : List V} {as : List Ar} {ta tb te : TE} {r : R2} {ts : List T}
theorem call_coreK {ts : List T} (s : SR A G H σ env P) (m : TmpA A G H σ P as X vs) (ha : argT env as = some ts) (nd : (slots as).Nodup) :
    ts.length = vs.length ∧ ∃ Pc : Nat → As, SL A.c G H (vs.map some) (ts.map some) Pc ∧ ∀ ts' v t G2 H2 Pc' F3, SL A.c G2 H2 (vs.map some) ts' Pc' → Stp G H (uP Pc) G2 H2 (fun a => uP Pc' a ∨ F3 a) → TR A.c G2 H2 t F3 v →
      (∀ a, F3 a → (∀ k i : Nat, as[k]? = some (Ar.s i) → ¬ Pc' k a) ∧ G2 a = none ∧ H2 a ≠ none) → ∃ P2, Res A G H (fun a => uP P a ∨ X a) σ t (backT env as ts') v G2 H2 P2 F3 ∧ ∀ j a, (∀ k : Nat, as[k]? ≠ some (Ar.s j)) → P j a → P2 j a ∧ ∀ o, H a = some o → H2 a = some o := by
  obtain ⟨hl, Pc, a1, a2, a3, a4⟩ := args_own (c := A.c) s.dis s.slot as ts X vs ha m.tr nd fun a z => (m.fd a z).1
  have pc : ∀ a, uP Pc a → uP P a ∨ X a := fun a ⟨k, z⟩ => by
    rcases a3 k a z with w | ⟨i, _, w⟩
    · exact .inr w
    · exact .inl ⟨i, w⟩
  have pcown : ∀ a, uP Pc a → G a = none ∧ H a ≠ none := fun a z => by
    rcases pc a z with ⟨i, w⟩ | w
    · exact s.own i a w
    · exact (m.fd a w).2
  refine ⟨hl, Pc, ⟨by simp [hl], s.le, fun k t e => ?_, a2, fun k a z => pcown a ⟨k, z⟩⟩, fun ts' v t G2 H2 Pc' F3 s2 st tr fd3 => ?_⟩
  · rw [List.getElem?_map] at e
    cases q : ts[k]? with
    | none => rw [q] at e; cases e
    | some u =>
      rw [q] at e
      have e' : u = t := Option.some.inj (Option.some.inj e)
      subst e'
      obtain ⟨w, hw, tw⟩ := a1 k u q
      exact ⟨w, by rw [List.getElem?_map, hw]; rfl, tw⟩
  -- cells of names that were not handed over
  have stay : ∀ j a, (∀ k : Nat, as[k]? ≠ some (Ar.s j)) → P j a → ¬ uP Pc a := fun j a nj z ⟨k, y⟩ => by
    rcases a3 k a y with w | ⟨i, hi, w⟩
    · exact (m.fd a w).1 ⟨j, z⟩
    · have e := s.dis _ _ a z w
      subst e
      exact nj_of hi nj
  have stayG : ∀ j a, (∀ k : Nat, as[k]? ≠ some (Ar.s j)) → P j a → G2 a = none ∧ H2 a ≠ none ∧ ∀ o, H a = some o → H2 a = some o := fun j a nj z => by
    have n1 := stay j a nj z
    have o1 := s.own j a z
    refine ⟨?_, ?_, fun o e => st.h a o e n1⟩
    · cases q : G2 a with
      | none => rfl
      | some o =>
        rcases st.m a (by rw [q]; exact fun z => nomatch z) with w | w | w
        · exact absurd o1.1 w
        · exact absurd w n1
        · exact absurd w o1.2
    · cases q : H a with
      | none => exact absurd q o1.2
      | some o => rw [st.h a o q n1]; exact fun z => nomatch z
  let P2 : Nat → As := fun j a => (∃ k : Nat, as[k]? = some (Ar.s j) ∧ Pc' k a) ∨ ((∀ k : Nat, as[k]? ≠ some (Ar.s j)) ∧ P j a)
  have old : ∀ j a, (∀ k : Nat, as[k]? ≠ some (Ar.s j)) → P j a → ¬ (uP Pc' a ∨ F3 a) := fun j a nj z y => by
    rcases st.n a y with w | w
    · exact stay j a nj z w
    · exact (s.own j a z).2 w
  have st2 : Stp G H (fun a => uP P a ∨ X a) G2 H2 (fun a => uP P2 a ∨ F3 a) := st.wk pc fun a z => by
    rcases z with ⟨j, ⟨k, _, y⟩ | ⟨_, y⟩⟩ | z
    · exact .inl (.inl ⟨k, y⟩)
    · exact .inr (.inl (.inl ⟨j, y⟩))
    · exact .inl (.inr z)
  have stb : Stp A.G A.H A.U G2 H2 (fun a => uP P2 a ∨ F3 a) := by
    have b : Stp A.G A.H A.U G H (fun a => uP P a ∨ X a) := ⟨s.base.g, s.base.h, fun a z => by
      rcases z with z | z
      · exact s.base.n a z
      · exact m.bs a z, s.base.m⟩
    exact b.trans st2
  refine ⟨P2, ⟨⟨⟨by rw [backT_len]; exact s.len, s2.le, fun j u e => ?_, fun i j a h1 h2 => ?_, fun j a h1 => ?_⟩, stb.wk (fun _ h => h) fun a z => .inl (.inl z), s.kp⟩, st2, tr, fun a z => ⟨fun y => ?_, (fd3 a z).2⟩, fun a z => stb.n a (.inr z)⟩, fun j a nj z => ⟨.inr ⟨nj, z⟩, fun o e => (stayG j a nj z).2.2 o e⟩⟩
  · rcases backT_at as env ts' j u nd e with ⟨k, k1, k2⟩ | ⟨k1, k2⟩
    · obtain ⟨w, hw, tw⟩ := s2.slot k u k2
      obtain ⟨w2, hw2, hs⟩ := a4 k j k1
      rw [List.getElem?_map, hw2] at hw
      have ew : w2 = w := Option.some.inj (Option.some.inj hw)
      subst ew
      exact ⟨_, hs, tw.mono (Ex.refl _) (fun a z => .inl ⟨k, k1, z⟩) (fun _ _ _ e => e) fun a z => (s2.own k a z).1⟩
    · obtain ⟨w, hw, tw⟩ := s.slot j u k2
      exact ⟨w, hw, tw.mono st.g (fun a z => .inr ⟨k1, z⟩) (fun a o z => (stayG j a k1 z).2.2 o) fun a z => (stayG j a k1 z).1⟩
  · rcases h1 with ⟨k, k1, k2⟩ | ⟨k1, k2⟩ <;> rcases h2 with ⟨l, l1, l2⟩ | ⟨l1, l2⟩
    · have e := s2.dis _ _ a k2 l2
      subst e
      rw [k1] at l1
      cases l1
      rfl
    · exact absurd (.inl ⟨k, k2⟩) (old j a l1 l2)
    · exact absurd (.inl ⟨l, l2⟩) (old i a k1 k2)
    · exact s.dis _ _ a k2 l2
  · rcases h1 with ⟨k, _, k2⟩ | ⟨k1, k2⟩
    · exact s2.own k a k2
    · exact ⟨(stayG j a k1 k2).1, (stayG j a k1 k2).2.1⟩
  · obtain ⟨j, ⟨k, k1, k2⟩ | ⟨k1, k2⟩⟩ := y
    · exact (fd3 a z).1 k j k1 k2
    · exact old j a k1 k2 (.inr z)
where nj_of : ∀ {as : List Ar} {j : Nat}, j ∈ slots as → (∀ k : Nat, as[k]? ≠ some (Ar.s j)) → False
  | .t _ :: r, j, h, n => nj_of (as := r) h fun k => n (k + 1)
  | .s i :: r, j, h, n => by
    rcases List.mem_cons.mp h with e | e
    · subst e
      exact n 0 rfl
    · exact nj_of (as := r) e fun k => n (k + 1)

/-- a def asked with one's own box and a number of a fixed tuple: what else is one's own stays as it is -/
theorem callK (s : SR A G H σ env P) {b m n : Nat} {tb : T} {om : Option V} {ds : List D} {i k : Int} {Sf : FS} {E : XK} (hb : env[b]? = some (some tb)) (hm : env[m]? = some (some (.frz om (.tup ds)))) (hi : atI ds i = some (.int k)) (hn : n ≠ b) (R : Int → T → Prop)
    (hS : ∀ Post : FO → Prop, (∀ r t1, R r t1 → Post (.ret (I r) [some t1, some (I k)])) → Sf [tb, I k] Post) (Q : V → Hp → Prop)
    (kq : ∀ r t1 G' H' P', R r t1 → SR A G' H' σ (env.set b (some t1)) P' → Stp G H (uP P) G' H' (uP P') → (∀ a, P n a → P' n a ∧ ∀ o, H a = some o → H' a = some o) → Q (.int r) H') :
    tCall (spOf A.c 2 Sf) [] E (tCons (tVar b) (tCons (tOp (rIxA A.c.K) (tVar m) (tC (.int i))) tNil)) σ H Q := by
  obtain ⟨vb, hvb, trb⟩ := s.slot b _ hb
  obtain ⟨vm, hvm, ⟨p, ws, e0, hG, rp⟩, _⟩ := s.slot m _ hm
  subst e0
  obtain ⟨j, hj, ej⟩ := atI_eq (ys := ws) hi (reps_len rp)
  obtain ⟨w, hw, rw_⟩ := reps_at rp hj
  have ew : w = .int k := rw_
  subst ew
  refine ⟨vb, hvb, _, hvm, .inl (.inr ⟨p, ws, i, .int k, rfl, rfl, SqT.of (s.le _ _ hG), by rw [ej, hw], ?_⟩)⟩
  have tm : TmpA A G H σ P [.s b, .t (I k)] noF [vb, .int k] := ⟨⟨vb, _, rfl, hvb, .int k, [], noF, noF, rfl, fun _ z => z, fun _ z => z.elim, ⟨rfl, fun _ z => nomatch z⟩, rfl⟩, fun _ z => z.elim, fun _ z => z.elim⟩
  obtain ⟨hl, Pc, sl, co⟩ := call_coreK s tm (ts := [tb, I k]) (by
    show (match env[b]? with
      | some (some t) => (argT env [.t (I k)]).map (t :: ·)
      | _ => none) = _
    rw [hb]; rfl) (by show [b].Nodup; simp)
  refine ⟨[tb, I k], G, Pc, fun o => ∃ r t1, R r t1 ∧ o = .ret (I r) [some t1, some (I k)], rfl, sl, hS _ fun r t1 h => ⟨r, t1, h, rfl⟩, fun t ts' v G2 H2 P2 F2 hp s2 st tr fd => ?_, fun k fs ts' hp => ?_⟩
  · obtain ⟨r, t1, hr, e⟩ := hp
    cases e
    have ev : v = .int r := tr.1
    subst ev
    obtain ⟨P3, r3, keep⟩ := co _ _ _ G2 H2 P2 F2 s2 st tr fun a z => ⟨fun k i _ y => (fd a z).1 ⟨k, y⟩, (fd a z).2⟩
    refine kq r t1 G2 H2 P3 hr r3.sr (r3.st.wk (fun a z => z.elim id fun z => z.elim) fun a z => .inl (.inl z)) fun a z => keep n a (fun q e => ?_) z
    match q, e with
    | 0, e => exact hn (by cases e; rfl)
    | 1, e => cases e
    | q + 2, e => cases e
  · obtain ⟨r, t1, _, e⟩ := hp
    cases e
/-- rows[f(box, ..)][f(box, ..)] = v -/
theorem wg_sub2C {W : Nat → Prop} {n b m h w : Nat} {tb : T} {om : Option V} {ds : List D} {i1 i2 k1 k2 v : Int} {Sf : FS} {E1 E2 : XK} {f : Gr} {Post : Env → Prop} {R1 : Int → T → Prop} {R2 : Int → T → Int → T → Prop}
    (he : env[n]? = some (some (gT h w f))) (hb : env[b]? = some (some tb)) (hm : env[m]? = some (some (.frz om (.tup ds)))) (a1 : atI ds i1 = some (.int k1)) (a2 : atI ds i2 = some (.int k2)) (nb : n ≠ b) (mb : m ≠ b)
    (S1 : ∀ Post : FO → Prop, (∀ r t1, R1 r t1 → Post (.ret (I r) [some t1, some (I k1)])) → Sf [tb, I k1] Post)
    (S2 : ∀ r1 t1, R1 r1 t1 → ∀ Post : FO → Prop, (∀ r t2, R2 r1 t1 r t2 → Post (.ret (I r) [some t2, some (I k2)])) → Sf [t1, I k2] Post)
    (b1 : ∀ r1 t1, R1 r1 t1 → 0 ≤ r1 ∧ r1 < h) (b2 : ∀ r1 t1 r2 t2, R2 r1 t1 r2 t2 → 0 ≤ r2 ∧ r2 < w)
    (q : ∀ (y x : Nat) t1 t2, y < h → x < w → R1 y t1 → R2 y t1 x t2 → Post (((env.set b (some t1)).set b (some t2)).set n (some (gT h w (up2 f y x v))))) :
    WG A W (gSub (tOp (rIxA A.c.K) (tVar n) (tCall (spOf A.c 2 Sf) [] E1 (tCons (tVar b) (tCons (tOp (rIxA A.c.K) (tVar m) (tC (.int i1))) tNil)))) (tCall (spOf A.c 2 Sf) [] E2 (tCons (tVar b) (tCons (tOp (rIxA A.c.K) (tVar m) (tC (.int i2))) tNil))) rSetL) (I v) env Post := fun G H σ P v0 X s mt Q kk => by
  have hv0 : v0 = .int v := mt.tr.1
  subst hv0
  obtain ⟨vn, hvn, p, vs0, F0, e0, _, _, _, _, _⟩ := s.slot n _ he
  subst e0
  refine ⟨_, hvn, callK s hb hm a1 nb R1 S1 _ fun r1 t1 G1 H1 P1 hr1 s1 st1 keep1 => ?_⟩
  obtain ⟨c1, c2⟩ := b1 r1 t1 hr1
  obtain ⟨y, rfl⟩ := Int.eq_ofNat_of_zero_le c1
  have hy : y < h := by omega
  have hl : b < env.length := (List.getElem?_eq_some_iff.mp hb).1
  have he1 : (env.set b (some t1))[n]? = some (some (gT h w f)) := by rw [List.getElem?_set_ne (Ne.symm nb)]; exact he
  have hb1 : (env.set b (some t1))[b]? = some (some t1) := List.getElem?_set_self hl
  have hm1 : (env.set b (some t1))[m]? = some (some (.frz om (.tup ds))) := by rw [List.getElem?_set_ne (Ne.symm mb)]; exact hm
  obtain ⟨p1, vs, r, hσ1, hp, hv, hr, hP, mk⟩ := slot_row s1 he1 (gT_at hy)
  rw [hvn] at hσ1
  cases hσ1
  obtain ⟨vn', hvn', p', vs', F', e', hPp, _⟩ := s1.slot n _ he1
  rw [hvn] at hvn'
  cases hvn'
  cases e'
  refine .inl (.inl ⟨_, vs, _, _, rfl, rfl, SqL.of hp, atI_nat' hv, ?_⟩)
  refine callK s1 hb1 hm1 a2 nb (R2 y t1) (S2 _ _ hr1) _ fun r2 t2 G2 H2 P2 hr2 s2 st2 keep2 => ?_
  obtain ⟨d1, d2⟩ := b2 _ _ r2 t2 hr2
  obtain ⟨x, rfl⟩ := Int.eq_ofNat_of_zero_le d1
  have hx : x < w := by omega
  have he2 : ((env.set b (some t1)).set b (some t2))[n]? = some (some (gT h w f)) := by rw [List.getElem?_set_ne (Ne.symm nb)]; exact he1
  obtain ⟨p2, vs2, r', hσ2, hp2, hv2, hr2', hP2, mk2⟩ := slot_row s2 he2 (gT_at hy)
  rw [hvn] at hσ2
  cases hσ2
  have e1 := (keep2 _ hPp).2 _ hp
  rw [hp2] at e1
  cases e1
  rw [hv] at hv2
  cases hv2
  obtain ⟨s3, st3⟩ := mk2 ((rowL f w y).set x v)
  refine ⟨r, _, (x : Int), x, rfl, rfl, hr2', by rw [List.length_map, rowL_len]; exact ixN_ok (by omega) (by omega), ?_⟩
  rw [show ((rowL f w y).map V.int).set x (.int v) = ((rowL f w y).set x v).map V.int from List.map_set.symm]
  rw [gT_up hy hx] at s3
  exact kk _ _ _ σ _ (q y x t1 t2 hy hx hr1 hr2) s3 (((st1.trans st2).trans st3).wk (fun a z => Or.inl z) fun a z => .inl z) rfl fun _ _ => rfl
end
end TL
/-! TD: lists of what is fixed, joined and turned about. -/
namespace TL
open PySem PySem.Spec PyProof.Rows L2
theorem reps_app {c : Cn} {G : Hp} : ∀ {ds es : List D} {vs ws : List V}, Reps c G ds vs → Reps c G es ws → Reps c G (ds ++ es) (vs ++ ws)
  | [], es, vs, ws, h, h2 => by cases h; exact h2
  | d :: ds, es, vs, ws, ⟨v, r, e, h1, h3⟩, h2 => by subst e; exact ⟨v, r ++ ws, rfl, h1, reps_app h3 h2⟩
theorem reps_of {c : Cn} {G : Hp} : ∀ {ds : List D} {vs : List V}, ds.length = vs.length → (∀ (k : Nat) d v, ds[k]? = some d → vs[k]? = some v → Rep c G d v) → Reps c G ds vs
  | [], vs, e, _ => by
    cases vs with
    | nil => rfl
    | cons v r => cases e
  | d :: ds, vs, e, h => by
    cases vs with
    | nil => cases e
    | cons v r => exact ⟨v, r, rfl, h 0 _ _ rfl rfl, reps_of (by simpa using e) fun k d v h1 h2 => h (k + 1) d v h1 h2⟩
theorem pick_revV {ws : List V} : pick3 ws none none (some (-1)) = (List.range ws.length).map fun k => ws.getD (ws.length - 1 - k) (.int 0) := by
  unfold pick3
  have e0 : sliceRange (sliceBounds none none (some (-1)) ws.length).1 (sliceBounds none none (some (-1)) ws.length).2.1 (sliceBounds none none (some (-1)) ws.length).2.2 = (List.range ws.length).map fun k => ws.length - 1 - k := by
    unfold sliceRange sliceBounds
    simp only [Option.getD_some, show ¬ ((-1 : Int) > 0) by decide, if_false]
    have e : (if ((ws.length : Int) - 1) > -1 then ((ws.length : Int) - 1 - -1 - -1 - 1) / (- -1) else 0).toNat = ws.length := by
      have e1 : (- -1 : Int) = 1 := by decide
      rw [e1]
      split <;> omega
    rw [e]
    refine List.map_congr_left fun k hk => ?_
    have := List.mem_range.mp hk
    omega
  rw [e0, filterMap_idx (.int 0) ws.length fun k hk => by omega]
section
variable {A : Amb} {env : Env} {te : TE} {Post : T → Env → Prop}
theorem we_revG {tl th ts : TO} (hl : ∀ σ H (Q : Option Int → Hp → Prop), Q none H → tl σ H Q) (hh : ∀ σ H (Q : Option Int → Hp → Prop), Q none H → th σ H Q) (hs : ∀ σ H (Q : Option Int → Hp → Prop), Q (some (-1)) H → ts σ H Q) (h : WE A te env fun t e => ∃ o m f, t = .frz o (.lst ((List.range m).map f)) ∧ Post (.lst (((List.range m).map fun k => f (m - 1 - k)).map F)) e) : WE A (tSl3 A.c.K te tl th ts) env Post := fun G H σ P s Q k => by
  refine h G H σ P s _ fun t e v G1 H1 P1 F1 p1 r1 => hl _ _ _ (hh _ _ _ (hs _ _ _ ?_))
  obtain ⟨o, m, f, rfl, p1⟩ := p1
  obtain ⟨p, ws, rfl, hpp, rp⟩ := r1.tm.tr.1
  have hlen := reps_len rp
  rw [List.length_map, List.length_range] at hlen
  refine ⟨p, _, rfl, SqL.of (r1.sr.le _ _ hpp), by decide, by rw [pick_revV, List.length_map, List.length_range]; exact Nat.le_refl _, fun l hl' => ?_⟩
  rw [pick_revV]
  have rp2 : Reps A.c G1 ((List.range m).map fun k => f (m - 1 - k)) ((List.range ws.length).map fun k => ws.getD (ws.length - 1 - k) (.int 0)) := reps_of (by simp; omega) fun k d v h1 h2 => by
    have hk : k < m := by
      rcases Nat.lt_or_ge k m with q | q
      · exact q
      · rw [List.getElem?_eq_none (by simp; omega)] at h1; cases h1
    rw [List.getElem?_map, List.getElem?_range hk] at h1
    rw [List.getElem?_map, List.getElem?_range (by omega)] at h2
    cases h1
    cases h2
    obtain ⟨w, hw, rw_⟩ := reps_at rp (j := m - 1 - k) (d := f (m - 1 - k)) (by rw [List.getElem?_map, List.getElem?_range (by omega)]; rfl)
    show Rep A.c G1 (f (m - 1 - k)) (ws.getD (ws.length - 1 - k) (.int 0))
    rw [show ws.length - 1 - k = m - 1 - k by omega, List.getD_eq_getElem?_getD, hw]
    exact rw_
  have r := alloc_frzs r1.sr rp2 (U0 := uP P1) (fun _ z => z) hl'
  exact k _ _ _ _ _ _ _ p1 ⟨r.sr, r1.drop.trans r.st, r.tm⟩
theorem we_revF (h : WE A te env fun t e => ∃ o m f, t = .frz o (.lst ((List.range m).map f)) ∧ Post (.lst (((List.range m).map fun k => f (m - 1 - k)).map F)) e) : WE A (tSl3 A.c.K te tNoPart tNoPart (tPart (tUn (rU fun i => .int (-i)) (tC (.int 1))))) env Post :=
  we_revG (fun _ _ _ q => q) (fun _ _ _ q => q) part_n h
theorem wr_catF {o1 o2 : Option V} {xs ys : List D} (hl : xs.length + ys.length ≤ 1000000) (q : Post (.lst ((xs ++ ys).map F)) env) : WR A (rAddA A.c.K) (.t (.frz o1 (.lst xs))) (.t (.frz o2 (.lst ys))) env Post := fun G H σ P x y X s m Q k => by
  obtain ⟨F1, F2, _, _, m1, m2⟩ := m.split2
  obtain ⟨_, _, n1⟩ := m1.one
  obtain ⟨_, _, n2⟩ := m2.one
  obtain ⟨⟨p, ws, e1, e2, e3⟩, _⟩ := n1.tr
  obtain ⟨⟨p', ws', e1', e2', e3'⟩, _⟩ := n2.tr
  subst e1 e1'
  refine .inl (.inl (.inr ⟨p, p', _, _, rfl, rfl, s.le _ _ e2, s.le _ _ e2', by rw [reps_len e3, reps_len e3', sizeLine_eq]; omega, fun l hl => ?_⟩))
  exact k _ _ _ _ _ _ _ q (alloc_frzs s (reps_app e3 e3') (U0 := fun a => uP P a ∨ X a) (fun _ z => .inl z) hl)
/-- an item of a list made on the way, by what is known of the index -/
theorem wr_ix_tmpN {o2 : Option V} {ts : List T} {i : Int} {j : Nat} {t : T} (hi : i = (j : Int)) (h : ts[j]? = some t) (q : Post t env) : WR A (rIxA A.c.K) (.t (.lst ts)) (.t (.frz o2 (.int i))) env Post := by
  subst hi
  exact wr_ix_tmp (atI_nat' h) q
theorem rgcM {n : Nat} (h : n ≤ 100000) : RgC ((n : Int) - 1) (-1) (-1) n := by
  have e : Builtin.Range.rangeSize ((n : Int) - 1) (-1) (-1) = (n : Int) := by
    unfold Builtin.Range.rangeSize
    rw [show (- -1 : Int) = 1 by decide]
    simp only [show ¬ ((-1 : Int) > 0) by decide, if_false]
    split <;> omega
  refine ⟨by decide, by decide, ?_, e⟩
  unfold Builtin.Range.small
  rw [e]
  simp only [Builtin.Range.rangeFitsLong, Bool.and_eq_true, Bool.or_eq_true, decide_eq_true_eq, beq_iff_eq, show ¬ ((-1 : Int) > 0) by decide, if_false]
  omega
end
end TL
/-! TE: what is made on the way, fixed ahead of an operation. -/
namespace TL
open PySem PySem.Spec PyProof.Rows L2
theorem gT_clean {h w : Nat} {f : Gr} : (gT h w f).clean = true := cleans_map _ fun y _ => cleans_I _
theorem gTs_clean {α : Type} {xs : List α} {a b : α → Nat} {g : α → Gr} : (T.lst (xs.map fun i => gT (a i) (b i) (g i))).clean = true := cleans_map _ fun _ _ => gT_clean
section
variable {A : Amb} {env : Env} {te : TE} {r : R2} {t1 t2 : T} {Post : T → Env → Prop}
theorem wr_frz2 (h : WR A r (.t (.frz none t1.data)) (.t (.frz none t2.data)) env Post) : WR A r (.t t1) (.t t2) env Post := fun G H σ P x y X s m Q k => by
  obtain ⟨s2, st2, w1, r', e1, rp1, w2, r'', e2, rp2, e3⟩ := fixA s m (ts := [t1, t2]) rfl
  cases e3
  cases e2
  cases e1
  refine h _ H σ P x y noF s2 ⟨⟨_, _, noF, noF, rfl, fun _ z => z, fun _ z => z.elim, ⟨rp1, fun _ z => nomatch z⟩, _, _, noF, noF, rfl, fun _ z => z, fun _ z => z.elim, ⟨rp2, fun _ z => nomatch z⟩, rfl⟩, fun _ z => z.elim, fun _ z => z.elim⟩ Q fun t e v G1 H1 P1 F1 p1 r1 => k _ _ _ _ _ _ _ p1 ⟨r1.sr, st2.trans (r1.st.wk (fun a z => z.elim id fun z => z.elim) fun a z => .inl z), r1.tm⟩
/-- two lists joined, both as what they are -/
theorem wr_catD {xs ys : List D} (e1 : t1.data = .lst xs) (e2 : t2.data = .lst ys) (hl : xs.length + ys.length ≤ 1000000) (q : Post (.lst ((xs ++ ys).map F)) env) : WR A (rAddA A.c.K) (.t t1) (.t t2) env Post :=
  wr_frz2 (by rw [e1, e2]; exact wr_catF hl q)
theorem wr_pickG {o2 : Option V} {h w : Nat} {f g : Gr} {i : Int} {k : Bool} (h1 : i = 0 ∨ i = 1) (h2 : i = 1 ↔ k = true) (q : Post (gT h w (bif k then g else f)) env) : WR A (rIxA A.c.K) (.t (.lst [gT h w f, gT h w g])) (.t (.frz o2 (.int i))) env Post := by
  cases k with
  | true =>
    have e : i = 1 := h2.mpr rfl
    exact wr_ix_tmpN (j := 1) e rfl q
  | false =>
    have e : i = 0 := h1.resolve_right (fun e => Bool.noConfusion (h2.mp e))
    exact wr_ix_tmpN (j := 0) e rfl q
theorem ws_imp {ts : TS} {nx nx' bk ct : Env → Prop} {rt : T → Env → Prop} (h : WS A ts env nx' rt bk ct) (q : ∀ e, nx' e → nx e) : WS A ts env nx rt bk ct := fun G H σ P s D n rt bk ct =>
  h G H σ P s D (fun e G' H' σ' P' p => n e G' H' σ' P' (q e p)) rt bk ct
/-- one thing known behind both ways -/
theorem ws_cut {ts u : TS} {nx bk ct : Env → Prop} {rt : T → Env → Prop} (J : Env → Env → Prop) (h : WS A ts env (J env) rt bk ct) (q : ∀ e, J env e → WS A u e nx rt bk ct) : WS A (tSeq ts u) env nx rt bk ct := ws_seq (ws_imp h q)
end
end TL
/-! TR1: exceptions: what the text's classes must have, their making, isinstance and fields of a caught one. -/
namespace TL
open PySem PySem.Spec PyProof.Rows L2
/-- the kit's look at an exception's class, with or without a dict of its own -/
theorem exc_kit {K : PySem.W.Frag} {x D : Addr} {ox : Obj} {od : Option Obj} (C : ExcC K D) : PySem.W.KitX K (.ref x) (.ref D) (fun h => PySem.W.InstAt h x ox D od) :=
  PySem.W.kitx_exc (by obtain ⟨cd, hc, _⟩ := PySem.W.any_some C.hd; rw [hc]; rfl) C.hg C.hk C.hs C.ha C.hn C.ht C.hm
/-- isinstance(e, c) of the exception that a suite holds, whatever its class -/
def rIsX (K : PySem.W.Frag) (a : Addr) (cls : Value) (d : Option Addr) : List V → Hp → VK → Prop := fun xs H Q => ∃ (D : Addr) (c : V) (cv : Value) (b : Bool), cls = .ref D ∧ ExcC K D ∧ (∀ dd, d = some dd → ∃ fs, H dd = some (.xd fs)) ∧
  xs = [.ref a, c] ∧ (∀ u, RelV c u → u = cv) ∧ PySem.W.kitOne K (.ref D) cv = some b ∧ Q (.bl b) H
theorem call_isX {X : Cx} {a : Addr} {oe : Obj} {cls : Value} {d : Option Addr} {pn : List (Addr × Obj)} (hz : Zc cls d oe) (hf : ∃ vs, oe.data = .fields vs) : CallR (X.suite a ((a, oe) :: pn)) (.builtin "isinstance") (rIsX X.K a cls d) := by
  rintro pins s σ H xs us Q I r ⟨D, c, cv, b, ec, C, hdd, rfl, hcv, e, q⟩
  subst ec
  cases r with
  | cons rx rr =>
    cases rr with
    | cons rt r3 =>
      cases r3
      cases rx
      obtain rfl := hcv _ rt
      obtain ⟨hget, _⟩ := I.pin (a, oe) (List.mem_append.mpr (.inl List.mem_cons_self))
      obtain ⟨vs, hv⟩ := hf
      have J : ∃ od, PySem.W.InstAt s.heap a oe D od := by
        cases d with
        | none => exact ⟨none, hget, hz.1, by unfold PySem.W.notCls; rw [hv] <;> rfl, by rw [hz.2]; trivial⟩
        | some dd =>
          obtain ⟨fs, hx⟩ := hdd dd rfl
          have hx : ObjOk X.prog X.w H s.heap dd (.xd fs) := I.hok dd _ hx
          obtain ⟨mA, hns, _⟩ := hx
          obtain ⟨o, ho, _⟩ := lookIn_ns hns
          exact ⟨some o, hget, hz.1, by unfold PySem.W.notCls; rw [hv] <;> rfl, by rw [hz.2]; exact ho⟩
      obtain ⟨od, J⟩ := J
      exact PySem.W.kia_one (exc_kit C) I.kIn J e (fun z => nomatch z) fun tk => ⟨.bl b, H, I.kept (t' := tk) fun _ _ z => z, rfl, q⟩

/-! ### what an exception class of the text must have -/
theorem excB_ok {K : PySem.W.Frag} {C : Addr} (h : excB K C = true) : ∃ nm q N bs bm sn sub ab col dd k0 k1 k2 k3 k5, K.lookup C = some (excClassObj nm q C N bs bm true sn sub ab col dd k0 k1 k2 k3 k5 "ValueError.__new__") ∧ PySem.HandSPX.refsVE bm = true := by
  unfold excB at h
  split at h
  · rename_i ty dd cd sl e
    have f1 := of_decide_eq_true (He.ba h).1
    have f2 := (He.ba h).2
    clear h
    subst f1
    split at f2
    · rename_i C' bm k0 k1 k2 k3 n k5 e1 e2
      have g1 := (He.ba f2).1
      have g2 := (He.ba (He.ba f2).2).1
      have g3 := (He.ba (He.ba (He.ba f2).2).2).1
      have g4 := (He.ba (He.ba (He.ba (He.ba f2).2).2).2).1
      have g5 := (He.ba (He.ba (He.ba (He.ba f2).2).2).2).2
      clear f2
      have g1 := of_decide_eq_true g1
      have g2 := of_decide_eq_true g2
      obtain ⟨l⟩ := sl
      obtain ⟨nm, bs, mro, N, q, hdc, sn, sub, ab, col, del⟩ := cd
      subst g1 g2
      dsimp only at e1 g3 g4
      have e2 : l = [k0, k1, k2, k3, some (.builtin "ValueError.__new__"), k5] := e2
      have g4 : del = false := by simpa using g4
      subst e1 e2 g3 g4
      exact ⟨nm, q, N, bs, bm, sn, sub, ab, col, dd, k0, k1, k2, k3, k5, e, g5⟩
    · cases f2
  · cases h
/-- C: an exception class of the text over ValueError -/
structure XcC (K : PySem.W.Frag) (C : Addr) : Prop where
  ox : OexC K C
  ex : ExcC K C
  xf : XfC K C
theorem xcB_ok {K : PySem.W.Frag} {C : Addr} (h : xcB K C = true) : XcC K C := by
  obtain ⟨h1, h⟩ := He.ba h
  obtain ⟨h2, h⟩ := He.ba h
  obtain ⟨h3, h⟩ := He.ba h
  obtain ⟨h4, h⟩ := He.ba h
  obtain ⟨h5, h⟩ := He.ba h
  obtain ⟨h6, h⟩ := He.ba h
  obtain ⟨h7, h⟩ := He.ba h
  obtain ⟨h8, h⟩ := He.ba h
  obtain ⟨h9, h⟩ := He.ba h
  obtain ⟨h10, h⟩ := He.ba h
  obtain ⟨h11, h12⟩ := He.ba h
  have k3 := of_decide_eq_true h3
  exact ⟨⟨excB_ok h1, He.eqO_ok h2, k3, of_decide_eq_true h4, h5⟩, ⟨He.eqO_ok h6, He.eqO_ok h7, k3, h8, He.eqO_ok h9, He.eqO_ok h10, of_decide_eq_true h11, of_decide_eq_true h12⟩, ⟨He.eqO_ok h6, He.eqO_ok h7, k3, h8⟩⟩
theorem xnB_ok {K : PySem.W.Frag} {C : Addr} {f : Str} (h : xnB K C f = true) : PySem.W.findIn K (.ref C) f = some none := He.eqO_ok h
theorem exmB_ok {K : PySem.W.Frag} {D C : Addr} {b : Bool} (h : exmB K D C b = true) : PySem.W.exmOne K (.ref D) (.ref C) = some b := of_decide_eq_true h
theorem veiB_ok {r : Option PySem.W.CFound} (h : veiB r = true) : r = some (.val (.builtin "ValueError.__init__")) := by
  unfold veiB at h
  split at h
  · rw [of_decide_eq_true h]
  · cases h
/-- C.__init__ is ValueError's -/
structure XcI (K : PySem.W.Frag) (C : Addr) : Prop where
  rd : PySem.W.readsIn K C (.type "type") = true
  ga : PySem.W.specialIn K (.ref C) "__getattribute__" = some (some (.builtin "type.__getattribute__"))
  vl : PySem.W.findCls K (.ref C) (.type "type") "__init__" = some (.val (.builtin "ValueError.__init__"))
theorem initB_ok {K : PySem.W.Frag} {C : Addr} (h : initB K C = true) : XcI K C := by
  obtain ⟨h1, h⟩ := He.ba h
  obtain ⟨h2, h3⟩ := He.ba h
  exact ⟨h1, He.eqO_ok h2, veiB_ok h3⟩
section
variable {X : Cx} {x : Str} {e : Expr} {es : List Expr} {ta : TA} {p1 p2 pos : Pos} {C : Addr}
/-- C.__init__(self, ..), C the text's own class over ValueError without an __init__ -/
theorem pe_xinit {pl : Sem Bool} (T : XcI X.K C) (hm : X.mg x = some (.ref C)) (ha : PA X (e :: es) ta) (hg : Gl X x := by rfl)
    (hc : eval (.Call (.Attribute (.Name x p1) "__init__" p2) (e :: es) [] pos) X.env = (eval (.Name x p1) X.env >>= fun ov => standAt p2.atName >>= fun _ => holding [ov] (getMethod ov "__init__" pl) >>= fun r =>
      callWith pos r.1 r.2 (backTo pos (starEach (e :: es) X.env)) (backToKw pos (keywordEach [] X.env))) := by rfl)
    (hse : starEach (e :: es) X.env = (false, eval e X.env) :: starEach es X.env := by rfl) (hpl : (backTo pos (starEach es X.env)).any (·.1) = false := by rfl) (hdb : (x == ("__debug__" : Str)) = false := by decide) :
    PE X (.Call (.Attribute (.Name x p1) "__init__" p2) (e :: es) [] pos) (tVeI X.K ta) := by
  refine ⟨fun pins s σ H Q I h => ?_⟩
  rw [hc]
  refine wpAny_bind (ld_glob I hg hm (wpAny_bind (wpAny_standAt (wpAny_bind (wpAny_holding (PySem.W.method_cls I.kIn T.ga (PySem.W.cls_value I.kIn T.rd T.vl (by rfl) ?_)))))) hdb)
  have I := I.tok (s.toks + 1)
  refine callWith_method1 (thn (ha.run pos pins _ σ H _ I h) fun us s1 ⟨vs, H1, I1, r1, a, C', ws, ev, hl, T1, ea, q⟩ => ?_) hse hpl
  subst ev
  cases r1 with
  | @cons _ u0 _ ur ra rw' =>
    obtain rfl : u0 = Value.ref a := ra
    exact oinit_ok T1 I1 ea (by rw [← Paired.length rw', sizeLine_eq]; omega) fun s' J => ⟨.non, H1, J, rfl, q⟩
end
end TL
/-! TR2: defs that raise, raise, try: at the level of trees. -/
namespace TL
open PySem PySem.Spec PyProof.Rows L2
/-- what an exception's fields are -/
def RepX (c : Cn) (G : Hp) (fs : List (Str × D)) (gs : List (Str × V)) : Prop := ∀ f d, fs.lookup f = some d → ∃ v, gs.lookup f = some v ∧ Rep c G d v
theorem RepX.mono {c : Cn} {G G' : Hp} {fs : List (Str × D)} {gs : List (Str × V)} (h : RepX c G fs gs) (e : Ex G G') : RepX c G' fs gs := fun f d q => let ⟨v, h1, h2⟩ := h f d q; ⟨v, h1, h2.mono e⟩
/-- as spOf, of a def that may raise -/
def spX (c : Cn) (n : Nat) (S : FS) : Sp := fun vs H Q E => ∃ ts G P Post, ts.length = n ∧ SL c G H (vs.map some) (ts.map some) P ∧ S ts Post ∧
  (∀ t ts' v G' H' P' F, Post (.ret t ts') → SL c G' H' (vs.map some) ts' P' → Stp G H (uP P) G' H' (fun a => uP P' a ∨ F a) → TR c G' H' t F v → (∀ a, F a → ¬ uP P' a ∧ G' a = none ∧ H' a ≠ none) → Q v H') ∧
  ∀ k fs ts' d gs G' H' P', Post (.exc k fs ts') → SL c G' H' (vs.map some) ts' P' → Stp G H (uP P) G' H' (uP P') → G' d = some (.xd gs) → RepX c G' fs gs → E (.ref (c.cls k)) (some d) H'
theorem spX_len {c : Cn} {n : Nat} {S : FS} : ∀ vs H Q E, spX c n S vs H Q E → vs.length = n := fun vs H Q E ⟨ts, G, P, Post, h, s, _⟩ => by
  have := s.len
  simpa [h] using this
/-- the wish W bears every exception that xc tells of -/
def XOk (A : Amb) (W : WX) (xc : Nat → List (Str × D) → Env → Prop) : Prop := ∀ G H σ P env k fs d gs, xc k fs env → SR A G H σ env P → G d = some (.xd gs) → RepX A.c G fs gs → W (.ref (A.c.cls k)) (some d) σ H
theorem fnx_body {c : Cn} {N : List Str} {n m : Nat} {S : FS} {t : WX → TS} (keep : List Nat) (hk : ∀ i ∈ keep, i < n) (hm : N.length - n = m)
    (h : ∀ ts Post, S ts Post → ts.length = n → ∀ A : Amb, A.c = c → A.keep = keep → ∀ W, XOk A W (fun k fs e => Post (.exc k fs (fin keep 0 ts e))) → WS A (t W) (env0 m ts)
      (fun e => Post (.ret N_ (fin keep 0 ts e))) (fun t e => Post (.ret t (fin keep 0 ts e))) (fun _ => False) (fun _ => False))
    (vs : List V) (H : Hp) (Q : VK) (E : XK) (hs : spX c n S vs H Q E) : t (fun cls d _ H => E cls d H) { nx := fun _ H' => Q .non H', rt := Q } (L2.start N vs) H := by
  have hl := spX_len vs H Q E hs
  obtain ⟨ts, G, P, Post, hn, s, hS, hQ, hE⟩ := hs
  let A : Amb := ⟨c, G, H, uP P, L2.start N vs, keep⟩
  have lt : ∀ {i : Nat} {t : T}, (env0 m ts)[i]? = some (some t) → (ts.map some)[i]? = some (some t) := fun {i t} e => by
    unfold env0 at e
    by_cases hi : i < (ts.map some).length
    · rw [List.getElem?_append_left hi] at e; exact e
    · rw [List.getElem?_append_right (by omega), List.getElem?_replicate] at e
      split at e <;> cases e
  have s0 : SR A G H (L2.start N vs) (env0 m ts) P :=
    { len := by unfold L2.start env0; simp [hl, hn, hm]
      le := s.le
      slot := fun i t e => by
        obtain ⟨v, hv, tr⟩ := s.slot i t (lt e)
        refine ⟨v, ?_, tr⟩
        unfold L2.start
        rw [List.getElem?_append_left (List.getElem?_eq_some_iff.mp hv).1]
        exact hv
      dis := s.dis
      own := s.own
      base := Stp.refl
      kp := fun _ _ => rfl }
  have back : ∀ env' G' H' σ' P', SR A G' H' σ' env' P' → Ex G G' → SL c G' H' (vs.map some) (fin keep 0 ts env') (fun i a => P' i a ∧ i ∈ keep) := fun env' G' H' σ' P' s' ex =>
    ⟨by rw [fin_length]; simp [hn, hl], s'.le, fun i u e => by
      rcases fin_at keep ts 0 i env' u e with ⟨k1, k2⟩ | ⟨k1, ov, d, rfl⟩
      · rw [Nat.zero_add] at k1
        have hi : i ∈ keep := List.contains_iff_mem.mp k1
        obtain ⟨w, hw, tw⟩ := s'.slot i u k2
        rw [s'.kp i hi] at hw
        refine ⟨w, ?_, tw.mono (Ex.refl _) (fun a z => ⟨z, hi⟩) (fun _ _ _ e => e) fun a z => (s'.own i a z).1⟩
        have hw' : (L2.start N vs)[i]? = some (some w) := hw
        unfold L2.start at hw'
        rw [List.getElem?_append_left (by rw [List.length_map, hl]; exact hk i hi)] at hw'
        exact hw'
      · obtain ⟨w, hw, tw⟩ := s.slot i (.frz ov d) (by rw [List.getElem?_map, k1]; rfl)
        exact ⟨w, hw, tw.1.mono ex, tw.2⟩, fun i j a h1 h2 => s'.dis i j a h1.1 h2.1, fun i a h1 => s'.own i a h1.1⟩
  have fo : ∀ t env' v G' H' σ' P' F, Post (.ret t (fin keep 0 ts env')) → SR A G' H' σ' env' P' → Tmp A G' H' P' t F v → Q v H' := fun t env' v G' H' σ' P' F q s' m' => by
    have st := m'.stp s'
    refine hQ t _ v G' H' (fun i a => P' i a ∧ i ∈ keep) F q (back env' G' H' σ' P' s' st.g) (st.wk (fun _ h => h) fun a z => ?_) m'.tr fun a z => ⟨fun ⟨j, y, _⟩ => (m'.fd a z).1 ⟨j, y⟩, (m'.fd a z).2⟩
    rcases z with ⟨j, z, _⟩ | z
    · exact .inl (.inl ⟨j, z⟩)
    · exact .inl (.inr z)
  refine h ts Post hS hn A rfl rfl (fun cls d _ H => E cls d H) (fun G' H' σ' P' env' k fs d gs q s' hd hr => ?_) G H (L2.start N vs) P s0 _ (fun e G' H' σ' P' q s' _ => ?_) (fun t e v G' H' σ' P' F q s' m' => fo t e v G' H' σ' P' F q s' m') (fun _ _ _ _ _ z => z.elim) (fun _ _ _ _ _ z => z.elim)
  · exact hE k fs _ d gs G' H' (fun i a => P' i a ∧ i ∈ keep) q (back env' G' H' σ' P' s' s'.base.g) (s'.base.wk (fun _ h => h) fun a ⟨j, z, _⟩ => .inl ⟨j, z⟩) hd hr
  · exact fo N_ e .non G' H' σ' P' noF q s' (.flat rfl fun _ z => nomatch z)
/-- what is wished behind a call of such a def -/
def ffX (Post : T → Env → Prop) (xc : Nat → List (Str × D) → Env → Prop) (env : Env) (as : List Ar) : FO → Prop
  | .ret t ts' => Post t (backT env as ts')
  | .exc k fs ts' => xc k fs (backT env as ts')
section
variable {A : Amb} {G H G' H' : Hp} {σ : L2.St} {env : Env} {P P' : Nat → As} {X X' : As} {v x y z : V} {t t1 t2 : T} {vs : List V} {as : List Ar} {ta tb te : TE} {r : R2} {ts : List T} {W : WX} {xc : Nat → List (Str × D) → Env → Prop} {Post : T → Env → Prop} {nx bk ct : Env → Prop} {rt : T → Env → Prop}
/-- a callee's exception, seen from the caller -/
theorem XOk.at_ (hx : XOk A W xc) {k : Nat} {fs : List (Str × D)} {env' : Env} {d : Addr} {gs : List (Str × V)} (q : xc k fs env') (s : SR A G H σ env' P) (hd : G d = some (.xd gs)) (hr : RepX A.c G fs gs) : W (.ref (A.c.cls k)) (some d) σ H := hx G H σ P env' k fs d gs q s hd hr
theorem we_callX {n : Nat} {Sf : FS} {tr : TA} (hx : XOk A W xc) (h : WA A tr env fun as e => ∃ ts, argT e as = some ts ∧ ts.length = n ∧ (slots as).Nodup ∧ Sf ts (ffX Post xc e as)) :
    WE A (tCallSD (spX A.c n Sf) [] (fun σ cls d H => W cls d σ H) tr) env Post := fun G H σ P s Q k => by
  refine h G H σ P s _ fun as e1 vs G1 H1 P1 F1 p1 r1 => ?_
  obtain ⟨ts, ha, hn, nd, hS⟩ := p1
  obtain ⟨hl, Pc, sl, co⟩ := call_core r1.sr r1.tm ha nd
  rw [List.append_nil]
  refine ⟨ts, G1, Pc, _, hn, sl, hS, fun t ts' v G2 H2 P2 F2 hp s2 st tr fd => ?_, fun kk fs ts' d gs G2 H2 P2 hp s2 st hd hr => ?_⟩
  · obtain ⟨P3, r3⟩ := co ts' v t G2 H2 P2 F2 s2 st tr fun a z => ⟨fun k i _ y => (fd a z).1 ⟨k, y⟩, (fd a z).2⟩
    exact k t _ v G2 H2 P3 F2 hp ⟨r3.sr, r1.st.trans r3.st, r3.tm⟩
  · obtain ⟨P3, r3⟩ := co ts' .non N_ G2 H2 P2 noF s2 (st.wk (fun _ z => z) fun a z => .inl (by rcases z with z | z; exact z; exact z.elim)) ⟨rfl, fun _ z => nomatch z⟩ fun a z => z.elim
    exact hx.at_ (show xc kk fs (backT e1 as ts') from hp) r3.sr hd hr
/-- such a def called where nothing is raised -/
theorem we_callN {n : Nat} {Sf : FS} {E : XK} {tr : TA} (h : WA A tr env fun as e => ∃ ts, argT e as = some ts ∧ ts.length = n ∧ (slots as).Nodup ∧ Sf ts fun o => ∃ t ts', o = .ret t ts' ∧ Post t (backT e as ts')) :
    WE A (tCall (spX A.c n Sf) [] E tr) env Post := fun G H σ P s Q k => by
  refine h G H σ P s _ fun as e1 vs G1 H1 P1 F1 p1 r1 => ?_
  obtain ⟨ts, ha, hn, nd, hS⟩ := p1
  obtain ⟨hl, Pc, sl, co⟩ := call_core r1.sr r1.tm ha nd
  rw [List.append_nil]
  refine ⟨ts, G1, Pc, _, hn, sl, hS, fun t ts' v G2 H2 P2 F2 hp s2 st tr fd => ?_, fun kk fs ts' d gs G2 H2 P2 hp s2 st hd hr => ?_⟩
  · obtain ⟨t', ts'', e, hp⟩ := hp
    cases e
    obtain ⟨P3, r3⟩ := co ts' v t G2 H2 P2 F2 s2 st tr fun a z => ⟨fun k i _ y => (fd a z).1 ⟨k, y⟩, (fd a z).2⟩
    exact k t _ v G2 H2 P3 F2 hp ⟨r3.sr, r1.st.trans r3.st, r3.tm⟩
  · obtain ⟨t', ts'', e, _⟩ := hp
    cases e
/-- o.m(..) that may raise -/
def tMethSD (C : Addr) (m : Str) (sp : Sp) (E : L2.St → XK) (ta : TE) (t : TA) : TE := fun σ H Q => ta σ H fun x H1 => ∃ a dx fs, x = .ref a ∧ H1 a = some (.ins C dx fs) ∧ fs.lookup m = none ∧ t σ H1 fun vs H2 => sp (x :: vs) H2 Q (E σ)
theorem we_methX {n k : Nat} {m : Str} {Sf : FS} {to : TE} {tr : TA} (hx : XOk A W xc) (h : WO A to env fun a e => instO e k m a ∧ WA A tr e fun as e => ∃ ts, argT e (a :: as) = some ts ∧ ts.length = n ∧ (slots (a :: as)).Nodup ∧ Sf ts (ffX Post xc e (a :: as))) :
    WE A (tMethSD (A.c.cls k) m (spX A.c n Sf) (fun σ cls d H => W cls d σ H) to tr) env Post := fun G H σ P s Q kq => by
  refine h G H σ P s _ fun a e0 v0 G0 H0 P0 F0 p0 r0 => ?_
  obtain ⟨hi, p0⟩ := p0
  obtain ⟨p, dx, fs, ev, hp, hl⟩ := instO_ok r0.sr r0.tm hi
  refine ⟨p, dx, fs, ev, hp, hl, ?_⟩
  refine p0 G0 H0 σ P0 r0.sr _ fun as e1 vs G1 H1 P1 F1 p1 r1 => ?_
  obtain ⟨ts, ha, hn, nd, hS⟩ := p1
  obtain ⟨_, Pc, sl, co⟩ := call_core r1.sr ((r0.tm.carry r1.st).app r1.tm (beside r1.st r0.tm.fd).2.2) ha nd
  refine ⟨ts, G1, Pc, _, hn, sl, hS, fun t ts' v G2 H2 P2 F2 hp s2 st tr fd => ?_, fun kk fs ts' d gs G2 H2 P2 hp s2 st hd hr => ?_⟩
  · obtain ⟨P3, r3⟩ := co ts' v t G2 H2 P2 F2 s2 st tr fun a z => ⟨fun k i _ y => (fd a z).1 ⟨k, y⟩, (fd a z).2⟩
    exact kq t _ v G2 H2 P3 F2 hp ⟨r3.sr, (r0.st.seq r1.st).trans r3.st, r3.tm⟩
  · obtain ⟨P3, r3⟩ := co ts' .non N_ G2 H2 P2 noF s2 (st.wk (fun _ z => z) fun a z => .inl (by rcases z with z | z; exact z; exact z.elim)) ⟨rfl, fun _ z => nomatch z⟩ fun a z => z.elim
    exact hx.at_ (show xc kk fs (backT e1 (a :: as) ts') from hp) r3.sr hd hr
/-! ### raise -/
/-- the promise of an exception's __init__ with one field -/
def spI1 (K : PySem.W.Frag) (f : Str) : Sp := fun vs H Q E => ∃ (a C : Addr) (v : V), vs = [.ref a, v] ∧ OexC K C ∧ PySem.W.findIn K (.ref C) f = some none ∧ H a = some (exo a C none) ∧ ∀ dx, H dx = none → dx ≠ a → Q .non (upd (upd H dx (exd dx [(f, v)])) a (exo a C (some dx)))
def spI2 (K : PySem.W.Frag) (f g : Str) : Sp := fun vs H Q E => ∃ (a C : Addr) (v w : V), vs = [.ref a, v, w] ∧ OexC K C ∧ PySem.W.findIn K (.ref C) f = some none ∧ PySem.W.findIn K (.ref C) g = some none ∧ H a = some (exo a C none) ∧
  ∀ dx, H dx = none → dx ≠ a → Q .non (upd (upd (upd H dx (exd dx [(f, v)])) a (exo a C (some dx))) dx (exd dx [(g, w), (f, v)]))
def tRaise (C : Addr) (sp : Sp) (W : WX) (ta : TA) : TS := fun _ σ H => tMkO C sp [] ta σ H fun cls d H' => W cls d σ H'
theorem made_eq {H1 : Hp} {a dx C : Addr} {u u2 : HO} {fs : List (Str × V)} (ha : H1 a = none) (ne : dx ≠ a) : upd (del (upd (upd (upd H1 a u) dx u2) a (exo a C (some dx))) a) dx (.xd fs) = upd H1 dx (.xd fs) := by
  funext b
  by_cases h : b = dx
  · subst h; rw [upd_same, upd_same]
  · rw [upd_ne h, upd_ne h]
    by_cases h2 : b = a
    · subst h2; rw [del_same, ha]
    · rw [del_ne h2, upd_ne h2, upd_ne h, upd_ne h2]
theorem made_eq2 {H1 : Hp} {a dx C : Addr} {u u2 u3 : HO} {fs : List (Str × V)} (ha : H1 a = none) (ne : dx ≠ a) : upd (del (upd (upd (upd (upd H1 a u) dx u2) a (exo a C (some dx))) dx u3) a) dx (.xd fs) = upd H1 dx (.xd fs) := by
  funext b
  by_cases h : b = dx
  · subst h; rw [upd_same, upd_same]
  · rw [upd_ne h, upd_ne h]
    by_cases h2 : b = a
    · subst h2; rw [del_same, ha]
    · rw [del_ne h2, upd_ne h, upd_ne h2, upd_ne h, upd_ne h2]
theorem ws_raise1 {k : Nat} {f : Str} {tr : TA} (hx : XOk A W xc) (T : OexC A.c.K (A.c.cls k)) (hn : PySem.W.findIn A.c.K (.ref (A.c.cls k)) f = some none) (h : WA A tr env fun as e => ∃ o d, as = [.t (.frz o d)] ∧ xc k [(f, d)] e) :
    WS A (tRaise (A.c.cls k) (spI1 A.c.K f) W tr) env nx rt bk ct := fun G H σ P s D _ _ _ _ => by
  refine h G H σ P s _ fun as e1 vs G1 H1 P1 F1 p1 r1 => ?_
  obtain ⟨o, d, rfl, hp⟩ := p1
  obtain ⟨v, r', X1, X2, rfl, _, _, tr1, e0⟩ := r1.tm.tr
  cases e0
  refine ⟨by show 1 ≤ 1000; omega, fun a ha => ⟨a, A.c.cls k, v, rfl, T, hn, upd_same, fun dx hdx ne => ?_⟩⟩
  rw [upd_ne ne] at hdx
  refine ⟨rfl, dx, [(f, v)], upd_same, by rw [upd_ne ne, upd_same], hdx, ?_⟩
  rw [made_eq ha ne]
  exact hx.at_ hp (r1.sr.fixed_new (o := .xd [(f, v)]) hdx) upd_same fun g d2 q => by
    have q2 : (match g == f with | true => some d | false => none) = some d2 := q
    cases e : (g == f) with
    | false => rw [e] at q2; cases q2
    | true =>
      rw [e] at q2
      cases q2
      have e' : g = f := eq_of_beq e
      subst e'
      exact ⟨v, by simp [List.lookup], tr1.1.mono (ex_upd (r1.sr.gnone hdx))⟩
theorem ws_raise2 {k : Nat} {f g : Str} {tr : TA} (hx : XOk A W xc) (T : OexC A.c.K (A.c.cls k)) (hn : PySem.W.findIn A.c.K (.ref (A.c.cls k)) f = some none) (hn2 : PySem.W.findIn A.c.K (.ref (A.c.cls k)) g = some none) (hfg : (f == g) = false)
    (h : WA A tr env fun as e => ∃ o d o2 d2, as = [.t (.frz o d), .t (.frz o2 d2)] ∧ xc k [(f, d), (g, d2)] e) :
    WS A (tRaise (A.c.cls k) (spI2 A.c.K f g) W tr) env nx rt bk ct := fun G H σ P s D _ _ _ _ => by
  refine h G H σ P s _ fun as e1 vs G1 H1 P1 F1 p1 r1 => ?_
  obtain ⟨o, d, o2, d2, rfl, hp⟩ := p1
  obtain ⟨v, r', X1, X2, rfl, _, _, tr1, w, r'', X3, X4, rfl, _, _, tr2, e0⟩ := r1.tm.tr
  cases e0
  refine ⟨by show 2 ≤ 1000; omega, fun a ha => ⟨a, A.c.cls k, v, w, rfl, T, hn, hn2, upd_same, fun dx hdx ne => ?_⟩⟩
  rw [upd_ne ne] at hdx
  refine ⟨rfl, dx, [(g, w), (f, v)], by rw [upd_ne (Ne.symm ne), upd_same], upd_same, hdx, ?_⟩
  rw [made_eq2 ha ne]
  exact hx.at_ hp (r1.sr.fixed_new (o := .xd [(g, w), (f, v)]) hdx) upd_same fun q0 d3 q => by
    have q2 : (match q0 == f with | true => some d | false => (match q0 == g with | true => some d2 | false => none)) = some d3 := q
    cases e : (q0 == f) with
    | true =>
      rw [e] at q2
      cases q2
      have e' : q0 = f := eq_of_beq e
      subst e'
      exact ⟨v, by simp [List.lookup, hfg], tr1.1.mono (ex_upd (r1.sr.gnone hdx))⟩
    | false =>
      rw [e] at q2
      cases e3 : (q0 == g) with
      | false => rw [e3] at q2; cases q2
      | true =>
        rw [e3] at q2
        cases q2
        have e' : q0 = g := eq_of_beq e3
        subst e'
        exact ⟨w, by simp [List.lookup], tr2.1.mono (ex_upd (r1.sr.gnone hdx))⟩
/-! ### try -/
/-- as A, from here on -/
abbrev Amb.from_ (A : Amb) (G H : Hp) (U : As) : Amb := ⟨A.c, G, H, U, A.σ, A.keep⟩
theorem SR.from_ (s : SR A G H σ env P) : SR (A.from_ G H (uP P)) G H σ env P := ⟨s.toSL, Stp.refl, s.kp⟩
theorem SR.onto (s : SR A G H σ env P) {σ' : L2.St} {env' : Env} (s' : SR (A.from_ G H (uP P)) G' H' σ' env' P') : SR A G' H' σ' env' P' := ⟨s'.toSL, s.base.trans s'.base, s'.kp⟩
theorem Tmp.onto (s : SR A G H σ env P) {env' : Env} {σ' : L2.St} (s' : SR (A.from_ G H (uP P)) G' H' σ' env' P') (m : Tmp (A.from_ G H (uP P)) G' H' P' t X v) : Tmp A G' H' P' t X v := ⟨m.tr, m.fd, fun a z => by
  rcases m.bs a z with y | y
  · exact s.base.n a y
  · by_cases u : A.U a
    · exact .inl u
    · right
      cases q : A.H a with
      | none => rfl
      | some o => have e := s.base.h a o q u; have y : H a = none := y; rw [y] at e; cases e⟩
theorem SL.unset {c : Cn} (s : SL c G H σ env P) (i : Nat) : SL c G H (σ.set i none) (env.set i none) (fun j a => P j a ∧ j ≠ i) where
  len := by rw [List.length_set, List.length_set]; exact s.len
  le := s.le
  slot := fun j t e => by
    have ne : j ≠ i := fun z => by
      subst z
      rw [List.getElem?_set] at e
      split at e <;> simp_all
    rw [List.getElem?_set_ne (Ne.symm ne)] at e
    obtain ⟨v, hv, tr⟩ := s.slot j t e
    exact ⟨v, by rw [List.getElem?_set_ne (Ne.symm ne)]; exact hv, tr.mono (Ex.refl _) (fun a h => ⟨h, ne⟩) (fun _ _ _ e => e) (fun a h => (s.own j a h).1)⟩
  dis := fun j k a h h' => s.dis j k a h.1 h'.1
  own := fun j a h => s.own j a h.1
theorem SR.unset (s : SR A G H σ env P) (i : Nat) (hk : A.keep.contains i = false) : SR A G H (σ.set i none) (env.set i none) (fun j a => P j a ∧ j ≠ i) :=
  ⟨s.toSL.unset i, s.base.wk (fun _ h => h) fun a ⟨j, h, _⟩ => .inl ⟨j, h⟩, fun j hj => by
    have ne : i ≠ j := fun z => by subst z; rw [List.contains_iff_mem.mpr hj] at hk; cases hk
    rw [List.getElem?_set_ne ne]
    exact s.kp j hj⟩
/-- the wish of 'except C as n': what is known where its suite begins -/
def xAs (A : Amb) (C : Addr) (i : Nat) (ts : Addr → Value → Option Addr → TS) (nx : Env → Prop) (rt : T → Env → Prop) (bk ct : Env → Prop) (xc : Nat → List (Str × D) → Env → Prop) : Nat → List (Str × D) → Env → Prop := fun k fs env =>
  ∃ b, PySem.W.exmOne A.c.K (.ref (A.c.cls k)) (.ref C) = some b ∧ (b = true → i < env.length ∧ ∀ (G H : Hp) (U : As) (a dd : Addr) (gs : List (Str × V)), G dd = some (.xd gs) → RepX A.c G fs gs →
    WS (A.from_ G H U) (ts a (.ref (A.c.cls k)) (some dd)) (env.set i (some (.frz none (.oth (.ref a))))) (fun e => nx (e.set i none)) rt (fun e => bk (e.set i none)) (fun e => ct (e.set i none))) ∧ (b = false → xc k fs env)
theorem ws_tryAs {i : Nat} {C : Addr} {tt : WX → TS} {ts : Addr → Value → Option Addr → TS} {K : List Nat} (hx : XOk A W xc) (eK : A.keep = K) (hk : K.contains i = false)
    (h : ∀ (G H : Hp) (U : As) (W' : WX), XOk (A.from_ G H U) W' (xAs A C i ts nx rt bk ct xc) → WS (A.from_ G H U) (tt W') env nx rt bk ct) :
    WS A (fun D σ H => tt (wAs A.c.K (.ref C) i ts W D) D σ H) env nx rt bk ct := fun G H σ P s D n r b c => by
  have hk' : A.keep.contains i = false := eK ▸ hk
  refine h G H (uP P) (wAs A.c.K (.ref C) i ts W D) (fun G1 H1 σ1 P1 e1 k fs d gs hq s1 hd hr => ?_) G H σ P s.from_ D (fun e G' H' σ' P' p s' x => n e G' H' σ' P' p (s.onto s') x) (fun t e v G' H' σ' P' F p s' m => r t e v G' H' σ' P' F p (s.onto s') (m.onto s s'))
    (fun e G' H' σ' P' p s' x => b e G' H' σ' P' p (s.onto s') x) (fun e G' H' σ' P' p s' x => c e G' H' σ' P' p (s.onto s') x)
  obtain ⟨bo, hm, hy, hn⟩ := hq
  have s2 := s.onto s1
  refine ⟨bo, hm, fun hb a ha => ?_, fun hb => hx.at_ (hn hb) s2 hd hr⟩
  obtain ⟨hi, hw⟩ := hy hb
  have ex1 : Ex G G1 := s1.base.g
  have m0 : Tmp A G1 H1 P1 (.frz none (.oth (.ref a))) noF (.ref a) := .flat rfl fun _ z => nomatch z
  have s3 := s2.put m0 i hi fun z => by rw [List.contains_iff_mem.mpr z] at hk'; cases hk'
  refine hw G1 H1 _ a d gs hd hr G1 H1 _ _ s3.from_ _ (fun e G' H' σ' P' p s' x => ?_) (fun t e v G' H' σ' P' F p s' m => ?_) (fun e G' H' σ' P' p s' x => ?_) (fun e G' H' σ' P' p s' x => ?_)
  · exact n _ G' H' _ _ p ((s3.onto s').unset i hk') (ex1.trans x)
  · exact r t e v G' H' σ' P' F p (s3.onto s') (m.onto s3 s')
  · exact b _ G' H' _ _ p ((s3.onto s').unset i hk') (ex1.trans x)
  · exact c _ G' H' _ _ p ((s3.onto s').unset i hk') (ex1.trans x)
/-- e.f of the exception that a suite holds -/
theorem we_xf {a dd : Addr} {k : Nat} {f : Str} {gs : List (Str × V)} {fs : List (Str × D)} {d : D} (hd : A.G dd = some (.xd gs)) (hr : RepX A.c A.G fs gs) (hl : fs.lookup f = some d) (h : WE A te env fun t e => (∃ o, t = .frz o (.oth (.ref a))) ∧ Post (.frz none d) e) :
    WE A (tXf a (.ref (A.c.cls k)) (some dd) (A.c.cls k) f te) env Post := fun G H σ P s Q kq => by
  refine h G H σ P s _ fun t e v G1 H1 P1 F1 p1 r1 => ?_
  obtain ⟨⟨o, rfl⟩, hp⟩ := p1
  obtain ⟨w, hw, rw_⟩ := hr f d hl
  have ex := r1.sr.base.g
  refine ⟨r1.tm.tr.1, rfl, dd, gs, w, rfl, r1.sr.le _ _ (ex _ _ hd), hw, ?_⟩
  exact kq _ e w G1 H1 P1 noF hp ⟨r1.sr, r1.st.wk (fun _ z => z) fun a z => by rcases z with z | z; exact .inl (.inl z); exact z.elim, .flat (rw_.mono ex) fun _ z => nomatch z⟩
/-- isinstance(e, C) of it -/
theorem wc_isX {a dd : Addr} {k : Nat} {gs : List (Str × V)} {o o2 : Option V} {u : V} {cv : Value} {b : Bool} (hd : A.G dd = some (.xd gs)) (C : ExcC A.c.K (A.c.cls k)) (hc : ∀ w, RelV u w → w = cv) (hk : PySem.W.kitOne A.c.K (.ref (A.c.cls k)) cv = some b) (q : Post (B b) env) :
    WC A (rIsX A.c.K a (.ref (A.c.cls k)) (some dd)) [.t (.frz o (.oth (.ref a))), .t (.frz o2 (.oth u))] env Post := fun G H σ P vs X s m Q kq => by
  obtain ⟨v, r', X1, X2, rfl, _, _, tr1, w, r'', X3, X4, rfl, _, _, tr2, e0⟩ := m.tr
  cases e0
  have e1 : v = .ref a := tr1.1
  have e2 : w = u := tr2.1
  subst e1 e2
  refine ⟨_, _, cv, b, rfl, C, fun d2 z => ?_, rfl, hc, hk, kq _ env _ G H P noF q (.frz' s rfl fun _ z => nomatch z)⟩
  cases z
  exact ⟨gs, s.le _ _ (s.base.g _ _ hd)⟩
end
end TL
/-! TR3: defs that raise, by name; try .. as .. else. -/
namespace TL
open PySem PySem.Spec PyProof.Rows L2
/-- a def that may raise -/
structure Fox (P : Program) (w : World) (K : PySem.W.Frag) (mg : Str → Option Value) (base : Heap) (k : Nat) (x : Str) (ps : List Str) (sp : Sp) : Prop where
  ex : ∃ f fd, mg x = some (.ref f) ∧ PySem.W.keepIn K (.ref f) = true ∧ Binds K fd ps [] ∧ FnOk P w K mg base (L2.CX P w) k f fd ps sp
structure Fmx (P : Program) (w : World) (K : PySem.W.Frag) (mg : Str → Option Value) (base : Heap) (k : Nat) (C : Addr) (m : Str) (ps : List Str) (sp : Sp) : Prop where
  ex : ∃ f fd, Cls K C ∧ Meth K C m f ∧ Binds K fd ps [] ∧ FnOk P w K mg base (L2.CX P w) k f fd ps sp
structure Fix (P : Program) (w : World) (K : PySem.W.Frag) (mg : Str → Option Value) (base : Heap) (k : Nat) (x : Str) (C : Addr) (ps : List Str) (sp : Sp) : Prop where
  ex : ∃ f fd, mg x = some (.ref C) ∧ Mk K C f ∧ Binds K fd ps [] ∧ FnOk P w K mg base (L2.CX P w) k f fd ps sp
/-- an exception class of the text's, its __init__ keeping sp -/
structure Fxc (P : Program) (w : World) (K : PySem.W.Frag) (mg : Str → Option Value) (base : Heap) (k : Nat) (x : Str) (C : Addr) (ps : List Str) (sp : Sp) : Prop where
  ex : ∃ f fd, mg x = some (.ref C) ∧ OexC K C ∧ PySem.W.findIn K (.ref C) "__init__" = some (some (.ref f)) ∧ PySem.W.typeIn K (.ref f) = some (.type "function") ∧ Binds K fd ps [] ∧ FnOk P w K mg base CX0 k f fd ps sp
/-- o.m(..), C(..) that may raise: what is wished for at the slots -/
def tMakeSD (C : Addr) (sp : Sp) (E : L2.St → XK) (t : TA) : TE := fun σ H Q => t σ H fun vs H1 => ∀ x dx, H1 x = none → H1 dx = none → dx ≠ x → sp (.ref x :: vs) (upd (upd H1 dx (.own x)) x (.ins C dx [])) (fun v H2 => v = .non ∧ Q (.ref x) H2) (E σ)
section
variable {X : Cx} {k : Nat} {x m : Str} {C : Addr} {ps : List Str} {sp : Sp} {p pos apos : Pos} {e o : Expr} {es : List Expr} {t : TA} {to : TE} {W : WX} {f : Addr} {fd : FuncData} {CX : CXT}
theorem pe_oX (h : Fox X.prog X.w X.K X.mg X.base k x ps sp) (hr : Room k X.A) (tk : Takes X W) (ha : PA X (e :: es) t) (hgl : Gl X x := by rfl) (hd : (x == ("__debug__" : Str)) = false := by decide)
    (hs : starEach (e :: es) X.env = (false, eval e X.env) :: starEach es X.env := by rfl) (hp : (backTo pos (starEach es X.env)).any (·.1) = false := by rfl) : PE X (.Call (.Name x p) (e :: es) [] pos) (tCallSD sp [] (fun σ cls d H => W cls d σ H) t) := by
  obtain ⟨f, fd, h1, h2, h3, h4⟩ := h.ex
  exact pe_callSD h4 hr hgl h1 h2 h3 .nil (fun σ => passAt tk σ) ha hd hs hp
theorem pe_oN (h : Fox X.prog X.w X.K X.mg X.base k x ps sp) (hr : Room k X.A) (ha : PA X (e :: es) t) (hgl : Gl X x := by rfl) (hd : (x == ("__debug__" : Str)) = false := by decide)
    (hs : starEach (e :: es) X.env = (false, eval e X.env) :: starEach es X.env := by rfl) (hp : (backTo pos (starEach es X.env)).any (·.1) = false := by rfl) : PE X (.Call (.Name x p) (e :: es) [] pos) (tCall sp [] E0 t) := by
  obtain ⟨f, fd, h1, h2, h3, h4⟩ := h.ex
  exact pe_call h4 hr hgl h1 h2 h3 .nil passL ha hd hs hp
theorem pe_mN {pl : Sem Bool} (ho : PE X o to) (h : Fmx X.prog X.w X.K X.mg X.base k C m ps sp) (hr : Room k X.A) (ha : PA X (e :: es) t)
    (hs : starEach (e :: es) X.env = (false, eval e X.env) :: starEach es X.env := by rfl) (hp : (backTo pos (starEach es X.env)).any (·.1) = false := by rfl)
    (ht : eval (.Call (.Attribute o m apos) (e :: es) [] pos) X.env = (eval o X.env >>= fun ov => standAt apos.atName >>= fun _ => holding [ov] (getMethod ov m pl) >>= fun r =>
      callWith pos r.1 r.2 (backTo pos (starEach (e :: es) X.env)) (backToKw pos (keywordEach [] X.env))) := by rfl) : PE X (.Call (.Attribute o m apos) (e :: es) [] pos) (tMeth C m sp [] E0 to t) := by
  obtain ⟨f, fd, h1, h2, h3, h4⟩ := h.ex
  exact pe_meth ho h1 h2 h4 hr h3 .nil passL ha hs hp ht
theorem pe_iN (h : Fix X.prog X.w X.K X.mg X.base k x C ps sp) (hr : Room (k + 1) X.A) (ha : PA X (e :: es) t) (hgl : Gl X x := by rfl) (hd : (x == ("__debug__" : Str)) = false := by decide)
    (hs : starEach (e :: es) X.env = (false, eval e X.env) :: starEach es X.env := by rfl) (hp : (backTo pos (starEach es X.env)).any (·.1) = false := by rfl) : PE X (.Call (.Name x p) (e :: es) [] pos) (tMake C sp [] E0 t) := by
  obtain ⟨f, fd, h1, h2, h3, h4⟩ := h.ex
  exact pe_make h2 h4 hr hgl h1 h3 .nil passL ha hd hs hp
theorem run_at {E : L2.St → XK} {pins : List (Addr × Obj)} {σ : L2.St} {H : Hp} {s : Shared} {Q : VK} {us : List Value} {vs : List V} (F : FnOk X.prog X.w X.K X.mg X.base CX k f fd ps sp) (hr : Room k X.A) (hb : Binds X.K fd ps []) (hx : PassesAt CX X σ (E σ))
    (I : Inv X pins σ H s) (r : Vals vs us) (h : sp vs H Q (E σ)) : wpAny (model X.prog X.w) X.A (call (.ref f) us) (EP X pins σ Q) X.xe s := run_fnS F hr hb hx I r h
theorem pe_mX {pl : Sem Bool} (ho : PE X o to) (h : Fmx X.prog X.w X.K X.mg X.base k C m ps sp) (hr : Room k X.A) (tk : Takes X W) (ha : PA X (e :: es) t)
    (hs : starEach (e :: es) X.env = (false, eval e X.env) :: starEach es X.env := by rfl) (hp : (backTo pos (starEach es X.env)).any (·.1) = false := by rfl)
    (ht : eval (.Call (.Attribute o m apos) (e :: es) [] pos) X.env = (eval o X.env >>= fun ov => standAt apos.atName >>= fun _ => holding [ov] (getMethod ov m pl) >>= fun r =>
      callWith pos r.1 r.2 (backTo pos (starEach (e :: es) X.env)) (backToKw pos (keywordEach [] X.env))) := by rfl) : PE X (.Call (.Attribute o m apos) (e :: es) [] pos) (tMethSD C m sp (fun σ cls d H => W cls d σ H) to t) := by
  obtain ⟨f, fd, hC, hm, hb, F⟩ := h.ex
  refine ⟨fun pins s σ H Q I hh => ?_⟩
  refine PySem.W.methodCall_KW (pl := pl) (thn (ho.run pins s σ H _ I hh) fun u s1 ⟨y, H1, I1, ry, a, dx, fs, ey, ea, l, q⟩ => ?_) ht
  subst ey
  obtain rfl : u = Value.ref a := ry
  refine getmeth_ok I1 ea hC hm l (PySem.W.callWith_K (first := [.ref a]) (h₀ := X.base) I.ok.mod.kin hm.kp (thn (ha.run pos pins s1 σ H1 _ I1 q) fun us s2 ⟨vs, H2, I2, r, q2⟩ => ⟨I2.kIn, ?_⟩) hs hp)
  exact run_at (us := .ref a :: us) (vs := .ref a :: vs) (E := L2.WE W) F hr hb (passAt tk σ) I2 (.cons rfl r) q2
theorem pe_m0X {pl : Sem Bool} (ho : PE X o to) (h : Fmx X.prog X.w X.K X.mg X.base k C m ps sp) (hr : Room k X.A) (tk : Takes X W)
    (ht : eval (.Call (.Attribute o m apos) [] [] pos) X.env = (eval o X.env >>= fun ov => standAt apos.atName >>= fun _ => holding [ov] (getMethod ov m pl) >>= fun r =>
      callWith pos r.1 r.2 (backTo pos (starEach [] X.env)) (backToKw pos (keywordEach [] X.env))) := by rfl) : PE X (.Call (.Attribute o m apos) [] [] pos) (tMethSD C m sp (fun σ cls d H => W cls d σ H) to tNil) := by
  obtain ⟨f, fd, hC, hm, hb, F⟩ := h.ex
  refine ⟨fun pins s σ H Q I hh => ?_⟩
  refine PySem.W.methodCall_KW (pl := pl) (thn (ho.run pins s σ H _ I hh) fun u s1 ⟨y, H1, I1, ry, a, dx, fs, ey, ea, l, q⟩ => ?_) ht
  subst ey
  obtain rfl : u = Value.ref a := ry
  exact getmeth_ok I1 ea hC hm l (PySem.W.callWith_K0 (first := [.ref a]) I1.kIn hm.kp (run_at (us := [.ref a]) (vs := [.ref a]) (E := L2.WE W) F hr hb (passAt tk σ) I1 (.cons rfl .nil) q))
theorem pe_iX (h : Fix X.prog X.w X.K X.mg X.base k x C ps sp) (hr : Room (k + 1) X.A) (tk : Takes X W) (ha : PA X (e :: es) t) (hgl : Gl X x := by rfl) (hd : (x == ("__debug__" : Str)) = false := by decide)
    (hs : starEach (e :: es) X.env = (false, eval e X.env) :: starEach es X.env := by rfl) (hp : (backTo pos (starEach es X.env)).any (·.1) = false := by rfl) : PE X (.Call (.Name x p) (e :: es) [] pos) (tMakeSD C sp (fun σ cls d H => W cls d σ H) t) := by
  obtain ⟨f, fd, hm, M, hb, F⟩ := h.ex
  refine ⟨fun pins s σ H Q I hh => ?_⟩
  refine wpAny_Call_Name_kw (ld_glob I hgl hm (PySem.W.callWith_K (h₀ := X.base) I.ok.mod.kin M.kp (thn (ha.run pos pins s σ H _ I hh) fun us s1 ⟨vs, H1, I1, r, q⟩ => ⟨I1.kIn, ?_⟩) hs hp) hd)
  have hn := I1.hok.fresh (Nat.le_succ s1.heap.objs.size)
  have hq := q (s1.heap.objs.size + 1) s1.heap.objs.size hn (I1.hok.fresh (Nat.le_refl _)) (Nat.ne_of_lt (Nat.lt_succ_self _))
  have I2 := Inv.made (C := C) I1
  have r2 : Vals (V.ref (s1.heap.objs.size + 1) :: vs) (Value.ref (s1.heap.objs.size + 1) :: us) := .cons rfl r
  have hl : (Value.ref (s1.heap.objs.size + 1) :: us).length = ps.length := by rw [← r2.length]; exact F.len _ _ _ _ hq
  have hbb := hb _ (Value.ref (s1.heap.objs.size + 1) :: us) I2.kIn (by rw [List.append_nil]; exact hl)
  rw [List.append_nil] at hbb
  refine wpAny_call (make_map (f := f) I1.kIn M.makes M.init (beq_iff_eq.mp M.fn) (codeAny_mono (F.run _ X.stack _ _ ⟨Value.ref (s1.heap.objs.size + 1) :: us, []⟩ (Value.ref (s1.heap.objs.size + 1) :: us) _ _ (L2.WE W σ) (hr.make C us []) (I2.env0.make C us []) hbb r2 hq) fun r s' hq' => ?_))
  cases r with
  | error er => exact passAt tk σ pins _ _ er s' I2 hq'
  | ok fl =>
    cases fl with
    | ret u =>
      obtain ⟨v, H', I3, rv, ev, q3⟩ := I2.after hq'
      subst ev
      exact ⟨rv, V.ref (s1.heap.objs.size + 1), H', I3, rfl, q3⟩
    | next => exact hq'.elim
    | brk => exact hq'.elim
    | cont => exact hq'.elim
/-- raise C(e, ..) -/
theorem ps_raiseX {pos2 : Pos} (h : Fxc X.prog X.w X.K X.mg X.base k x C ps sp) (hr : Room (k + 1) X.A) (hc : X.calm = true) (tk : Takes X W) (ha : PA X (e :: es) t) (hgl : Gl X x := by rfl) (hd : (x == ("__debug__" : Str)) = false := by decide)
    (hs : starEach (e :: es) X.env = (false, eval e X.env) :: starEach es X.env := by rfl) (hp : (backTo pos (starEach es X.env)).any (·.1) = false := by rfl) :
    PS X (.Raise (some (.Call (.Name x p) (e :: es) [] pos)) none pos2) (tRaise C sp W t) := by
  obtain ⟨f, fd, hm, T, iC, tI, hb, F⟩ := h.ex
  exact ps_raise hc tk (pmk_oex T iC tI F hr hb .nil pass0 hgl hm ha hd hs hp)
end
/-! ### the promises of __init__ of such classes -/
def tInit1 (K : PySem.W.Frag) (f msg : Str) : TS := tSeq (tDrop (tVeI K (tCons (tVar 0) (tCons (tC (.str msg)) tNil)))) (tOst K f (tVar 0) (tVar 1))
def tInit2 (K : PySem.W.Frag) (f g msg : Str) : TS := tSeq (tDrop (tVeI K (tCons (tVar 0) (tCons (tC (.str msg)) tNil)))) (tSeq (tOst K f (tVar 0) (tVar 1)) (tOst K g (tVar 0) (tVar 2)))
theorem init1_ok {K : PySem.W.Frag} {f msg : Str} {N : List Str} (hN : N.length = 2) {vs : List V} {H : Hp} {Q : VK} {E : XK} (h : spI1 K f vs H Q E) : tInit1 K f msg { nx := fun _ H' => Q .non H', rt := Q } (L2.start N vs) H := by
  obtain ⟨a, C, v, rfl, T, hf, ha, q⟩ := h
  have e : L2.start N [V.ref a, v] = [some (.ref a), some v] := by unfold L2.start; rw [hN] <;> rfl
  rw [e]
  refine ⟨_, rfl, a, C, _, rfl, by show 1 ≤ 1000; omega, T, ha, ?_⟩
  exact ⟨_, rfl, _, rfl, a, C, rfl, T, hf, .inl ⟨ha, q⟩⟩
theorem init2_ok {K : PySem.W.Frag} {f g msg : Str} {N : List Str} (hN : N.length = 3) {vs : List V} {H : Hp} {Q : VK} {E : XK} (h : spI2 K f g vs H Q E) : tInit2 K f g msg { nx := fun _ H' => Q .non H', rt := Q } (L2.start N vs) H := by
  obtain ⟨a, C, v, w, rfl, T, hf, hg, ha, q⟩ := h
  have e : L2.start N [V.ref a, v, w] = [some (.ref a), some v, some w] := by unfold L2.start; rw [hN] <;> rfl
  rw [e]
  refine ⟨_, rfl, a, C, _, rfl, by show 1 ≤ 1000; omega, T, ha, ?_⟩
  refine ⟨_, rfl, _, rfl, a, C, rfl, T, hf, .inl ⟨ha, fun dx hdx ne => ?_⟩⟩
  exact ⟨_, rfl, _, rfl, a, C, rfl, T, hg, .inr ⟨dx, _, upd_same, by rw [upd_ne ne, upd_same], by show 1 ≤ 900; omega, q dx hdx ne⟩⟩
/-! ### the rule for a def that may raise -/
section
variable {P : Program} {w : World} {c : Cn} {mg : Str → Option Value} {base : Heap} {N ps : List Str} {x qual : Str} {params : Arguments} {body : List Stmt} {scope : Scope} {f : Addr} {fd : FuncData} {Sf : FS}
/-- the walk of a def that may raise -/
def WkX (c : Cn) (n m : Nat) (keep : List Nat) (Sf : FS) (t : WX → TS) : Prop := ∀ ts Post, Sf ts Post → ts.length = n → ∀ A : Amb, A.c = c → A.keep = keep → ∀ W, XOk A W (fun k fs e => Post (.exc k fs (fin keep 0 ts e))) → WS A (t W) (env0 m ts)
  (fun e => Post (.ret N_ (fin keep 0 ts e))) (fun t e => Post (.ret t (fin keep 0 ts e))) (fun _ => False) (fun _ => False)
theorem okX_of {k n m : Nat} (keep : List Nat) (F : FunD c.K x qual params body scope [] [] f fd) (hn : ps.length = n) (sc : FnScope N ps scope) (hk : keep.all (fun i => decide (i < n)) = true) (hl : N.length - n = m)
    (t : WX → TS) (ht : ∀ (cdv : Value) (A : Around) (outer : List PySem.Env) (s : Shared) (H : Hp) (E : XK) (W : WX), Takes (cxOf (L2.CX P w) P w c.K mg base N qual scope f cdv A outer s H E) W → Room k (A.deeper (envOfC qual scope s.heap.objs.size f cdv)) → PSs (cxOf (L2.CX P w) P w c.K mg base N qual scope f cdv A outer s H E) body (t W))
    (hw : WkX c n m keep Sf t) : FnOk P w c.K mg base (L2.CX P w) (k + 1) f fd ps (spX c n Sf) := by
  have F0 := F
  obtain ⟨oc, od, dV, kV, doc, pm, an, cdv, ct, osl, rfl, lk, hcd, hD, hKw⟩ := F.ex
  exact fn_of lk hcd sc (fun vs H Q E h => by rw [spX_len vs H Q E h, hn]) fun A outer s H vs Q E hr hs =>
    ⟨t (fun cls d _ H => E cls d H), ht cdv A outer s H E _ (takes_of rfl rfl rfl rfl) hr, fnx_body keep (fun i hi => by simpa using List.all_eq_true.mp hk i hi) hl hw vs H Q E hs⟩
theorem fox_of {k : Nat} (n m : Nat) (keep : List Nat) (F : FunD c.K x qual params body scope [] [] f fd) (hm : mg x = some (.ref f)) (hn : ps.length = n) (sc : FnScope N ps scope)
    (hb : ∀ (kV doc pm : Value) (an : Option Addr) (cdv ct : Value) (us : List Value), us.length = ps.length → bindArgs (PySem.W.fnOf x qual params body scope .none kV doc pm an cdv ct) ⟨us, []⟩ = pure (ps.zip us))
    (hk : keep.all (fun i => decide (i < n)) = true) (hl : N.length - n = m)
    (t : WX → TS) (ht : ∀ (cdv : Value) (A : Around) (outer : List PySem.Env) (s : Shared) (H : Hp) (E : XK) (W : WX), Takes (cxOf (L2.CX P w) P w c.K mg base N qual scope f cdv A outer s H E) W → Room k (A.deeper (envOfC qual scope s.heap.objs.size f cdv)) → PSs (cxOf (L2.CX P w) P w c.K mg base N qual scope f cdv A outer s H E) body (t W))
    (hw : WkX c n m keep Sf t) : Fox P w c.K mg base (k + 1) x ps (spX c n Sf) := ⟨f, fd, hm, F.kp, F.bindsN hb, okX_of keep F hn sc hk hl t ht hw⟩
end
end TL
/-! TR4: what the walk meets of exceptions. -/
namespace TL
open PySem PySem.Spec PyProof.Rows L2
/-- try: .. except C as n: .. -/
def tTryAs (K : PySem.W.Frag) (C : Addr) (i : Nat) (tt : WX → TS) (ts : Addr → Value → Option Addr → TS) (W : WX) : TS := fun D σ H => tt (wAs K (.ref C) i ts W D) D σ H
def W0 : WX := fun _ _ _ _ => False
theorem takesW0 {X : Cx} : Takes X W0 := takes0
section
variable {X : Cx} {x n : Str} {C : Addr} {i : Nat} {body suite orelse : List Stmt} {b₀ : Stmt} {np pos pos' : Pos} {tt : WX → TS} {ts : Addr → Value → Option Addr → TS} {W : WX} {u : TS}
theorem ps_tryAs (hm : X.mg x = some (.ref C)) (hN : X.N.Nodup) (tk : Takes X W)
    (hb : ∀ (W : WX) (pn : List (Addr × Obj)) (xe : Value → Shared → Prop), Takes (X.tr pn xe) W → PSs (X.tr pn xe) body (tt W))
    (hsu : ∀ (a : Addr) (oe : Obj) (cls : Value) (d : Option Addr) (pn : List (Addr × Obj)), Zc cls d oe → (∃ vs, oe.data = .fields vs) → PSs (X.suite a ((a, oe) :: pn)) (b₀ :: suite) (ts a cls d))
    (hs : X.stack = X.env :: X.outer := by rfl) (hf : X.env.frame = some X.env.locals := by rfl) (hi : X.N[i]? = some n := by rfl) (hln : X.env.kindOf n = some .local := by rfl) (hg : Gl X x := by rfl) (hd : (x == ("__debug__" : Str)) = false := by decide) :
    PS X (.Try body [.ExceptHandler (some (.Name x np)) (some n) (b₀ :: suite) pos'] [] [] pos) (tTryAs X.K C i tt ts W) :=
  ps_try_as hs hf hN hi hln ⟨hg, hd, .inl hm⟩ tk (fun W pn xe tk _ => hb W pn xe tk) hsu
end
/-- what the text's exception classes have: xs: such classes, fs: (class, field), ms: (class, except's class, caught), ks: (class, isinstance's class, answer), tl: own classes that no plain thing is of -/
structure CE (c : Cn) (xs : List Nat) (fs : List (Nat × Str)) (ms ks : List (Nat × Nat × Bool)) (tl : List Nat) : Prop where
  xc : ∀ k, k ∈ xs → XcC c.K (c.cls k)
  xv : ∀ k, k ∈ xs → PySem.W.kitOne c.K (.ref (c.cls k)) (.type "ValueError") = some true
  xn : ∀ p, p ∈ fs → PySem.W.findIn c.K (.ref (c.cls p.1)) p.2 = some none
  xm : ∀ p, p ∈ ms → PySem.W.exmOne c.K (.ref (c.cls p.1)) (.ref (c.cls p.2.1)) = some p.2.2
  xk : ∀ p, p ∈ ks → PySem.W.kitOne c.K (.ref (c.cls p.1)) (.ref (c.cls p.2.1)) = some p.2.2
  ty : ∀ k, k ∈ tl → ∀ n, n ∈ tyNames → PySem.W.kitOne c.K (.type n) (.ref (c.cls k)) = some false
theorem kveB_ok {K : PySem.W.Frag} {x : Str} (h : kveB x K = true) : PySem.W.kitOne K (.ref (He.ga K x)) (.type "ValueError") = some true := of_decide_eq_true h
theorem ownInit_ok {K : PySem.W.Frag} {x : Str} (h : ownInitB x K = true) : PySem.W.findIn K (.ref (He.ga K x)) "__init__" = some (some (.ref (He.fAd K (x, some "__init__")))) ∧ PySem.W.typeIn K (.ref (He.fAd K (x, some "__init__"))) = some (.type "function") := by
  obtain ⟨h1, h2⟩ := He.ba h
  exact ⟨He.eqO_ok h1, of_decide_eq_true h2⟩
section
variable {A : Amb} {G H G' H' : Hp} {σ : L2.St} {env : Env} {P P' : Nat → As} {X X' : As} {v x y z : V} {t t1 t2 : T} {vs : List V} {as : List Ar} {ta tb te : TE} {r : R2} {ts0 : List T} {W : WX} {xc : Nat → List (Str × D) → Env → Prop} {Post : T → Env → Prop} {nx bk ct : Env → Prop} {rt : T → Env → Prop}
  {xs : List Nat} {fs : List (Nat × Str)} {ms ks : List (Nat × Nat × Bool)} {tl : List Nat}
theorem xok0 : XOk A W0 (fun _ _ _ => False) := fun _ _ _ _ _ _ _ _ _ h => h.elim
theorem wsx_raise1 {k : Nat} {f : Str} {tr : TA} (hE : CE A.c xs fs ms ks tl) (m1 : xs.contains k = true) (m2 : fs.contains (k, f) = true) (hx : XOk A W xc) (h : WA A tr env fun as e => ∃ o d, as = [.t (.frz o d)] ∧ xc k [(f, d)] e) :
    WS A (tRaise (A.c.cls k) (spI1 A.c.K f) W tr) env nx rt bk ct := ws_raise1 hx (hE.xc k (List.contains_iff_mem.mp m1)).ox (hE.xn _ (List.contains_iff_mem.mp m2)) h
theorem wsx_raise2 {k : Nat} {f g : Str} {tr : TA} (hE : CE A.c xs fs ms ks tl) (m1 : xs.contains k = true) (m2 : fs.contains (k, f) = true) (m3 : fs.contains (k, g) = true) (hfg : (f == g) = false) (hx : XOk A W xc)
    (h : WA A tr env fun as e => ∃ o d o2 d2, as = [.t (.frz o d), .t (.frz o2 d2)] ∧ xc k [(f, d), (g, d2)] e) :
    WS A (tRaise (A.c.cls k) (spI2 A.c.K f g) W tr) env nx rt bk ct := ws_raise2 hx (hE.xc k (List.contains_iff_mem.mp m1)).ox (hE.xn _ (List.contains_iff_mem.mp m2)) (hE.xn _ (List.contains_iff_mem.mp m3)) hfg h
theorem wsx_tryAs {i : Nat} {C : Addr} {tt : WX → TS} {ts : Addr → Value → Option Addr → TS} {K : List Nat} (hx : XOk A W xc) (eK : A.keep = K) (hk : K.contains i = false)
    (h : ∀ (G H : Hp) (U : As) (W' : WX), XOk (A.from_ G H U) W' (xAs A C i ts nx rt bk ct xc) → WS (A.from_ G H U) (tt W') env nx rt bk ct) : WS A (tTryAs A.c.K C i tt ts W) env nx rt bk ct := ws_tryAs hx eK hk h
theorem wsx_tryAs0 {i : Nat} {C : Addr} {tt : WX → TS} {ts : Addr → Value → Option Addr → TS} {K : List Nat} (eK : A.keep = K) (hk : K.contains i = false)
    (h : ∀ (G H : Hp) (U : As) (W' : WX), XOk (A.from_ G H U) W' (xAs A C i ts nx rt bk ct fun _ _ _ => False) → WS (A.from_ G H U) (tt W') env nx rt bk ct) : WS A (tTryAs A.c.K C i tt ts W0) env nx rt bk ct := ws_tryAs xok0 eK hk h
theorem xAs_yes {j i k : Nat} {ts : Addr → Value → Option Addr → TS} {fs0 : List (Str × D)} (hE : CE A.c xs fs ms ks tl) (m : ms.contains (k, j, true) = true) (hi : Nat.ble (i + 1) env.length = true)
    (h : ∀ (G H : Hp) (U : As) (a dd : Addr) (gs : List (Str × V)), G dd = some (.xd gs) → RepX A.c G fs0 gs →
      WS (A.from_ G H U) (ts a (.ref (A.c.cls k)) (some dd)) (env.set i (some (.frz none (.oth (.ref a))))) (fun e => nx (e.set i none)) rt (fun e => bk (e.set i none)) (fun e => ct (e.set i none))) :
    xAs A (A.c.cls j) i ts nx rt bk ct xc k fs0 env := ⟨true, hE.xm _ (List.contains_iff_mem.mp m), fun _ => ⟨Nat.le_of_ble_eq_true hi, h⟩, (fun z => nomatch z)⟩
theorem xAs_no {j i k : Nat} {ts : Addr → Value → Option Addr → TS} {fs0 : List (Str × D)} (hE : CE A.c xs fs ms ks tl) (m : ms.contains (k, j, false) = true) (h : xc k fs0 env) : xAs A (A.c.cls j) i ts nx rt bk ct xc k fs0 env :=
  ⟨false, hE.xm _ (List.contains_iff_mem.mp m), (fun z => nomatch z), fun _ => h⟩
theorem wcx_is {a dd : Addr} {k j : Nat} {b : Bool} {gs : List (Str × V)} {o o2 : Option V} (hd : A.G dd = some (.xd gs)) (hE : CE A.c xs fs ms ks tl) (m1 : xs.contains k = true) (m2 : ks.contains (k, j, b) = true) (q : Post (B b) env) :
    WC A (rIsX A.c.K a (.ref (A.c.cls k)) (some dd)) [.t (.frz o (.oth (.ref a))), .t (.frz o2 (.oth (.ref (A.c.cls j))))] env Post :=
  wc_isX hd (hE.xc k (List.contains_iff_mem.mp m1)).ex (fun _ z => z) (hE.xk _ (List.contains_iff_mem.mp m2)) q
theorem wcx_ve {a dd : Addr} {k : Nat} {gs : List (Str × V)} {o o2 : Option V} (hd : A.G dd = some (.xd gs)) (hE : CE A.c xs fs ms ks tl) (m1 : xs.contains k = true) (q : Post (B true) env) :
    WC A (rIsX A.c.K a (.ref (A.c.cls k)) (some dd)) [.t (.frz o (.oth (.ref a))), .t (.frz o2 (.oth (.ty "ValueError")))] env Post :=
  wc_isX hd (hE.xc k (List.contains_iff_mem.mp m1)).ex (fun _ z => z) (hE.xv _ (List.contains_iff_mem.mp m1)) q
theorem wex_f {a dd : Addr} {k : Nat} {f : Str} {gs : List (Str × V)} {fs0 : List (Str × D)} {d : D} (hd : A.G dd = some (.xd gs)) (hr : RepX A.c A.G fs0 gs) (hl : fs0.lookup f = some d) (h : WE A te env fun t e => (∃ o, t = .frz o (.oth (.ref a))) ∧ Post (.frz none d) e) :
    WE A (tXf a (.ref (A.c.cls k)) (some dd) (A.c.cls k) f te) env Post := we_xf hd hr hl h
/-- C(..) that may raise -/
def ffM (Post : T → Env → Prop) (xc : Nat → List (Str × D) → Env → Prop) (env : Env) (as : List Ar) : FO → Prop
  | .ret r ts' => r = N_ ∧ ∃ t r', ts' = some t :: r' ∧ Post t (backT env as r')
  | .exc k fs ts' => xc k fs (backT env as ts'.tail)
theorem we_makeX {n k : Nat} {Sf : FS} {tr : TA} (hx : XOk A W xc) (h : WA A tr env fun as e => ∃ ts, argT e as = some ts ∧ ts.length + 1 = n ∧ (slots as).Nodup ∧ Sf (.ins k [] :: ts) (ffM Post xc e as)) :
    WE A (tMakeSD (A.c.cls k) (spX A.c n Sf) (fun σ cls d H => W cls d σ H) tr) env Post := fun G H σ P s Q kq => by
  refine h G H σ P s _ fun as e1 vs G1 H1 P1 F1 p1 r1 => ?_
  obtain ⟨ts, ha, hn, nd, hS⟩ := p1
  intro x dx hx0 hdx nx0
  let H2 : Hp := upd (upd H1 dx (.own x)) x (.ins (A.c.cls k) dx [])
  have e12 : Ex H1 H2 := fun a o e => by
    show upd (upd H1 dx (.own x)) x (.ins (A.c.cls k) dx []) a = some o
    rw [upd_ne (ne_of_none e hx0), upd_ne (ne_of_none e hdx)]
    exact e
  have gx : G1 x = none := r1.sr.gnone hx0
  have st1 : Stp G1 H1 (uP P1) G1 H2 (fun a => uP P1 a ∨ a = x) := ⟨Ex.refl _, fun a o e _ => e12 a o e, fun a z => by
    rcases z with z | z
    · exact .inl z
    · exact .inr (z ▸ hx0), fun a z => .inl z⟩
  have s2 : SR A G1 H2 σ e1 P1 := ⟨⟨r1.sr.len, r1.sr.le.trans e12, fun i t e => by
    obtain ⟨w, hw, tw⟩ := r1.sr.slot i t e
    exact ⟨w, hw, tw.mono (Ex.refl _) (fun _ h => h) (fun a o _ e => e12 a o e) fun a z => (r1.sr.own i a z).1⟩, r1.sr.dis, fun i a z => ⟨(r1.sr.own i a z).1, fun q => by
      cases q2 : H1 a with
      | none => exact (r1.sr.own i a z).2 q2
      | some o => rw [e12 a o q2] at q; cases q⟩⟩, r1.sr.base.trans (st1.wk (fun _ h => h) fun a z => .inl (.inl z)), r1.sr.kp⟩
  have bx : A.U x ∨ A.H x = none := r1.sr.bnew hx0
  have m0 : TmpA A G1 H2 σ P1 [.t (.ins k [])] (fun a => a = x) [.ref x] := (⟨⟨x, dx, [], noF, rfl, rfl, gx, upd_same, fun _ z => z.elim, rfl⟩, fun a z => by
    subst z
    refine ⟨fun ⟨i, y⟩ => (r1.sr.own i a y).2 hx0, gx, ?_⟩
    show upd (upd H1 dx (.own a)) a (.ins (A.c.cls k) dx []) a ≠ none
    rw [upd_same]
    exact Option.some_ne_none _, fun a z => by subst z; exact bx⟩ : Tmp A G1 H2 P1 (.ins k []) (fun a => a = x) (.ref x)).one
  have m1 : TmpA A G1 H2 σ P1 as F1 vs := r1.tm.carry st1
  have m2 := m0.app m1 fun a z y => by
    subst y
    exact (r1.tm.fd a z).2.2 hx0
  have ha2 : argT e1 (.t (.ins k []) :: as) = some (.ins k [] :: ts) := by
    show (argT e1 as).map _ = _
    rw [ha]; rfl
  obtain ⟨_, Pc, sl, co⟩ := call_core s2 m2 ha2 nd
  have stF : Stp G H (uP P) G1 H2 (fun a => uP P1 a ∨ (a = x ∨ F1 a)) := r1.st.trans ((st1.frame F1).wk (V := fun a => uP P1 a ∨ F1 a) (fun _ h => h) fun a z => by
    rcases z with z | z | z
    · exact .inl (.inl (.inl z))
    · exact .inl (.inl (.inr z))
    · exact .inl (.inr z))
  refine ⟨.ins k [] :: ts, G1, Pc, _, by simpa using hn, sl, hS, fun t ts' v G3 H3 P3 F3 hp s3 st tr fd => ?_, fun kk fs ts' d gs G3 H3 P3 hp s3 st hd hr => ?_⟩
  · obtain ⟨rfl, t', r', rfl, hp⟩ := hp
    obtain ⟨w, hw, tw⟩ := s3.slot 0 t' rfl
    cases hw
    obtain ⟨P4, r4⟩ := co _ (.ref x) t' G3 H3 P3 (P3 0) s3 (st.wk (fun _ h => h) fun a z => by
      rcases z with z | z
      · exact .inl (.inl z)
      · exact .inl (.inl ⟨0, z⟩)) tw fun a z => ⟨fun j i e y => not_t0 (s3.dis _ _ a z y ▸ e), s3.own 0 a z⟩
    exact ⟨tr.1, kq t' _ (.ref x) G3 H3 P4 (P3 0) hp ⟨r4.sr, stF.trans r4.st, r4.tm⟩⟩
  · obtain ⟨P4, r4⟩ := co ts' .non N_ G3 H3 P3 noF s3 (st.wk (fun _ z => z) fun a z => .inl (by rcases z with z | z; exact z; exact z.elim)) ⟨rfl, fun _ z => nomatch z⟩ fun a z => z.elim
    have e3 : backT e1 (.t (.ins k []) :: as) ts' = backT e1 as ts'.tail := by
      cases ts' <;> (conv => lhs; unfold backT) <;> rfl
    have s5 : SR A G3 H3 σ (backT e1 (.t (.ins k []) :: as) ts') P4 := r4.sr
    rw [e3] at s5
    exact hx.at_ (show xc kk fs (backT e1 as ts'.tail) from hp) s5 hd hr
end
end TL
/-! TR5: plain things and own classes; list.count of truths; lists times. -/
namespace TL
open PySem PySem.Spec PyProof.Rows L2
theorem tyn_mem {d : D} {n : String} (h : d.tyn = some n) : n ∈ tyNames := by
  cases d <;> cases h <;> decide
section
variable {A : Amb} {G H G' H' : Hp} {σ : L2.St} {env : Env} {P P' : Nat → As} {X X' : As} {v x y z : V} {t t1 t2 : T} {vs : List V} {as : List Ar} {ta tb te : TE} {Post : T → Env → Prop} {xs : List Nat} {fs : List (Nat × Str)} {ms ks : List (Nat × Nat × Bool)} {tl : List Nat}
/-- isinstance(x, C), x a plain thing, C a class of the text's -/
theorem wcx_plain {k : Nat} {d : D} {o o2 : Option V} (ht : d.typ) (hE : CE A.c xs fs ms ks tl) (m : tl.contains k = true) (q : Post (B false) env) : WC A (rIsi A.c.K) [.t (.frz o d), .t (.frz o2 (.oth (.ref (A.c.cls k))))] env Post := by
  obtain ⟨n, hn⟩ := ht
  exact wc_flat (d := .bl false) (ds := [d, .oth (.ref (A.c.cls k))]) rfl (fun _ => rfl) (fun H vs rp Q q => by
    obtain ⟨v, r, e, h1, w, r', e2, h2, h3⟩ := rp
    cases h3
    cases h2
    subst e2 e
    exact ⟨v, _, .type n, _, false, rfl, .own _, tyx h1 hn, hE.ty k (List.contains_iff_mem.mp m) n (tyn_mem hn), q⟩) q
end
/-! ### xs.count(True) -/
def eqbl (k : Bool) (v : Value) : Bool := match v with
  | .bool b => b == k
  | _ => false
theorem bls_of : ∀ {bs : List Bool} {us : List Value}, Vals (bs.map V.bl) us → us = bs.map Value.bool
  | [], _, h => by cases h; rfl
  | b :: bs, _, h => by
    cases h with
    | cons r h =>
      obtain rfl : _ = Value.bool b := r
      rw [bls_of h] <;> rfl
theorem eqbl_at (A : Around) (s : Shared) (b k : Bool) : SeqAt.EqAt A s (.bool b) (.bool k) (b == k) := SeqAt.EqAt.bool_bool b k
theorem eqbl_count (k : Bool) : ∀ bs : List Bool, (bs.map Value.bool).countP (eqbl k) = bs.count k
  | [] => rfl
  | b :: bs => by
    rw [List.map_cons, List.countP_cons, List.count_cons, eqbl_count k bs] <;> rfl
def rCntB (K : PySem.W.Frag) : V → List V → Hp → VK → Prop := fun x xs H Q => ∃ (p : Addr) (bs : List Bool) (k : Bool), x = .ref p ∧ xs = [.bl k] ∧ SqL K H p (bs.map V.bl) ∧ Q (.int (bs.count k : Nat)) H
theorem mt_countB {X : Cx} : MtR X "list.count" (rCntB X.K) := by
  rintro pins s σ H x xs v us Q I rx rxs ⟨p, bs, k, rfl, rfl, hs, q⟩
  cases rx
  obtain ⟨u, rfl, ru⟩ := rxs.one
  obtain rfl : u = Value.bool k := ru
  obtain ⟨its, rv, ⟨⟨cls, dd, data, sl⟩, n, ho, hc, hdn, hd⟩, hlen⟩ := I.list hs
  simp only at hc hd
  subst hc hd
  have hi := bls_of rv
  subst hi
  refine call_meets PySem.F.slot_list_count ⟨_, ho, rfl⟩ PySem.F.entry_list_count (PySem.F.args_list_count_2 _ _) (SeqAt.list_countAt p (bs.map Value.bool).toArray n dd sl (.bool k) (eqbl k)) ⟨ho, fun y hy => ?_, ?_⟩
  · obtain ⟨b, _, rfl⟩ := List.mem_map.mp (List.mem_toArray.mp hy)
    exact eqbl_at _ _ b k
  · refine ⟨.int (bs.count k : Nat), H, I.tok _, ⟨s.toks, ?_⟩, q⟩
    have e := eqbl_count k bs
    show Value.int (((bs.map Value.bool).toArray.toList.countP (eqbl k) : Nat) : Int) s.toks = _
    rw [show (bs.map Value.bool).toArray.toList = bs.map Value.bool from rfl, e]
section
variable {A : Amb} {G H G' H' : Hp} {σ : L2.St} {env : Env} {P P' : Nat → As} {X X' : As} {v x y z : V} {t t1 t2 : T} {vs : List V} {as : List Ar} {ta tb te : TE} {Post : T → Env → Prop}
theorem trs_bl {c : Cn} {F : As} : ∀ {bs : List Bool} {vs : List V}, TRs c G H (bs.map B) F vs → vs = bs.map V.bl
  | [], _, h => h
  | b :: bs, _, ⟨v, r, F1, F2, e, _, _, h1, h2⟩ => by
    subst e
    rw [show v = V.bl b from h1.1, trs_bl h2] <;> rfl
theorem we_cntB {n : Nat} {bs : List Bool} {k : Bool} (h0 : env[n]? = some (some (.lst (bs.map B)))) (q : Post (I (bs.count k : Nat)) env) : WE A (tBM A.c.K "list" (rCntB A.c.K) (tVar n) (tCons (tC (.bl k)) tNil)) env Post := fun G H σ P s Q kk => by
  obtain ⟨v, hv, p, vs, F1, rfl, _, _, hp, _, trs⟩ := s.slot n _ h0
  have e := trs_bl trs
  subst e
  exact ⟨_, hv, .inl ⟨rfl, _, SqL.of hp⟩, p, bs, k, rfl, rfl, SqL.of hp, kk _ _ _ G H P noF q (.frz s rfl fun _ z => nomatch z)⟩
theorem we_cntBn {n m : Nat} {bs : List Bool} {k : Bool} (h0 : env[n]? = some (some (.lst (bs.map B)))) (hm : bs.count k = m) (q : Post (I m) env) : WE A (tBM A.c.K "list" (rCntB A.c.K) (tVar n) (tCons (tC (.bl k)) tNil)) env Post := we_cntB h0 (hm ▸ q)
/-! ### [x] * n -/
theorem wr_rep1 {o : Option V} {t : T} {i : Int} (h0 : 0 ≤ i) (h1 : i ≤ 100000) (q : Post (.lst (List.replicate i.toNat (F t.data))) env) : WR A rRep (.t (.lst [t])) (.t (.frz o (.int i))) env Post := fun G H σ P x y X s m Q k => by
  obtain ⟨F1, F2, hX1, _, m1, m2⟩ := m.split2
  obtain ⟨F3, hF3, n1⟩ := m1.one
  obtain ⟨_, _, n2⟩ := m2.one
  have ey : y = .int i := n2.tr.1
  subst ey
  obtain ⟨p, ws, F4, rfl, hp3, hg, hp, h4, trs⟩ := n1.tr
  obtain ⟨w, r', F5, F6, rfl, h5, _, tw, e0⟩ := trs
  cases e0
  have mt : Tmp A G H P t F5 w := ⟨tw, fun a z => n1.fd a (h4 a (h5 a z)).1, fun a z => n1.bs a (h4 a (h5 a z)).1⟩
  obtain ⟨s2, st2, rp⟩ := fixT s mt
  refine ⟨p, i, [w], rfl, rfl, hp, by omega, by omega, by rw [sizeLine_eq]; simp; omega, fun l hl => ?_⟩
  rw [show (List.replicate i.toNat [w]).flatten = List.replicate i.toNat w from by
    generalize i.toNat = n
    induction n with
    | zero => rfl
    | succ n ih => rw [List.replicate_succ, List.replicate_succ, List.flatten_cons, ih]; rfl]
  have rps : Reps A.c (frzH G H F5) (List.replicate i.toNat t.data) (List.replicate i.toNat w) := by
    generalize i.toNat = n
    induction n with
    | zero => exact rfl
    | succ n ih => exact ⟨w, _, rfl, rp, ih⟩
  have r := alloc_frzs s2 rps (U0 := uP P) (fun _ z => z) hl
  rw [List.map_replicate] at r
  exact k _ _ _ _ _ _ _ q ⟨r.sr, (st2.trans r.st).wk (fun a z => by
    rcases z with z | z
    · exact .inl z
    · exact .inr (hX1 a (hF3 a (h4 a (h5 a z)).1))) fun a z => .inl z, r.tm⟩
end
end TL
/-! TR6: try: .. except C as n: .. else: .. -/
namespace TL
open PySem PySem.Spec PyProof.Rows L2
section
variable {X : Cx} {x n : Str} {C : Addr} {i : Nat} {body suite orelse : List Stmt} {b₀ : Stmt} {np pos pos' : Pos} {tt : WX → TS} {ts : Addr → Value → Option Addr → TS} {W : WX} {u : TS}
/-- an exception of the body meets its only clause, the else (if any) left aside -/
theorem meets_as {pins : List (Addr × Obj)} {D : Ends} {xe0 : Value → Shared → Prop} {e0 : Value} {sx : Shared} (ok : X.Ok) (hm : X.mg x = some (.ref C)) (hN : X.N.Nodup) (tk : Takes X W) (hi : X.N[i]? = some n) (hln : X.env.kindOf n = some .local)
    (hsu : ∀ (a : Addr) (oe : Obj) (cls : Value) (d : Option Addr) (pn : List (Addr × Obj)), Zc cls d oe → (∃ vs, oe.data = .fields vs) → PSs (X.suite a ((a, oe) :: pn)) (b₀ :: suite) (ts a cls d))
    (hs : X.stack = X.env :: X.outer) (hf : X.env.frame = some X.env.locals) (hg : Gl X x) (hd : (x == ("__debug__" : Str)) = false) (hx : XE (X.tr (X.pn ++ pins) xe0) (wAs X.K (.ref C) i ts W D) e0 sx) :
    wpAny (model X.prog X.w) X.A (noteFrame e0 X.env) (fun _ s₂ => wpAny (model X.prog X.w) X.A (setFlight e0 none) (fun _ s₃ => wpAny (model X.prog X.w) X.A (handleBy e0 X.env [.ExceptHandler (some (.Name x np)) (some n) (b₀ :: suite) pos']) (SP X pins D) X.xe s₃) X.xe s₂) X.xe sx := by
  obtain ⟨ad, Bg, sT, pinT, τ, Hx, cl, dc, rfl, IT, ground, upto, skyT, free, osT, bare, bo, mt, yes, no⟩ := hx
  have IX : Inv X pins τ Hx sT := IT.ofTry ok
  have frames : X.A.frames = some (X.env :: X.outer) := by rw [ok.frames, hs]
  have skyX : Sky Bg (X.env :: X.outer) ad (Zc cl dc) X.env.locals sx.heap := hs ▸ skyT
  refine Sky.land Zc.steady frames hf skyX fun hp1 fly1 up1 => ?_
  have I1 : Inv X pins τ Hx { sx with heap := hp1 } := IX.landed ground fly1.1 (upto.trans up1) osT bare
  obtain ⟨ob1, vs1, get1, zc1, dat1⟩ := fly1.there
  have outside : ad ∉ frs (X.env :: X.outer) := fun hmem => by
    obtain ⟨_, ob, eo, hnf⟩ := fly1.2.2.1.mem hmem
    rw [get1] at eo
    cases eo
    exact hnf _ dat1
  have notL : ad ≠ X.env.locals := fun z => outside (List.mem_filterMap.mpr ⟨X.env, List.mem_cons_self, by rw [hf, z]⟩)
  have notF : ad ∉ X.fs := fun hmem => by
    obtain ⟨ev, hev, qv⟩ := List.mem_filterMap.mp hmem
    exact outside (List.mem_filterMap.mpr ⟨ev, List.mem_cons_of_mem _ hev, qv⟩)
  have S1 := I1.suite get1 dat1 free notL notF
  refine wpAny_handleBy_cons (codeAny_handlers_test (?_ : wpAny _ _ _ _ _ _)) (fun q => by cases q)
  have tyE : PySem.W.Looks (model X.prog X.w) hp1 (typeOf (.ref ad)) cl := fun A' Q' E' s' kk qq => wpAny_typeOf_ref (kk _ _ get1) (by rw [zc1.1]; exact qq)
  refine ld_glob (X := X.suite ad ((ad, ob1) :: (X.pn ++ pins))) S1 hg hm ((PySem.W.exm_one (M := model X.prog X.w) I1.kIn tyE mt).here ?_) hd
  cases bo with
  | false =>
    show wpAny _ X.A (handleBy (.ref ad) X.env []) (SP X pins D) X.xe _
    obtain ⟨_, _, _, ob, vs, tb, _, _, get0, _, dat0, fld1, _⟩ := id fly1
    refine wpAny_handleBy_nil (?_ : wpAny _ _ _ _ _ _)
    unfold PySem.passOn
    refine wpAny_bind (wpAny_field get0 dat0 fld1 (?_ : wpAny _ _ _ _ _ _))
    rw [if_neg (by simp : ¬ ((Value.ref tb == Value.none) = true))]
    have go : wpAny (model X.prog X.w) X.A (setFlight (.ref ad) X.env.frame) (fun _ sy => wpAny (model X.prog X.w) X.A (throw (.ref ad) : Sem Flow) (SP X pins D) X.xe sy) X.xe { sx with heap := hp1 } := by
      rw [hf]
      exact HandSPX.setFlight_upZ fly1 fun hp2 hold up2 => wpAny_throw (tk _ _ ⟨ad, Bg, sT, pins, τ, Hx, cl, dc, rfl, IX, ground, (upto.trans up1).trans up2, .inr (.inr (by rw [hs]; exact hold)), free, osT, bare, no rfl⟩)
    first | exact wpAny_bind (wpAny_pure (wpAny_bind go)) | exact wpAny_bind go
  | true =>
    refine codeAny_handlers_suite_as (HandSPX.lands_againZ fly1 fun hp2 fly2 up2 => ?_)
    have I2 : Inv X pins τ Hx { sx with heap := hp2 } := IX.landed ground fly2.1 ((upto.trans up1).trans up2) osT bare
    obtain ⟨ob2, vs2, get2, zc2, dat2⟩ := fly2.there
    refine store_ok (X := X.suite ad ((ad, ob2) :: (X.pn ++ pins))) (v := .ref ad) (I2.suite get2 dat2 free notL notF) hN hi (.inl hln) rfl (fun s5 S5 => ?_) (.inr hln)
    have leave : ∀ {s6 : Shared} {τ6 : L2.St} {H6 : Hp} {R : Shared → Prop}, Inv (X.suite ad ((ad, ob2) :: (X.pn ++ pins))) [] τ6 H6 s6 → (∀ s7, Inv X pins (τ6.set i none) H6 s7 → R s7) →
        wpAny (model X.prog X.w) X.A (do bindName X.env n .none; unbindBehindTheSuite X.env n pos') (fun _ s7 => R s7) X.xe s6 := fun {s6 τ6 H6 R} S6 hR => gone_ok (S6.unsuite ok) hN hi hln hR
    refine wpAny_mono ((hsu ad ob2 cl dc (X.pn ++ pins) zc2 ⟨_, dat2⟩).run [] s5 _ Hx _ S5 (yes rfl ad free)) (fun fl s6 hsp => ?_) (fun _ _ z => z.elim)
    cases fl with
    | ret v => obtain ⟨w, τ6, H6, S6, r6, q6⟩ := hsp; exact leave S6 fun s7 J7 => ⟨w, _, _, J7, r6, q6⟩
    | next => obtain ⟨τ6, H6, S6, q6⟩ := hsp; exact leave S6 fun s7 J7 => ⟨_, _, J7, q6⟩
    | brk => obtain ⟨τ6, H6, S6, q6⟩ := hsp; exact leave S6 fun s7 J7 => ⟨_, _, J7, q6⟩
    | cont => obtain ⟨τ6, H6, S6, q6⟩ := hsp; exact leave S6 fun s7 J7 => ⟨_, _, J7, q6⟩
/-- try: .. except C as n: .. else: .. -/
def tTryAsE (K : PySem.W.Frag) (C : Addr) (i : Nat) (tt : WX → TS) (ts : Addr → Value → Option Addr → TS) (u : TS) (W : WX) : TS := fun D σ H => tt (wAs K (.ref C) i ts W D) { D with nx := u D } σ H
theorem ps_tryAsE (ho : PSs X orelse u) (hm : X.mg x = some (.ref C)) (hN : X.N.Nodup) (tk : Takes X W)
    (hb : ∀ (W : WX) (pn : List (Addr × Obj)) (xe : Value → Shared → Prop), Takes (X.tr pn xe) W → PSs (X.tr pn xe) body (tt W))
    (hsu : ∀ (a : Addr) (oe : Obj) (cls : Value) (d : Option Addr) (pn : List (Addr × Obj)), Zc cls d oe → (∃ vs, oe.data = .fields vs) → PSs (X.suite a ((a, oe) :: pn)) (b₀ :: suite) (ts a cls d))
    (hs : X.stack = X.env :: X.outer := by rfl) (hf : X.env.frame = some X.env.locals := by rfl) (hi : X.N[i]? = some n := by rfl) (hln : X.env.kindOf n = some .local := by rfl) (hg : Gl X x := by rfl) (hd : (x == ("__debug__" : Str)) = false := by decide) :
    PS X (.Try body [.ExceptHandler (some (.Name x np)) (some n) (b₀ :: suite) pos'] orelse [] pos) (tTryAsE X.K C i tt ts u W) := by
  refine ⟨fun pins s σ H D I h => wpAny_Try_except ?_⟩
  have bodyRuns := (hb (wAs X.K (.ref C) i ts W D) (X.pn ++ pins) _ fun e0 sx hx => meets_as (np := np) (pos' := pos') I.ok hm hN tk hi hln hsu hs hf hg hd hx).run [] s σ H { D with nx := u D } (I.toTry _) h
  refine wpAny_mono bodyRuns (fun fl s1 hsp => ?_) (fun e s1 he => he)
  have ok := I.ok
  cases fl with
  | next => obtain ⟨σ', H', J', q⟩ := hsp; exact ho.run pins s1 σ' H' D (J'.ofTry ok) q
  | ret v => obtain ⟨w, σ', H', J', r, q⟩ := hsp; exact ⟨w, σ', H', J'.ofTry ok, r, q⟩
  | brk => obtain ⟨σ', H', J', q⟩ := hsp; exact ⟨σ', H', J'.ofTry ok, q⟩
  | cont => obtain ⟨σ', H', J', q⟩ := hsp; exact ⟨σ', H', J'.ofTry ok, q⟩
end
section
variable {A : Amb} {G H G' H' : Hp} {σ : L2.St} {env : Env} {P P' : Nat → As} {W : WX} {xc : Nat → List (Str × D) → Env → Prop} {nx bk ct : Env → Prop} {rt : T → Env → Prop}
theorem ws_tryAsE {i : Nat} {C : Addr} {tt : WX → TS} {u : TS} {ts : Addr → Value → Option Addr → TS} {K : List Nat} (hx : XOk A W xc) (eK : A.keep = K) (hk : K.contains i = false)
    (h : ∀ (G H : Hp) (U : As) (W' : WX), XOk (A.from_ G H U) W' (xAs A C i ts nx rt bk ct xc) → WS (A.from_ G H U) (tt W') env (fun e => WS A u e nx rt bk ct) rt bk ct) :
    WS A (tTryAsE A.c.K C i tt ts u W) env nx rt bk ct := fun G H σ P s D n r b c => by
  have hk' : A.keep.contains i = false := eK ▸ hk
  refine h G H (uP P) (wAs A.c.K (.ref C) i ts W D) (fun G1 H1 σ1 P1 e1 k fs d gs hq s1 hd hr => ?_) G H σ P s.from_ { D with nx := u D } (fun e G' H' σ' P' p s' x => p G' H' σ' P' (s.onto s') D (fun e G2 H2 σ2 P2 q2 s2 x2 => n e G2 H2 σ2 P2 q2 s2 (x.trans x2)) r (fun e G2 H2 σ2 P2 q2 s2 x2 => b e G2 H2 σ2 P2 q2 s2 (x.trans x2)) (fun e G2 H2 σ2 P2 q2 s2 x2 => c e G2 H2 σ2 P2 q2 s2 (x.trans x2)))
    (fun t e v G' H' σ' P' F p s' m => r t e v G' H' σ' P' F p (s.onto s') (m.onto s s')) (fun e G' H' σ' P' p s' x => b e G' H' σ' P' p (s.onto s') x) (fun e G' H' σ' P' p s' x => c e G' H' σ' P' p (s.onto s') x)
  obtain ⟨bo, hm, hy, hn⟩ := hq
  have s2 := s.onto s1
  refine ⟨bo, hm, fun hb a ha => ?_, fun hb => hx.at_ (hn hb) s2 hd hr⟩
  obtain ⟨hi, hw⟩ := hy hb
  have ex1 : Ex G G1 := s1.base.g
  have m0 : Tmp A G1 H1 P1 (.frz none (.oth (.ref a))) noF (.ref a) := .flat rfl fun _ z => nomatch z
  have s3 := s2.put m0 i hi fun z => by rw [List.contains_iff_mem.mpr z] at hk'; cases hk'
  refine hw G1 H1 _ a d gs hd hr G1 H1 _ _ s3.from_ _ (fun e G' H' σ' P' p s' x => ?_) (fun t e v G' H' σ' P' F p s' m => ?_) (fun e G' H' σ' P' p s' x => ?_) (fun e G' H' σ' P' p s' x => ?_)
  · exact n _ G' H' _ _ p ((s3.onto s').unset i hk') (ex1.trans x)
  · exact r t e v G' H' σ' P' F p (s3.onto s') (m.onto s3 s')
  · exact b _ G' H' _ _ p ((s3.onto s').unset i hk') (ex1.trans x)
  · exact c _ G' H' _ _ p ((s3.onto s').unset i hk') (ex1.trans x)
theorem wsx_tryAsE {i : Nat} {C : Addr} {tt : WX → TS} {u : TS} {ts : Addr → Value → Option Addr → TS} {K : List Nat} (hx : XOk A W xc) (eK : A.keep = K) (hk : K.contains i = false)
    (h : ∀ (G H : Hp) (U : As) (W' : WX), XOk (A.from_ G H U) W' (xAs A C i ts nx rt bk ct xc) → WS (A.from_ G H U) (tt W') env (fun e => WS A u e nx rt bk ct) rt bk ct) : WS A (tTryAsE A.c.K C i tt ts u W) env nx rt bk ct := ws_tryAsE hx eK hk h
theorem wsx_tryAsE0 {i : Nat} {C : Addr} {tt : WX → TS} {u : TS} {ts : Addr → Value → Option Addr → TS} {K : List Nat} (eK : A.keep = K) (hk : K.contains i = false)
    (h : ∀ (G H : Hp) (U : As) (W' : WX), XOk (A.from_ G H U) W' (xAs A C i ts nx rt bk ct fun _ _ _ => False) → WS (A.from_ G H U) (tt W') env (fun e => WS A u e nx rt bk ct) rt bk ct) : WS A (tTryAsE A.c.K C i tt ts u W0) env nx rt bk ct := ws_tryAsE xok0 eK hk h
end
end TL
/-! TU: lists that their asker changes, tuples joined, pieces of texts. -/
namespace TL
open PySem PySem.Spec PyProof.Rows L2
def rInsert : V → List V → Hp → VK → Prop := fun x vs H Q => ∃ (l : Addr) (xs : List V) (i : Int) (y : V), x = .ref l ∧ vs = [.int i, y] ∧ H l = some (.lst xs) ∧ xs.length < sizeLine ∧ 0 ≤ i ∧ i < 2 ^ 63 ∧
    Q .non (upd H l (.lst (xs.take i.toNat ++ [y] ++ xs.drop i.toNat)))
theorem mt_insertR {X : Cx} : MtR X "list.insert" rInsert := mt_insert
def rSCount : V → List V → Hp → VK → Prop := fun x xs H Q => ∃ a b, x = .str a ∧ xs = [.str b] ∧ Q (.int (Txt.count a b)) H
theorem mt_scount {X : Cx} : MtR X "str.count" rSCount := mt_count
section
variable {A : Amb} {G H : Hp} {σ : L2.St} {P : Nat → As} {env : Env} {te : TE} {tr : TA} {Post : T → Env → Prop} {a b : Ar}
theorem trs_F {c : Cn} {G H : Hp} : ∀ {ds : List D} {F1 : As} {vs : List V}, TRs c G H (ds.map F) F1 vs → Reps c G ds vs
  | [], _, _, h => by cases h; rfl
  | d :: ds, F1, vs, ⟨v, r, F2, F3, e, _, _, h1, h2⟩ => ⟨v, r, e, h1.1, trs_F h2⟩
/-- a list of fixed things that a name holds, and what becomes of it -/
theorem slotF (s : SR A G H σ env P) {n : Nat} {ds : List D} (he : env[n]? = some (some (.lst (ds.map F)))) :
    ∃ p vs, σ[n]? = some (some (.ref p)) ∧ H p = some (.lst vs) ∧ Reps A.c G ds vs ∧
      ∀ (es : List D) ws, Reps A.c G es ws → SR A G (upd H p (.lst ws)) σ (env.set n (some (.lst (es.map F)))) P ∧ Stp G H (uP P) G (upd H p (.lst ws)) (uP P) := by
  obtain ⟨p, vs, F1, hσ, hq, hPq, hF, trs, -⟩ := slot_list (X := noF) (us := []) s he (fun _ z => z.elim) (fun _ z => z.elim)
  refine ⟨p, vs, hσ, hq, trs_F trs, fun es ws rp => ?_⟩
  obtain ⟨p2, vs2, F2, hσ2, _, _, _, _, mk⟩ := slot_list (X := noF) (us := es.map F) s he (fun _ z => z.elim) (fun _ z => z.elim)
  rw [hσ] at hσ2
  cases hσ2
  obtain ⟨s2, st2⟩ := mk ws fun H2 _ => trs_frz rp
  have eP : (fun j a => P j a ∨ (j = n ∧ noF a)) = P := by
    funext j a
    exact propext ⟨fun z => z.elim id fun z => z.2.elim, .inl⟩
  rw [eP] at s2 st2
  exact ⟨s2, st2.wk (fun a z => by rcases z with z | z; exact z; exact z.elim) fun a z => .inl z⟩
theorem reps_rev {c : Cn} {G : Hp} {ds : List D} {vs : List V} (r : Reps c G ds vs) : Reps c G ds.reverse vs.reverse := by
  induction ds generalizing vs with
  | nil => cases r; rfl
  | cons d ds ih =>
    obtain ⟨v, r2, rfl, h1, h2⟩ := r
    rw [List.reverse_cons, List.reverse_cons]
    exact reps_app (ih h2) ⟨v, [], rfl, h1, rfl⟩
theorem reps_last {c : Cn} {G : Hp} {ds : List D} {vs : List V} (r : Reps c G ds vs) : Reps c G ds.dropLast vs.dropLast := by
  rw [List.dropLast_eq_take, List.dropLast_eq_take, reps_len r]
  exact reps_take _ r
theorem reps_erase {c : Cn} {G : Hp} {ds : List D} {vs : List V} (r : Reps c G ds vs) (k : Nat) : Reps c G (ds.eraseIdx k) (vs.eraseIdx k) := by
  rw [List.eraseIdx_eq_take_drop_succ, List.eraseIdx_eq_take_drop_succ]
  exact reps_app (reps_take _ r) (reps_drop _ r)
theorem we_reverseF {n : Nat} {ds : List D} (he : env[n]? = some (some (.lst (ds.map F)))) (q : Post N_ (env.set n (some (.lst (ds.reverse.map F))))) : WE A (tBM0 A.c.K "list" rReverse (tVar n)) env Post := fun G H σ P s Q k => by
  obtain ⟨p, vs, hσ, hq, rp, mk⟩ := slotF s he
  obtain ⟨s2, st2⟩ := mk _ _ (reps_rev rp)
  exact ⟨_, hσ, .inl ⟨rfl, _, SqL.of hq⟩, p, vs, rfl, rfl, hq, k N_ _ .non _ _ _ noF q ⟨s2, st2.wk (fun _ z => z) fun a z => by rcases z with z | z; exact .inl z; exact z.elim, .flat rfl fun _ z => nomatch z⟩⟩
theorem we_popF {n : Nat} {ds : List D} {d : D} (he : env[n]? = some (some (.lst (ds.map F)))) (hd : ds[ds.length - 1]? = some d) (q : Post (F d) (env.set n (some (.lst (ds.dropLast.map F))))) : WE A (tBM0 A.c.K "list" rPop (tVar n)) env Post := fun G H σ P s Q k => by
  obtain ⟨p, vs, hσ, hq, rp, mk⟩ := slotF s he
  obtain ⟨s2, st2⟩ := mk _ _ (reps_last rp)
  obtain ⟨v, hv, rv⟩ := reps_at rp hd
  exact ⟨_, hσ, .inl ⟨rfl, _, SqL.of hq⟩, p, vs, v, rfl, rfl, hq, by rw [reps_len rp]; exact hv, k (F d) _ v _ _ _ noF q ⟨s2, st2.wk (fun _ z => z) fun a z => by rcases z with z | z; exact .inl z; exact z.elim, ⟨⟨rv, fun _ z => nomatch z⟩, fun _ z => z.elim, fun _ z => z.elim⟩⟩⟩
theorem we_popAtF {n : Nat} {ds0 : List D} (h0 : env[n]? = some (some (.lst (ds0.map F)))) (h : WA A tr env fun as e => ∃ (o : Option V) (j : Nat) (ds : List D) (d : D), as = [.t (.frz o (.int (j : Nat)))] ∧ e[n]? = some (some (.lst (ds.map F))) ∧ j < 2 ^ 62 ∧ ds[j]? = some d ∧ Post (F d) (e.set n (some (.lst ((ds.eraseIdx j).map F))))) :
    WE A (tBM A.c.K "list" rPopAt (tVar n) tr) env Post := fun G H σ P s Q k => by
  obtain ⟨p0, vs0, hσ0, hp0, _⟩ := ty_slot s h0
  refine ⟨_, hσ0, .inl ⟨rfl, _, SqL.of hp0⟩, h G H σ P s _ fun as e1 xs G1 H1 P1 F1 p1 r1 => ?_⟩
  obtain ⟨o, j, ds, d, rfl, he, hj, hd, hp⟩ := p1
  obtain ⟨y, F2, rfl, hF2, tr⟩ := r1.tm.tr.one
  obtain ⟨p, vs, hσ, hq, rp, mk⟩ := slotF r1.sr he
  rw [hσ0] at hσ
  cases hσ
  obtain ⟨s2, st2⟩ := mk _ _ (reps_erase rp j)
  obtain ⟨v, hv, rv⟩ := reps_at rp hd
  have ey : y = .int j := tr.1
  subst ey
  have hjl : j < ds.length := (List.getElem?_eq_some_iff.mp hd).1
  refine ⟨p0, vs, (j : Int), j, v, rfl, rfl, hq, by omega, by omega, ?_, hv, k (F d) _ v _ _ _ noF hp ⟨s2, r1.drop.trans (st2.wk (fun _ z => z) fun a z => ?_), ⟨⟨rv, fun _ z => nomatch z⟩, fun _ z => z.elim, fun _ z => z.elim⟩⟩⟩
  · unfold seqIndex?
    rw [reps_len rp]
    simp
    omega
  · rcases z with z | z
    · exact .inl z
    · exact z.elim
theorem we_insertF {n : Nat} {ds0 : List D} (h0 : env[n]? = some (some (.lst (ds0.map F)))) (h : WA A tr env fun as e => ∃ (o o2 : Option V) (j : Nat) (ds : List D) (d : D), as = [.t (.frz o (.int (j : Nat))), .t (.frz o2 d)] ∧ e[n]? = some (some (.lst (ds.map F))) ∧ j < 2 ^ 62 ∧ ds.length ≤ 1000000 ∧ Post N_ (e.set n (some (.lst ((ds.take j ++ [d] ++ ds.drop j).map F))))) :
    WE A (tBM A.c.K "list" rInsert (tVar n) tr) env Post := fun G H σ P s Q k => by
  obtain ⟨p0, vs0, hσ0, hp0, _⟩ := ty_slot s h0
  refine ⟨_, hσ0, .inl ⟨rfl, _, SqL.of hp0⟩, h G H σ P s _ fun as e1 xs G1 H1 P1 F1 p1 r1 => ?_⟩
  obtain ⟨o, o2, j, ds, d, rfl, he, hj, hl, hp⟩ := p1
  obtain ⟨y1, q1, Fa, Fb, e1, _, _, n1, y2, q2, Fc, Fd, e2, _, _, n2, e3⟩ := r1.tm.tr
  cases e3
  subst e2
  subst e1
  obtain ⟨p, vs, hσ, hq, rp, mk⟩ := slotF r1.sr he
  rw [hσ0] at hσ
  cases hσ
  have rd := n2.1
  obtain ⟨s2, st2⟩ := mk (ds.take j ++ [d] ++ ds.drop j) (vs.take j ++ [_] ++ vs.drop j) (reps_app (reps_app (reps_take j rp) ⟨_, [], rfl, rd, rfl⟩) (reps_drop j rp))
  have ey : y1 = .int j := n1.1
  exact ⟨p0, vs, (j : Int), _, rfl, by rw [ey], hq, by rw [reps_len rp, sizeLine_eq]; omega, by omega, by omega, k N_ _ .non _ _ _ noF hp ⟨s2, r1.drop.trans (st2.wk (fun _ z => z) fun a z => by rcases z with z | z; exact .inl z; exact z.elim), .flat rfl fun _ z => nomatch z⟩⟩
/-- two tuples joined -/
theorem wr_catT {o1 o2 : Option V} {xs ys : List D} (h1 : xs ≠ []) (h2 : ys ≠ []) (hl : xs.length + ys.length ≤ 1000000) (q : Post (F (.tup (xs ++ ys))) env) : WR A (rAddA A.c.K) (.t (.frz o1 (.tup xs))) (.t (.frz o2 (.tup ys))) env Post := fun G H σ P x y X s m Q k => by
  obtain ⟨F1, F2, _, _, m1, m2⟩ := m.split2
  obtain ⟨_, _, n1⟩ := m1.one
  obtain ⟨_, _, n2⟩ := m2.one
  obtain ⟨⟨p, ws, e1, e2, e3⟩, _⟩ := n1.tr
  obtain ⟨⟨p', ws', e1', e2', e3'⟩, _⟩ := n2.tr
  subst e1 e1'
  have hx : ws ≠ [] := fun e => h1 (List.length_eq_zero_iff.mp (by rw [← reps_len e3, e]; rfl))
  have hy : ws' ≠ [] := fun e => h2 (List.length_eq_zero_iff.mp (by rw [← reps_len e3', e]; rfl))
  refine .inr ⟨p, p', _, _, rfl, rfl, SqT.of (s.le _ _ e2), SqT.of (s.le _ _ e2'), hx, by rw [reps_len e3, reps_len e3', sizeLine_eq]; omega, fun e => absurd e hy, fun _ l hl => ?_⟩
  exact k _ _ _ _ _ _ _ q (alloc_tup s (reps_app e3 e3') (U0 := fun a => uP P a ∨ X a) (fun _ z => .inl z) hl)
theorem we_slS {tl th : TO} (h : WE A te env fun t e => ∃ o x, t = .frz o (.str x) ∧ x.length ≤ 1000000 ∧ WP A tl e fun lo e => WP A th e fun hi e => Post (S (cutS x lo hi)) e) : WE A (tSl (rSlA A.c.K) te tl th) env Post := fun G H σ P s Q k => by
  refine h G H σ P s _ fun t e v G1 H1 P1 F1 p1 r1 => ?_
  obtain ⟨o, x, rfl, hx, p1⟩ := p1
  refine p1 G1 H1 σ P1 r1.sr _ fun lo e2 G2 H2 P2 p2 s2 st2 => p2 G2 H2 σ P2 s2 _ fun hi e3 G3 H3 P3 p3 s3 st3 => ?_
  have ev : v = .str x := r1.tm.tr.1
  subst ev
  exact .inr ⟨x, rfl, by rw [sizeLine_eq]; omega, k _ _ _ _ _ _ noF p3 ⟨s3, ((r1.drop.trans st2).trans st3).wk (fun _ z => z) fun a z => by rcases z with z | z; exact .inl z; exact z.elim, .flat rfl fun _ z => nomatch z⟩⟩
theorem we_scount (h : WE A te env fun t e => ∃ o x, t = .frz o (.str x) ∧ WA A tr e fun as e => ∃ o2 y, as = [.t (.frz o2 (.str y))] ∧ Post (I (Txt.count x y)) e) : WE A (tBM A.c.K "str" rSCount te tr) env Post := fun G H σ P s Q k => by
  refine h G H σ P s _ fun t e v G1 H1 P1 F1 p1 r1 => ?_
  obtain ⟨o, x, rfl, p1⟩ := p1
  have ev : v = .str x := r1.tm.tr.1
  subst ev
  refine ⟨?_, p1 G1 H1 σ P1 r1.sr _ fun as e2 vs G2 H2 P2 F2 p2 r2 => ?_⟩
  · exact rfl
  obtain ⟨o2, y, rfl, q⟩ := p2
  obtain ⟨_, _, rfl, _, tr⟩ := r2.tm.tr.one
  exact ⟨x, y, rfl, by rw [tr.1], k _ _ _ _ _ _ noF q ⟨r2.sr, r1.drop.trans r2.drop |>.wk (fun _ z => z) fun a z => by rcases z with z | z; exact .inl z; exact z.elim, .flat rfl fun _ z => nomatch z⟩⟩
end
/-! ### how often a sign stands in a text -/
def cntS (s : Str) (c : Nat) : Nat → Nat
  | 0 => 0
  | n + 1 => cntS s c n + (if si s n = c then 1 else 0)
theorem cntS_mono {s : Str} {c i : Nat} : ∀ {j : Nat}, i ≤ j → cntS s c i ≤ cntS s c j
  | 0, h => by rw [show i = 0 by omega]; exact Nat.le_refl _
  | j + 1, h => by
    by_cases e : i = j + 1
    · rw [e]; exact Nat.le_refl _
    · exact Nat.le_trans (cntS_mono (show i ≤ j by omega)) (Nat.le_add_right _ _)
theorem sub_sgn {s : Str} {c i : Nat} (h : i < s.length) : Builtin.Str.subAt s (sgn c) i = true ↔ si s i = c := by
  have hl : i < s.cps.toList.length := by rw [Array.length_toList]; exact h
  have e : (s.cps.extract i (i + 1)).toList = [s.cps.toList[i]] := by
    rw [Array.toList_extract, List.extract_eq_take_drop, Nat.add_sub_cancel_left, List.drop_eq_getElem_cons hl]
    rfl
  have e2 : si s i = s.cps.toList[i] := by
    show s.cps.toList.getD i 0 = _
    rw [List.getD_eq_getElem?_getD, List.getElem?_eq_getElem hl]; rfl
  show (s.cps.extract i (i + 1) == #[c]) = true ↔ _
  rw [beq_iff_eq, e2]
  constructor
  · intro q
    rw [q] at e
    exact (List.head_eq_of_cons_eq e).symm
  · intro q
    apply Array.ext'
    rw [e, q]
theorem occ_cnt {s : Str} {c : Nat} : ∀ (m i : Nat) (arr : Array Nat) (free : Nat), i + m = s.length + 1 → free ≤ i → arr.size ≤ i →
    (forIn (List.range' i m) (arr, free) (StrLaws.occBody s (sgn c) s.length (s.length + 1))).run.fst.size = arr.size + (cntS s c s.length - cntS s c i)
  | 0, i, arr, free, h, _, _ => by
    have := cntS_mono (s := s) (c := c) (show s.length ≤ i by omega)
    show arr.size = _
    omega
  | m + 1, i, arr, free, h, hf, ha => by
    rw [List.range'_succ, List.forIn_cons]
    unfold StrLaws.occBody
    by_cases hi : i < s.length
    · have e : cntS s c (i + 1) = cntS s c i + (if si s i = c then 1 else 0) := rfl
      have m1 := cntS_mono (s := s) (c := c) (show i + 1 ≤ s.length by omega)
      by_cases q : si s i = c
      · rw [if_pos ⟨⟨⟨by show arr.size < _; omega, hf⟩, by rw [show (sgn c).length = 1 from rfl]; omega⟩, (sub_sgn hi).mpr q⟩]
        rw [if_pos q] at e
        have ih := occ_cnt (s := s) (c := c) m (i + 1) (arr.push i) (i + (sgn c).length) (by omega) (Nat.le_refl _) (by rw [Array.size_push]; omega)
        rw [Array.size_push] at ih
        refine Eq.trans ih ?_
        omega
      · rw [if_neg fun z => q ((sub_sgn hi).mp z.2)]
        rw [if_neg q] at e
        have ih := occ_cnt (s := s) (c := c) m (i + 1) arr free (by omega) (by omega) (by omega)
        refine Eq.trans ih ?_
        omega
    · rw [if_neg fun z => by have := z.1.2; rw [show (sgn c).length = 1 from rfl] at this; omega]
      have ih := occ_cnt (s := s) (c := c) m (i + 1) arr free (by omega) (by omega) (by omega)
      refine Eq.trans ih ?_
      have m1 := cntS_mono (s := s) (c := c) (show s.length ≤ i by omega)
      have m2 := cntS_mono (s := s) (c := c) (show s.length ≤ i + 1 by omega)
      omega
theorem count_sgn {s : Str} {c : Nat} : Txt.count s (sgn c) = (cntS s c s.length : Nat) := by
  unfold Txt.count
  rw [StrLaws.occ_eq, Array.length_toList, Nat.sub_zero, occ_cnt (s.length + 1) 0 #[] 0 (by omega) (Nat.le_refl _) (Nat.le_refl _)]
  show ((0 + (cntS s c s.length - 0) : Nat) : Int) = _
  rw [Nat.zero_add, Nat.sub_zero]
theorem cut_take {s : Str} {n : Nat} (h : n ≤ s.length) : (cutS s none (some (n : Int))).cps.toList = s.cps.toList.take n := by
  show ((s.cps.toList.drop (HT.sIx s.length 0 none)).take (HT.sIx s.length s.length (some (n : Int)) - HT.sIx s.length 0 none)) = _
  rw [HT.sIx_none, HT.sIx_nat, Nat.min_eq_left h]
  rfl
theorem cut_min {s : Str} {m : Nat} : cutS s none (some (m : Int)) = cutS s none (some ((min m s.length : Nat) : Int)) := by
  unfold cutS
  rw [HT.sIx_nat, HT.sIx_nat, Nat.min_assoc, Nat.min_self]
theorem cutS_len {s : Str} {n : Nat} (h : n ≤ s.length) : (cutS s none (some (n : Int))).length = n := by
  show (cutS s none (some (n : Int))).cps.size = n
  rw [← Array.length_toList, cut_take h, List.length_take, Array.length_toList]
  exact Nat.min_eq_left h
theorem cut_si {s : Str} {n i : Nat} (h : n ≤ s.length) (hi : i < n) : si (cutS s none (some (n : Int))) i = si s i := by
  show (cutS s none (some (n : Int))).cps.toList.getD i 0 = s.cps.toList.getD i 0
  rw [cut_take h, List.getD_eq_getElem?_getD, List.getD_eq_getElem?_getD, List.getElem?_take, if_pos hi]
theorem cut_cnt {s : Str} {n c : Nat} (h : n ≤ s.length) : ∀ {i : Nat}, i ≤ n → cntS (cutS s none (some (n : Int))) c i = cntS s c i
  | 0, _ => rfl
  | i + 1, hi => by
    show cntS _ c i + (if si (cutS s none (some (n : Int))) i = c then 1 else 0) = cntS s c i + (if si s i = c then 1 else 0)
    rw [cut_cnt h (by omega), cut_si h (by omega)]
/-! ### {k: x, l: y}.get(z, d) -/
section
variable {A : Amb} {G H : Hp} {σ : L2.St} {P : Nat → As} {env : Env}
theorem SR.beside_upd (s : SR A G H σ env P) {p : Addr} {o o2 : HO} (np : ¬ uP P p) (gp : G p = none) (bp : A.U p ∨ A.H p = none) (hp : H p = some o2) :
    SR A G (upd H p o) σ env P ∧ Stp G H (fun a => uP P a ∨ a = p) G (upd H p o) (uP P) := by
  have keep : ∀ a u, a ≠ p → H a = some u → upd H p o a = some u := fun a u ne e => by rw [upd_ne ne]; exact e
  have st : Stp G H (fun a => uP P a ∨ a = p) G (upd H p o) (uP P) := ⟨Ex.refl _, fun a u e n => keep a u (fun q => n (.inr q)) e, fun a z => .inl (.inl z), fun a z => .inl z⟩
  refine ⟨⟨⟨s.len, fun a u e => ?_, fun i t e => ?_, s.dis, fun i a z => ⟨(s.own i a z).1, fun q => ?_⟩⟩, ?_, s.kp⟩, st⟩
  · refine keep a u (fun q => ?_) (s.le a u e)
    subst q
    rw [gp] at e
    cases e
  · obtain ⟨w, hw, tw⟩ := s.slot i t e
    exact ⟨w, hw, tw.mono (Ex.refl _) (fun _ h => h) (fun a u z e => keep a u (fun q => np ⟨i, q ▸ z⟩) e) fun a z => (s.own i a z).1⟩
  · have ne : a ≠ p := fun q2 => np ⟨i, q2 ▸ z⟩
    rw [upd_ne ne] at q
    exact (s.own i a z).2 q
  · refine ⟨s.base.g, fun a u e n => ?_, s.base.n, s.base.m⟩
    refine keep a u (fun q => ?_) (s.base.h a u e n)
    subst q
    rcases bp with z | z
    · exact n z
    · rw [z] at e; cases e
theorem we_dget2 {k1 k2 : Str} {tv1 tv2 ty tx : TE} {Post : T → Env → Prop} (hk : k1 ≠ k2)
    (h : WE A tv1 env fun t1 e => WE A tv2 e fun t2 e => WE A ty e fun ky e => ∃ o w, ky = .frz o (.str w) ∧ WE A tx e fun t3 e => Post (F (if w = k1 then t1.data else if w = k2 then t2.data else t3.data)) e) :
    WE A (tDGet2 (tDisp [(tC (.str k1), tv1), (tC (.str k2), tv2)]) ty tx) env Post := fun G H σ P s Q k => by
  intro p hp
  have s1 := s.beside_new (o := .dK []) hp
  have gp := s.gnone hp
  have bp := s.bnew hp
  have np : ¬ uP P p := fun ⟨i, z⟩ => (s.own i p z).2 hp
  have hpp : upd H p (.dK []) p = some (.dK []) := upd_same
  refine h G _ σ P s1 _ fun t1 e1 v1 G1 H1 P1 F1 q1 r1 => ?_
  obtain ⟨s2, st2, rp1⟩ := fixT r1.sr r1.tm
  have c1 := r1.st.trans st2
  refine q1 _ H1 σ P1 s2 _ fun t2 e2 v2 G2 H2 P2 F2 q2 r2 => ?_
  obtain ⟨s3, st3, rp2⟩ := fixT r2.sr r2.tm
  have c2 := r2.st.trans st3
  have c := c1.trans c2
  have hp2 : H2 p = some (.dK []) := c.h p _ hpp np
  have np2 : ¬ uP P2 p := fun z => by
    rcases c.n p z with y | y
    · exact np y
    · rw [hpp] at y; cases y
  have gp2 : (frzH G2 H2 F2) p = none := by
    cases q : (frzH G2 H2 F2) p with
    | none => rfl
    | some u =>
      rcases c.m p (by rw [q]; exact Option.some_ne_none _) with y | y | y
      · exact absurd gp y
      · exact absurd y np
      · rw [hpp] at y; cases y
  obtain ⟨s4, st4⟩ := s3.beside_upd (o := .dK (mergeK [] [(.inr k1, v1), (.inr k2, v2)])) np2 gp2 bp hp2
  refine ⟨hp2, [(.inr k1, v1), (.inr k2, v2)], rfl, (by show 2 ≤ 15; decide), p, rfl, .inl ⟨_, .inl upd_same⟩, ?_⟩
  refine q2 _ _ σ P2 s4 _ fun t3 e3 v3 G3 H3 P3 F3 q3 r3 => ?_
  obtain ⟨o, w, rfl, q3⟩ := q3
  have ev : v3 = .str w := r3.tm.tr.1
  subst ev
  refine q3 G3 H3 σ P3 r3.sr _ fun t4 e4 v4 G4 H4 P4 F4 q4 r4 => ?_
  obtain ⟨s5, st5, rp4⟩ := fixT r4.sr r4.tm
  have c4 := r3.drop.trans (r4.st.trans st5)
  have hp4 : H4 p = some (.dK (mergeK [] [(.inr k1, v1), (.inr k2, v2)])) := c4.h p _ upd_same np2
  refine ⟨_, DGet.k (k := .inr w) hp4, ?_⟩
  have em : mergeK [] [((.inr k1 : Key), v1), (.inr k2, v2)] = [(.inr k1, v1), (.inr k2, v2)] := by
    unfold mergeK
    rw [List.foldl_cons, List.foldl_cons, List.foldl_nil]
    have : putK ([] : List (Key × V)) (.inr k1) v1 = [(.inr k1, v1)] := rfl
    rw [this]
    unfold putK
    rw [if_neg]
    · rfl
    · simp [hk]
  rw [em]
  have rp1' : Rep A.c (frzH G4 H4 F4) t1.data v1 := (rp1.mono c2.g).mono c4.g
  have rp2' : Rep A.c (frzH G4 H4 F4) t2.data v2 := rp2.mono c4.g
  have st : Stp G H (uP P) (frzH G4 H4 F4) H4 (fun a => uP P4 a ∨ noF a) := by
    refine (((Stp.new hp).trans ((c.frame fun a => a = p).trans (st4.trans c4))).wk (fun _ z => z) fun a z => ?_)
    rcases z with z | z
    · exact .inl z
    · exact z.elim
  have fin : ∀ {d : D} {v : V}, Rep A.c (frzH G4 H4 F4) d v → Post (F d) e4 → Q v H4 := fun {d v} rp q => k (F d) e4 v _ H4 P4 noF q ⟨s5, st, ⟨⟨rp, fun _ z => nomatch z⟩, fun _ z => z.elim, fun _ z => z.elim⟩⟩
  dsimp only at q4
  by_cases w1 : w = k1
  · rw [valV_pos (by rw [w1])]
    rw [if_pos w1] at q4
    exact fin rp1' q4
  · rw [valV_neg (by intro e; cases e; exact w1 rfl)]
    rw [if_neg w1] at q4
    by_cases w2 : w = k2
    · rw [valV_pos (by rw [w2])]
      rw [if_pos w2] at q4
      exact fin rp2' q4
    · rw [valV_neg (by intro e; cases e; exact w2 rfl), valV_nil]
      rw [if_neg w2] at q4
      exact fin rp4 q4
end
end TL
/-! TY: while. -/
namespace TL
open PySem PySem.Spec PyProof.Rows L2
section
variable {A : Amb} {env : Env} {nx bk ct : Env → Prop} {rt : T → Env → Prop}
theorem ws_while {tc : TT} {tb : TS} (J : Nat → Env → Prop) (h : ∃ m, J m env)
    (hs : ∀ m e, J m e → WT A tc e fun b e1 => (b = true → WS A tb e1 (fun e2 => ∃ m', m' < m ∧ J m' e2) rt nx (fun e2 => ∃ m', m' < m ∧ J m' e2)) ∧ (b = false → nx e1)) :
    WS A (tWhile tc tb) env nx rt bk ct := fun G H σ P s D n rt bk ct => by
  obtain ⟨m0, j0⟩ := h
  refine ⟨fun m σ H => ∃ e G' P', J m e ∧ SR A G' H σ e P' ∧ Ex G G', ⟨m0, env, G, P, j0, s, Ex.refl _⟩, ?_⟩
  rintro m σ2 H2 ⟨e, G', P', q, s', x⟩
  refine hs m e q G' H2 σ2 P' s' _ fun b e1 G3 H3 P3 q3 s3 st3 => ?_
  have x3 : Ex G G3 := x.trans st3.g
  cases b with
  | false => exact n e1 G3 H3 σ2 P3 (q3.2 rfl) s3 x3
  | true =>
    refine ⟨fun σ H => ∃ m', m' < m ∧ ∃ e G' P', J m' e ∧ SR A G' H σ e P' ∧ Ex G G', fun σ' H' ⟨m', l, p⟩ => ⟨m', l, p⟩, ?_⟩
    exact q3.1 rfl G3 H3 σ2 P3 s3 _ (fun e5 G5 H5 σ5 P5 ⟨m', l, q5⟩ s5 x5 => ⟨m', l, e5, G5, P5, q5, s5, x3.trans x5⟩) rt (fun e5 G5 H5 σ5 P5 q5 s5 x5 => n e5 G5 H5 σ5 P5 q5 s5 (x3.trans x5))
      (fun e5 G5 H5 σ5 P5 ⟨m', l, q5⟩ s5 x5 => ⟨m', l, e5, G5, P5, q5, s5, x3.trans x5⟩)
theorem wi_zipG {tr : TA} {Post : Nat → (Nat → D) → Env → Prop} (h : WA A tr env fun as e => ∃ t1 t2 m n f g, as = [.t t1, .t t2] ∧ t1.data = .lst ((List.range m).map f) ∧ t2.data = .lst ((List.range n).map g) ∧ Post (min m n) (fun i => .tup [f i, g i]) e) : WI A (iZip A.c.K tr) env Post :=
  wi_cg (wi_zip (wa_imp h fun as e ⟨t1, t2, m, n, f, g, e0, e1, e2, p⟩ => ⟨t1, t2, _, _, e0, e1, e2, fun i => .tup [f i, g i], fun i hi => by
    rw [List.length_map, List.length_map, List.length_range, List.length_range] at hi
    show D.tup [_, _] = _
    rw [getD_map (by omega), getD_map (by omega)], by rw [List.length_map, List.length_map, List.length_range, List.length_range]; exact p⟩))
/-- a method of one of four carriers -/
theorem we_meth4W {Post : T → Env → Prop} {k n : Nat} {m : Str} {S2 S3 S4 S5 : FS} {E : XK} {ro : TE} {ra : TA} (hk : kR k)
    (h : WO A ro env fun a e => instO e (k + 8) m a ∧ WA A ra e fun as e => ∃ ts, argT e (a :: as) = some ts ∧ ts.length = n ∧ (slots (a :: as)).Nodup ∧ pickS S2 S3 S4 S5 k ts fun o => ∃ t ts', o = .ret t ts' ∧ Post t (backT e (a :: as) ts')) :
    WE A (tOrE (tMeth (A.c.cls 10) m (spOf A.c n S2) [] E ro ra) (tOrE (tMeth (A.c.cls 11) m (spOf A.c n S3) [] E ro ra) (tOrE (tMeth (A.c.cls 12) m (spOf A.c n S4) [] E ro ra) (tMeth (A.c.cls 13) m (spOf A.c n S5) [] E ro ra)))) env Post := by
  rcases hk with rfl | rfl | rfl | rfl
  · exact we_orL (we_meth h)
  · exact we_orR (we_orL (we_meth h))
  · exact we_orR (we_orR (we_orL (we_meth h)))
  · exact we_orR (we_orR (we_orR (we_meth h)))
/-- some thing of a name's own list of data -/
theorem wr_ix_slotD {Post : T → Env → Prop} {n : Nat} {o2 : Option V} {ds : List D} {i : Int} (he : env[n]? = some (some (.lst (ds.map F)))) (h0 : 0 ≤ i) (h1 : i < ds.length) (q : ∀ d, d ∈ ds → Post (F d) env) : WR A (rIxA A.c.K) (.s n) (.t (.frz o2 (.int i))) env Post := by
  obtain ⟨j, _, hj, e⟩ := atI_nat (xs := ds.map F) h0 (by rw [List.length_map]; exact h1)
  rw [List.getElem_map] at e
  exact wr_ix_slot he e (q _ (List.getElem_mem _))
/-- t[lo:hi] of a fixed tuple, not the whole of it -/
theorem we_slT {ta : TE} {Post : T → Env → Prop} {tl th : TO} (h : WE A ta env fun t e => ∃ o ds, t = .frz o (.tup ds) ∧ WP A tl e fun lo e => WP A th e fun hi e => ¬ (HT.sIx ds.length 0 lo = 0 ∧ HT.sIx ds.length ds.length hi = ds.length) ∧ Post (.frz none (.tup (cutL ds lo hi))) e) : WE A (tSl (rSlT A.c.K) ta tl th) env Post := fun G H σ P s Q k => by
  refine h G H σ P s _ fun t e v G1 H1 P1 F1 p1 r1 => ?_
  obtain ⟨o, ds, rfl, p1⟩ := p1
  refine p1 G1 H1 σ P1 r1.sr _ fun lo e2 G2 H2 P2 p2 s2 st2 => p2 G2 H2 σ P2 s2 _ fun hi e3 G3 H3 P3 p3 s3 st3 => ?_
  obtain ⟨p, ws, rfl, hp, rp⟩ := r1.tm.tr.1
  have hq : H3 p = some (.tup ws) := s3.le _ _ (st3.g _ _ (st2.g _ _ hp))
  have rp3 := (rp.mono st2.g).mono st3.g
  have hl := reps_len rp
  refine ⟨p, ws, rfl, SqT.of hq, by rw [hl]; exact p3.1, fun l hl => ?_⟩
  have r := alloc_tup (vs := cutV ws lo hi) (ds := cutL ds lo hi) s3 (by unfold cutV cutL; rw [reps_len rp]; exact reps_take _ (reps_drop _ rp3)) (U0 := uP P3) (fun _ z => z) hl
  exact k _ _ _ _ _ _ _ p3.2 ⟨r.sr, ((r1.drop.trans st2).trans st3).trans r.st, r.tm⟩
end
section
variable {A : Amb} {G H G' H' : Hp} {σ : L2.St} {env : Env} {P P' : Nat → As} {X X' : As}
/-- a def asked with one's own box and a number that a name holds: what else is one's own stays as it is -/
theorem callV (s : SR A G H σ env P) {b m n : Nat} {tb : T} {om : Option V} {k : Int} {Sf : FS} {E : XK} (hb : env[b]? = some (some tb)) (hm : env[m]? = some (some (.frz om (.int k)))) (hn : n ≠ b) (R : Int → T → Prop)
    (hS : ∀ Post : FO → Prop, (∀ r t1, R r t1 → Post (.ret (I r) [some t1, some (I k)])) → Sf [tb, I k] Post) (Q : V → Hp → Prop)
    (kq : ∀ r t1 G' H' P', R r t1 → SR A G' H' σ (env.set b (some t1)) P' → Stp G H (uP P) G' H' (uP P') → (∀ a, P n a → P' n a ∧ ∀ o, H a = some o → H' a = some o) → Q (.int r) H') :
    tCall (spOf A.c 2 Sf) [] E (tCons (tVar b) (tCons (tVar m) tNil)) σ H Q := by
  obtain ⟨vb, hvb, trb⟩ := s.slot b _ hb
  obtain ⟨vm, hvm, evm, _⟩ := s.slot m _ hm
  have evm : vm = .int k := evm
  subst evm
  refine ⟨vb, hvb, _, hvm, ?_⟩
  have tm : TmpA A G H σ P [.s b, .t (I k)] noF [vb, .int k] := ⟨⟨vb, _, rfl, hvb, .int k, [], noF, noF, rfl, fun _ z => z, fun _ z => z.elim, ⟨rfl, fun _ z => nomatch z⟩, rfl⟩, fun _ z => z.elim, fun _ z => z.elim⟩
  obtain ⟨hl, Pc, sl, co⟩ := call_coreK s tm (ts := [tb, I k]) (by
    show (match env[b]? with
      | some (some t) => (argT env [.t (I k)]).map (t :: ·)
      | _ => none) = _
    rw [hb]; rfl) (by show [b].Nodup; simp)
  refine ⟨[tb, I k], G, Pc, fun o => ∃ r t1, R r t1 ∧ o = .ret (I r) [some t1, some (I k)], rfl, sl, hS _ fun r t1 h => ⟨r, t1, h, rfl⟩, fun t ts' v G2 H2 P2 F2 hp s2 st tr fd => ?_, fun k fs ts' hp => ?_⟩
  · obtain ⟨r, t1, hr, e⟩ := hp
    cases e
    have ev : v = .int r := tr.1
    subst ev
    obtain ⟨P3, r3, keep⟩ := co _ _ _ G2 H2 P2 F2 s2 st tr fun a z => ⟨fun k i _ y => (fd a z).1 ⟨k, y⟩, (fd a z).2⟩
    refine kq r t1 G2 H2 P3 hr r3.sr (r3.st.wk (fun a z => z.elim id fun z => z.elim) fun a z => .inl (.inl z)) fun a z => keep n a (fun q e => ?_) z
    match q, e with
    | 0, e => exact hn (by cases e; rfl)
    | 1, e => cases e
    | q + 2, e => cases e
  · obtain ⟨r, t1, _, e⟩ := hp
    cases e
/-- rows[f(box, ..)][f(box, ..)] = v -/
theorem wg_sub2V {W : Nat → Prop} {n b m m2 h w : Nat} {tb : T} {om om2 : Option V} {k1 k2 v : Int} {Sf : FS} {E1 E2 : XK} {f : Gr} {Post : Env → Prop} {R1 : Int → T → Prop} {R2 : Int → T → Int → T → Prop}
    (he : env[n]? = some (some (gT h w f))) (hb : env[b]? = some (some tb)) (hm : env[m]? = some (some (.frz om (.int k1)))) (hm2 : env[m2]? = some (some (.frz om2 (.int k2)))) (nb : n ≠ b) (mb : m2 ≠ b)
    (S1 : ∀ Post : FO → Prop, (∀ r t1, R1 r t1 → Post (.ret (I r) [some t1, some (I k1)])) → Sf [tb, I k1] Post)
    (S2 : ∀ r1 t1, R1 r1 t1 → ∀ Post : FO → Prop, (∀ r t2, R2 r1 t1 r t2 → Post (.ret (I r) [some t2, some (I k2)])) → Sf [t1, I k2] Post)
    (b1 : ∀ r1 t1, R1 r1 t1 → 0 ≤ r1 ∧ r1 < h) (b2 : ∀ r1 t1 r2 t2, R2 r1 t1 r2 t2 → 0 ≤ r2 ∧ r2 < w)
    (q : ∀ (y x : Nat) t1 t2, y < h → x < w → R1 y t1 → R2 y t1 x t2 → Post (((env.set b (some t1)).set b (some t2)).set n (some (gT h w (up2 f y x v))))) :
    WG A W (gSub (tOp (rIxA A.c.K) (tVar n) (tCall (spOf A.c 2 Sf) [] E1 (tCons (tVar b) (tCons (tVar m) tNil)))) (tCall (spOf A.c 2 Sf) [] E2 (tCons (tVar b) (tCons (tVar m2) tNil))) rSetL) (I v) env Post := fun G H σ P v0 X s mt Q kk => by
  have hv0 : v0 = .int v := mt.tr.1
  subst hv0
  obtain ⟨vn, hvn, p, vs0, F0, e0, _, _, _, _, _⟩ := s.slot n _ he
  subst e0
  refine ⟨_, hvn, callV s hb hm nb R1 S1 _ fun r1 t1 G1 H1 P1 hr1 s1 st1 keep1 => ?_⟩
  obtain ⟨c1, c2⟩ := b1 r1 t1 hr1
  obtain ⟨y, rfl⟩ := Int.eq_ofNat_of_zero_le c1
  have hy : y < h := by omega
  have hl : b < env.length := (List.getElem?_eq_some_iff.mp hb).1
  have he1 : (env.set b (some t1))[n]? = some (some (gT h w f)) := by rw [List.getElem?_set_ne (Ne.symm nb)]; exact he
  have hb1 : (env.set b (some t1))[b]? = some (some t1) := List.getElem?_set_self hl
  have hm1 : (env.set b (some t1))[m2]? = some (some (.frz om2 (.int k2))) := by rw [List.getElem?_set_ne (Ne.symm mb)]; exact hm2
  obtain ⟨p1, vs, r, hσ1, hp, hv, hr, hP, mk⟩ := slot_row s1 he1 (gT_at hy)
  rw [hvn] at hσ1
  cases hσ1
  obtain ⟨vn', hvn', p', vs', F', e', hPp, _⟩ := s1.slot n _ he1
  rw [hvn] at hvn'
  cases hvn'
  cases e'
  refine .inl (.inl ⟨_, vs, _, _, rfl, rfl, SqL.of hp, atI_nat' hv, ?_⟩)
  refine callV s1 hb1 hm1 nb (R2 y t1) (S2 _ _ hr1) _ fun r2 t2 G2 H2 P2 hr2 s2 st2 keep2 => ?_
  obtain ⟨d1, d2⟩ := b2 _ _ r2 t2 hr2
  obtain ⟨x, rfl⟩ := Int.eq_ofNat_of_zero_le d1
  have hx : x < w := by omega
  have he2 : ((env.set b (some t1)).set b (some t2))[n]? = some (some (gT h w f)) := by rw [List.getElem?_set_ne (Ne.symm nb)]; exact he1
  obtain ⟨p2, vs2, r', hσ2, hp2, hv2, hr2', hP2, mk2⟩ := slot_row s2 he2 (gT_at hy)
  rw [hvn] at hσ2
  cases hσ2
  have e1 := (keep2 _ hPp).2 _ hp
  rw [hp2] at e1
  cases e1
  rw [hv] at hv2
  cases hv2
  obtain ⟨s3, st3⟩ := mk2 ((rowL f w y).set x v)
  refine ⟨r, _, (x : Int), x, rfl, rfl, hr2', by rw [List.length_map, rowL_len]; exact ixN_ok (by omega) (by omega), ?_⟩
  rw [show ((rowL f w y).map V.int).set x (.int v) = ((rowL f w y).set x v).map V.int from List.map_set.symm]
  rw [gT_up hy hx] at s3
  exact kk _ _ _ σ _ (q y x t1 t2 hy hx hr1 hr2) s3 (((st1.trans st2).trans st3).wk (fun a z => Or.inl z) fun a z => .inl z) rfl fun _ _ => rfl
end
end TL
/-! TZ3: zip of three lists. -/
namespace TL
open PySem PySem.Spec PyProof.Rows L2
def Itz3 (K : PySem.W.Frag) (a b c : Addr) : It where
  go i H := ∃ (xs ys zs : List V) (x y z : V), SqL K H a xs ∧ SqL K H b ys ∧ SqL K H c zs ∧ xs[i]? = some x ∧ ys[i]? = some y ∧ zs[i]? = some z
  yld i H v H' := ∃ T x y z, v = .ref T ∧ H T = none ∧ H' = upd H T (.tup [x, y, z]) ∧ (∀ xs, SqL K H a xs → xs[i]? = some x) ∧ (∀ ys, SqL K H b ys → ys[i]? = some y) ∧ ∀ zs, SqL K H c zs → zs[i]? = some z
  stop i H := ∃ xs ys zs : List V, SqL K H a xs ∧ SqL K H b ys ∧ SqL K H c zs ∧ i ≤ xs.length ∧ i ≤ ys.length ∧ i ≤ zs.length ∧ (i = xs.length ∨ i = ys.length ∨ i = zs.length)
theorem turn_zip3 {P : Program} {w : World} {K : PySem.W.Frag} {elts : List Expr} {kk : Nat} {tpos : Pos} {a b c z TI TO i1 i2 i3 : Addr} (D : ZipSep3 z TI TO i1 i2 i3 [i1, a] [i2, b] [i3, c]) (na : a ≠ i1) (nb : b ≠ i2) (nc : c ≠ i3) :
    Turn P w K (.Tuple elts kk tpos) (Itz3 K a b c) [z, TI, TO, i1, i2, i3] z (fun i h => IsZip h z TI TO .none ∧ IsTupOf3 h TI (.ref i1) (.ref i2) (.ref i3) ∧ (∃ x y u, IsTupOf3 h TO x y u) ∧ h.IsListIter i1 a i ∧ h.IsListIter i2 b i ∧ h.IsListIter i3 c i) where
  mem := by simp
  obj := fun i h st q hq => by
    obtain ⟨hz, hTI, ⟨x, y, u, hTO⟩, ⟨o1, e1, _, d1⟩, ⟨o2, e2, _, d2⟩, ⟨o3, e3, _, d3⟩⟩ := st
    have e' : q = z ∨ q = TI ∨ q = TO ∨ q = i1 ∨ q = i2 ∨ q = i3 := by simpa using hq
    rcases e' with r | r | r | r | r | r
    · rw [r]; exact ⟨_, hz, fun v q => nomatch q⟩
    · rw [r]; exact ⟨_, hTI, fun v q => nomatch q⟩
    · rw [r]; exact ⟨_, hTO, fun v q => nomatch q⟩
    · rw [r]; exact ⟨o1, e1, fun v q => by rw [d1] at q; cases q⟩
    · rw [r]; exact ⟨o2, e2, fun v q => by rw [d2] at q; cases q⟩
    · rw [r]; exact ⟨o3, e3, fun v q => by rw [d3] at q; cases q⟩
  keep := fun i h h' st k => by
    obtain ⟨hz, hTI, ⟨x, y, u, hTO⟩, h1, h2, h3⟩ := st
    exact ⟨k z (by simp) _ hz, k TI (by simp) _ hTI, ⟨x, y, u, k TO (by simp) _ hTO⟩, h1.at fun o q => k i1 (by simp) o q, h2.at fun o q => k i2 (by simp) o q, h3.at fun o q => k i3 (by simp) o q⟩
  item := by
    intro X hP hw hK hc i pins s σ H E I hf st hg
    subst hP hw hK
    obtain ⟨hz, hTI, ⟨x0, y0, u0, hTO⟩, h1, h2, h3⟩ := st
    obtain ⟨xs, ys, zs, x, y, u, hqx, hqy, hqz, hx, hy, hu⟩ := hg
    obtain ⟨its, rv, p, _⟩ := I.list hqx
    obtain ⟨its2, rv2, p2, _⟩ := I.list hqy
    obtain ⟨its3, rv3, p3, _⟩ := I.list hqz
    obtain ⟨v1, hv1, r1⟩ := rv.get hx
    obtain ⟨v2, hv2, r2⟩ := rv2.get hy
    obtain ⟨v3, hv3, r3⟩ := rv3.get hu
    have hzl : z < s.heap.objs.size := Heap.lt_size hz
    have hh : X.A.in1.handled = none := (I.ok).hd hc
    have d1 := Draws.list (prog := X.prog) (w := X.w) (A := X.A.in1) hh i1 a na its.toArray
    have d2 := Draws.list (prog := X.prog) (w := X.w) (A := X.A.in1) hh i2 b nb its2.toArray
    have d3 := Draws.list (prog := X.prog) (w := X.w) (A := X.A.in1) hh i3 c nc its3.toArray
    have lt : ∀ {l : List Value} {v : Value}, l[i]? = some v → i < l.toArray.size := fun {l v} e => by
      rw [List.size_toArray]
      exact (List.getElem?_eq_some_iff.mp e).1
    refine wpAny_pyNext_zipD3_item D d1 d2 d3 hz hTI hTO ⟨h1, p.isList⟩ ⟨h2, p2.isList⟩ ⟨h3, p3.isList⟩ (lt hv1) (lt hv2) (lt hv3) fun w1 w2 w3 h' tk q1 q2 q3 z' TO' s1 s2 s3 hT hsz hk => ?_
    have ev : ∀ {l : List Value} {v v' : Value}, l[i]? = some v → l.toArray[i]? = some v' → v' = v := fun {l v v'} e e' => by
      rw [List.getElem?_toArray, e] at e'
      exact (Option.some.inj e').symm
    obtain rfl := ev hv1 q1
    obtain rfl := ev hv2 q2
    obtain rfl := ev hv3 q3
    refine ⟨_, rfl, wpAny_letOwnedTupleGo_zip z' fun h'' z'' sb => ?_⟩
    have hT2 : h''.get? s.heap.objs.size = _ := (sb.2 _ (Nat.ne_of_gt hzl)).trans hT
    have new : ObjOk X.prog X.w (upd H s.heap.objs.size (.tup [x, y, u])) h'' s.heap.objs.size (.tup [x, y, u]) :=
      ⟨by show 3 ≤ sizeLine; rw [sizeLine_eq]; decide, [_, _, _], .cons r1 (.cons r2 (.cons r3 .nil)), ⟨_, hT2, rfl, _, rfl⟩⟩
    have I1 : Inv X pins σ (upd H s.heap.objs.size (.tup [x, y, u])) { s with heap := h'', toks := tk } :=
      I.turnedNew (t' := tk) (ch := [z, TI, TO, i1, i2, i3]) (fun q o hb e => (sb.2 q (fun q' => hb (by simp [q']))).trans (hk q o (fun q' => hb (by simp [q'])) (fun q' => hb (by simp [q'])) (fun q' => hb (by simp [q'])) (fun q' => hb (by simp [q'])) (fun q' => hb (by simp [q'])) e)) hf (Nat.le_refl _) new
    have n1 : i1 ≠ z := fun e => D.zf1 (e ▸ by simp)
    have n2 : i2 ≠ z := fun e => D.zf2 (e ▸ by simp)
    have n3 : i3 ≠ z := fun e => D.zf3 (e ▸ by simp)
    refine ⟨.ref s.heap.objs.size, _, I1, rfl, ⟨_, x, y, u, rfl, I.hok.fresh (Nat.le_refl _), rfl, fun l hl => by rw [I.list_inj hl hqx]; exact hx, fun l hl => by rw [I.list_inj hl hqy]; exact hy, fun l hl => by rw [I.list_inj hl hqz]; exact hu⟩, ⟨z'', ?_, ⟨_, _, _, (sb.2 _ D.TOz).trans TO'⟩, ?_, ?_, ?_⟩, fun q hcm => ?_⟩
    · exact (sb.2 _ D.TIz).trans (hk _ _ D.TIz D.TITO D.TIi1 D.TIi2 D.TIi3 hTI)
    · exact s1.1.at fun o q => (sb.2 _ n1).trans q
    · exact s2.1.at fun o q => (sb.2 _ n2).trans q
    · exact s3.1.at fun o q => (sb.2 _ n3).trans q
    · have hlt : q < s.heap.objs.size := by
        have e' : q = z ∨ q = TI ∨ q = TO ∨ q = i1 ∨ q = i2 ∨ q = i3 := by simpa using hcm
        rcases e' with r | r | r | r | r | r
        · rw [r]; exact hzl
        · rw [r]; exact Heap.lt_size hTI
        · rw [r]; exact Heap.lt_size hTO
        · rw [r]; obtain ⟨_, e1, _⟩ := h1; exact Heap.lt_size e1
        · rw [r]; obtain ⟨_, e1, _⟩ := h2; exact Heap.lt_size e1
        · rw [r]; obtain ⟨_, e1, _⟩ := h3; exact Heap.lt_size e1
      rw [upd_ne (Nat.ne_of_lt hlt)]
      exact (hf q hcm).1
  done := by
    intro X hP hw hK hc i pins s σ H E I hf st hg
    subst hP hw hK
    obtain ⟨hz, hTI, ⟨x0, y0, u0, hTO⟩, h1, h2, h3⟩ := st
    obtain ⟨xs, ys, zs, hqx, hqy, hqz, l1, l2, l3, hend⟩ := hg
    obtain ⟨its, rv, p, _⟩ := I.list hqx
    obtain ⟨its2, rv2, p2, _⟩ := I.list hqy
    obtain ⟨its3, rv3, p3, _⟩ := I.list hqz
    have e1 := rv.length
    have e2 := rv2.length
    have e3 := rv3.length
    have hh : X.A.in1.handled = none := (I.ok).hd hc
    have d1 := Draws.list (prog := X.prog) (w := X.w) (A := X.A.in1) hh i1 a na its.toArray
    have d2 := Draws.list (prog := X.prog) (w := X.w) (A := X.A.in1) hh i2 b nb its2.toArray
    have d3 := Draws.list (prog := X.prog) (w := X.w) (A := X.A.in1) hh i3 c nc its3.toArray
    refine wpAny_pyNext_zipD3_end D d1 d2 d3 hz hTI hTO ⟨h1, p.isList⟩ ⟨h2, p2.isList⟩ ⟨h3, p3.isList⟩ (by rw [List.size_toArray]; omega) (by rw [List.size_toArray]; omega) (by rw [List.size_toArray]; omega) (by rw [List.size_toArray, List.size_toArray, List.size_toArray]; omega) fun h' tk hk => ⟨rfl, ?_⟩
    exact I.turnedL (t' := tk) (ch := [z, TI, TO, i1, i2, i3]) (fun q o hb e => hk q o (fun q' => hb (by simp [q'])) (fun q' => hb (by simp [q'])) (fun q' => hb (by simp [q'])) (fun q' => hb (by simp [q'])) (fun q' => hb (by simp [q'])) e) hf
  self := fun A i s Q E st h => wpAny_pyIter_zip st.1 h
def iZip3 (K : PySem.W.Frag) (ta : TA) : TI := fun σ H R => ta σ H fun vs H1 => ∃ a b c xs ys zs, vs = [.ref a, .ref b, .ref c] ∧ SqL K H1 a xs ∧ SqL K H1 b ys ∧ SqL K H1 c zs ∧ R (Itz3 K a b c) H1
theorem pi_zip3 {X : Cx} {e e2 e3 : Expr} {ta : TA} {p pos tpos : Pos} {elts : List Expr} {kk : Nat} (hg : Gl X "zip") (hm : X.mg "zip" = none) (ha : PA X [e, e2, e3] ta)
    (hs : starEach [e, e2, e3] X.env = (false, eval e X.env) :: starEach [e2, e3] X.env := by rfl) (hpl : ((backTo pos (starEach [e2, e3] X.env)).any fun x => x.fst) = false := by rfl) :
    PI X (Expr.Tuple elts kk tpos) ((Expr.Name "zip" p).Call [e, e2, e3] [] pos) (iZip3 X.K ta) where
  run := fun pins s σ H R I h => by
    refine Call_ (ld_blt I hg hm boot_zip (PyProof.Rows.callWith_type1 (thn (ha.run pos pins s σ H _ I h) fun us s1 q0 => ?_) hs hpl) (by decide) (by decide)) rfl
    obtain ⟨vs, H1, I1, r1, a, b, c, xs, ys, zs, rfl, hqx, hqy, hqz, q⟩ := q0
    cases r1 with
    | cons ra rr =>
      cases rr with
      | cons rb rr =>
        cases rr with
        | cons rc rr =>
          cases rr
          cases ra
          cases rb
          cases rc
          obtain ⟨its, rv, p1, _⟩ := I1.list hqx
          obtain ⟨its2, rv2, p2, _⟩ := I1.list hqy
          obtain ⟨its3, rv3, p3, _⟩ := I1.list hqz
          have la := PlainL.lt p1
          have lb := PlainL.lt p2
          have lc := PlainL.lt p3
          refine zip_begins3 (begins_list a its.toArray) (begins_list b its2.toArray) (begins_list c its3.toArray) p1.isList p2.isList p3.isList fun h' hz hTI hTO g1 g2 g3 hsz hk => wpAny_pyIter_zip hz ?_
          have I2 : Inv X pins σ H1 { s1 with heap := h' } := I1.kept (t' := s1.toks) hk
          have D : ZipSep3 (s1.heap.objs.size + 5) (s1.heap.objs.size + 3) (s1.heap.objs.size + 4) s1.heap.objs.size (s1.heap.objs.size + 1) (s1.heap.objs.size + 2) [s1.heap.objs.size, a] [s1.heap.objs.size + 1, b] [s1.heap.objs.size + 2, c] :=
            zip_sep3 (fun q hq => by rw [List.mem_singleton] at hq; rw [hq]; exact la) (fun q hq => by rw [List.mem_singleton] at hq; rw [hq]; exact lb) (fun q hq => by rw [List.mem_singleton] at hq; rw [hq]; exact lc)
          have na : a ≠ s1.heap.objs.size := Nat.ne_of_lt la
          have nb : b ≠ s1.heap.objs.size + 1 := Nat.ne_of_lt (Nat.lt_succ_of_lt lb)
          have nc : c ≠ s1.heap.objs.size + 2 := Nat.ne_of_lt (Nat.lt_succ_of_lt (Nat.lt_succ_of_lt lc))
          refine ⟨_, [_, _, _, _, _, _], _, _, H1, rfl, I2, turn_zip3 D na nb nc, ⟨hz, hTI, ⟨_, _, _, hTO⟩, ⟨_, g1, rfl, rfl⟩, ⟨_, g2, rfl, rfl⟩, ⟨_, g3, rfl, rfl⟩⟩, fun q hq => ?_, q⟩
          simp only [List.mem_cons, List.not_mem_nil, or_false] at hq
          have hle : s1.heap.objs.size ≤ q := by
            rcases hq with rfl | rfl | rfl | rfl | rfl | rfl
            · exact Nat.le_add_right _ _
            · exact Nat.le_add_right _ _
            · exact Nat.le_add_right _ _
            · exact Nat.le_refl _
            · exact Nat.le_add_right _ _
            · exact Nat.le_add_right _ _
          exact I1.fpOk hle (I1.hok.fresh hle)
section
variable {A : Amb} {G H G' H' : Hp} {σ : L2.St} {env : Env} {P P' : Nat → As}
theorem wi_zip3 {tr : TA} {Post : Nat → (Nat → D) → Env → Prop} (h : WA A tr env fun as e => ∃ t1 t2 t3 ds es fs, as = [.t t1, .t t2, .t t3] ∧ t1.data = .lst ds ∧ t2.data = .lst es ∧ t3.data = .lst fs ∧ Post (min (min ds.length es.length) fs.length) (fun i => .tup [ds.getD i .non, es.getD i .non, fs.getD i .non]) e) : WI A (iZip3 A.c.K tr) env Post := fun G H σ P s R k => by
  refine h G H σ P s _ fun as e vs G1 H1 P1 F1 p1 r1 => ?_
  obtain ⟨t1, t2, t3, ds, es, fs, rfl, h1, h2, h3, hp⟩ := p1
  obtain ⟨s2, st2, rp⟩ := fixA r1.sr r1.tm (ts := [t1, t2, t3]) rfl
  obtain ⟨w1, r', e1, rp1, w2, r2, e2, rp2, w3, r3, e3, rp3, rp4⟩ := rp
  cases rp4
  subst e3 e2 e1
  rw [h1] at rp1
  rw [h2] at rp2
  rw [h3] at rp3
  obtain ⟨p1, ws1, rfl, hp1, hr1⟩ := rp1
  obtain ⟨p2, ws2, rfl, hp2, hr2⟩ := rp2
  obtain ⟨p3, ws3, rfl, hp3, hr3⟩ := rp3
  refine ⟨p1, p2, p3, ws1, ws2, ws3, rfl, SqL.of (s2.le _ _ hp1), SqL.of (s2.le _ _ hp2), SqL.of (s2.le _ _ hp3), k _ _ _ _ _ _ _ hp s2 (r1.st.trans st2) fun G' H' σ' env' P' s' ex i => ?_⟩
  have q1 : SqL A.c.K H' p1 ws1 := SqL.of (s'.le _ _ (ex _ _ hp1))
  have q2 : SqL A.c.K H' p2 ws2 := SqL.of (s'.le _ _ (ex _ _ hp2))
  have q3 : SqL A.c.K H' p3 ws3 := SqL.of (s'.le _ _ (ex _ _ hp3))
  have l1 := reps_len hr1
  have l2 := reps_len hr2
  have l3 := reps_len hr3
  refine ⟨fun hi => ⟨ws1, ws2, ws3, q1, q2, q3, by omega, by omega, by omega, by omega⟩, fun hi => ?_⟩
  obtain ⟨v1, hv1, r1⟩ := reps_at hr1 (j := i) (d := ds.getD i .non) (by rw [List.getD_eq_getElem?_getD, List.getElem?_eq_getElem (by omega)]; rfl)
  obtain ⟨v2, hv2, r2⟩ := reps_at hr2 (j := i) (d := es.getD i .non) (by rw [List.getD_eq_getElem?_getD, List.getElem?_eq_getElem (by omega)]; rfl)
  obtain ⟨v3, hv3, r3⟩ := reps_at hr3 (j := i) (d := fs.getD i .non) (by rw [List.getD_eq_getElem?_getD, List.getElem?_eq_getElem (by omega)]; rfl)
  refine ⟨⟨ws1, ws2, ws3, v1, v2, v3, q1, q2, q3, hv1, hv2, hv3⟩, fun v H2 y => ?_⟩
  obtain ⟨T, x, y, z, rfl, hT, rfl, a1, a2, a3⟩ := y
  have b1 := a1 ws1 q1
  have b2 := a2 ws2 q2
  have b3 := a3 ws3 q3
  rw [hv1] at b1
  rw [hv2] at b2
  rw [hv3] at b3
  cases b1
  cases b2
  cases b3
  exact yield_tup (ds := [_, _, _]) (vs := [v1, v2, v3]) s' ⟨v1, _, rfl, r1.mono ex, v2, _, rfl, r2.mono ex, v3, [], rfl, r3.mono ex, rfl⟩ hT
theorem wi_zip3G {tr : TA} {Post : Nat → (Nat → D) → Env → Prop} (h : WA A tr env fun as e => ∃ t1 t2 t3 m n k f g u, as = [.t t1, .t t2, .t t3] ∧ t1.data = .lst ((List.range m).map f) ∧ t2.data = .lst ((List.range n).map g) ∧ t3.data = .lst ((List.range k).map u) ∧ Post (min (min m n) k) (fun i => .tup [f i, g i, u i]) e) : WI A (iZip3 A.c.K tr) env Post :=
  wi_cg (wi_zip3 (wa_imp h fun as e ⟨t1, t2, t3, m, n, k, f, g, u, e0, e1, e2, e3, p⟩ => ⟨t1, t2, t3, _, _, _, e0, e1, e2, e3, fun i => .tup [f i, g i, u i], fun i hi => by
    rw [List.length_map, List.length_map, List.length_map, List.length_range, List.length_range, List.length_range] at hi
    show D.tup [_, _, _] = _
    rw [getD_map (by omega), getD_map (by omega), getD_map (by omega)], by rw [List.length_map, List.length_map, List.length_map, List.length_range, List.length_range, List.length_range]; exact p⟩))
theorem wi_zip3I {tr : TA} {Post : Nat → (Nat → D) → Env → Prop} (h : WA A tr env fun as e => ∃ t1 t2 t3, ∃ xs ys zs : List Int, as = [.t t1, .t t2, .t t3] ∧ t1.data = .lst (xs.map D.int) ∧ t2.data = .lst (ys.map D.int) ∧ t3.data = .lst (zs.map D.int) ∧ Post (min (min xs.length ys.length) zs.length) (fun i => .tup [.int (gi xs i), .int (gi ys i), .int (gi zs i)]) e) : WI A (iZip3 A.c.K tr) env Post :=
  wi_cg (wi_zip3 (wa_imp h fun as e ⟨t1, t2, t3, xs, ys, zs, e0, e1, e2, e3, p⟩ => ⟨t1, t2, t3, _, _, _, e0, e1, e2, e3, fun i => .tup [.int (gi xs i), .int (gi ys i), .int (gi zs i)], fun i hi => by
    rw [List.length_map, List.length_map, List.length_map] at hi
    have h1 := getD_int (ns := xs) (i := i) (by omega)
    have h2 := getD_int (ns := ys) (i := i) (by omega)
    have h3 := getD_int (ns := zs) (i := i) (by omega)
    show D.tup [_, _, _] = _
    rw [h1, h2, h3], by rw [List.length_map, List.length_map, List.length_map]; exact p⟩))
end
end TL
/-! TZF: lists of fixed things that an own instance's field holds; lists of unlike lengths compared. -/
namespace TL
open PySem PySem.Spec PyProof.Rows L2
/-- two lists of unlike lengths, whatever they hold -/
def rEqL (K : PySem.W.Frag) : R2 := fun x y H Q => ∃ a b xs ys, x = .ref a ∧ y = .ref b ∧ SqL K H a xs ∧ SqL K H b ys ∧ xs.length ≠ ys.length ∧ Q (.bl false) H
theorem op_eqL {X : Cx} (hu : X.A.units + 64 < cLine) : OpR X (compareOp .Eq) (rEqL X.K) := by
  intro pins s σ H x y v u Q I rx ry h
  obtain ⟨a, b, xs, ys, rfl, rfl, ha, hb, hl, q⟩ := h
  cases rx
  cases ry
  obtain ⟨its, rv, p1, _⟩ := I.list ha
  obtain ⟨its2, rv2, p2, _⟩ := I.list hb
  have l1 := rv.length
  have l2 := rv2.length
  exact SeqAt.RcAt.lists_lengths p1.isList p2.isList (by rw [List.size_toArray, List.size_toArray, bne_iff_ne]; omega) (by omega) X.prog X.w _ _ ⟨.bl false, H, I, rfl, q⟩
section
variable {A : Amb} {G H H' : Hp} {σ : L2.St} {P : Nat → As} {env : Env} {te : TE} {tr : TA} {Post : T → Env → Prop} {a b : Ar} {nx bk ct : Env → Prop} {rt : T → Env → Prop}
theorem trf_mem {c : Cn} {f : Str} {ts : List T} {pl : Addr} : ∀ {fs : List (Str × T)} {X : As} {gs : List (Str × V)}, TRf c G H fs X gs → fs.lookup f = some (.lst ts) → gs.lookup f = some (.ref pl) → X pl
  | [], _, _, _, h, _ => by cases h
  | (g, t) :: fs, X, gs, ⟨v, r, F1, F2, e, h1, h2, h3, h4⟩, hf, hg => by
    subst e
    rw [List.lookup_cons] at hf hg
    by_cases q : f == g
    · simp only [q] at hf hg
      cases hf
      cases hg
      obtain ⟨p, vs, F3, e, hp, _⟩ := h3
      cases e
      exact h1 _ hp
    · simp only [q] at hf hg
      exact (h2 _ (trf_mem h4 hf hg)).1
theorem trf_mod {c : Cn} {f : Str} {ds es : List D} {ws : List V} {pl : Addr} (k : ∀ a o, a ≠ pl → H a = some o → H' a = some o) (h' : H' pl = some (.lst ws)) (re : Reps c G es ws) :
    ∀ {fs : List (Str × T)} {X : As} {gs : List (Str × V)}, TRf c G H fs X gs → (∀ a, X a → G a = none) → fs.lookup f = some (.lst (ds.map F)) → gs.lookup f = some (.ref pl) → TRf c G H' (putFT f (.lst (es.map F)) fs) X gs
  | [], _, _, _, _, h, _ => by cases h
  | (g, t) :: fs, X, gs, ⟨v, r, F1, F2, e, h1, h2, h3, h4⟩, gn, hf, hg => by
    subst e
    rw [List.lookup_cons] at hf hg
    unfold putFT
    by_cases q : f == g
    · simp only [q] at hf hg
      cases hf
      cases hg
      rw [if_pos (eq_of_beq q).symm]
      obtain ⟨p, vs, F3, e, hp, hG, hH, hF, _⟩ := h3
      cases e
      exact ⟨_, r, F1, F2, rfl, h1, h2, ⟨pl, ws, noF, rfl, hp, hG, h', fun _ z => z.elim, trs_frz re⟩, h4.mono (Ex.refl _) (fun _ z => z) (fun a o z e => k a o (fun y => (h2 a z).2 (y ▸ hp)) e) fun a z => gn a (h2 a z).1⟩
    · simp only [q] at hf hg
      have hm := trf_mem h4 hf hg
      rw [if_neg (fun e => q (beq_iff_eq.mpr e.symm))]
      exact ⟨v, r, F1, F2, rfl, h1, h2, h3.mono (Ex.refl _) (fun _ z => z) (fun a o z e => k a o (fun y => (h2 _ hm).2 (y ▸ z)) e) fun a z => gn a (h1 a z), trf_mod k h' re h4 (fun a z => gn a (h2 a z).1) hf hg⟩
theorem trf_lst {c : Cn} {f : Str} {ds : List D} : ∀ {fs : List (Str × T)} {X : As} {gs : List (Str × V)}, TRf c G H fs X gs → fs.lookup f = some (.lst (ds.map F)) → ∃ pl vs, gs.lookup f = some (.ref pl) ∧ H pl = some (.lst vs) ∧ Reps c G ds vs ∧ X pl
  | [], _, _, _, h => by cases h
  | (g, t) :: fs, X, gs, ⟨v, r, F1, F2, e, h1, h2, h3, h4⟩, hf => by
    subst e
    rw [List.lookup_cons] at hf ⊢
    by_cases q : f == g
    · simp only [q] at hf ⊢
      cases hf
      obtain ⟨p, vs, F3, e, hp, _, hH, _, trs⟩ := h3
      subst e
      exact ⟨p, vs, rfl, hH, trs_F trs, h1 _ hp⟩
    · simp only [q] at hf ⊢
      obtain ⟨pl, vs, e1, e2, e3, e4⟩ := trf_lst h4 hf
      exact ⟨pl, vs, e1, e2, e3, (h2 _ e4).1⟩
/-- a list of fixed things in a field of the instance that a name holds, and what becomes of it -/
theorem fieldF (s : SR A G H σ env P) {n k : Nat} {f : Str} {fs : List (Str × T)} {ds : List D} (he : env[n]? = some (some (.ins k fs))) (hl : fs.lookup f = some (.lst (ds.map F))) :
    ∃ p dx gs pl vs, σ[n]? = some (some (.ref p)) ∧ H p = some (.ins (A.c.cls k) dx gs) ∧ gs.lookup f = some (.ref pl) ∧ H pl = some (.lst vs) ∧ Reps A.c G ds vs ∧
      ∀ (es : List D) ws, Reps A.c G es ws → SR A G (upd H pl (.lst ws)) σ (env.set n (some (.ins k (putFT f (.lst (es.map F)) fs)))) P ∧ Stp G H (uP P) G (upd H pl (.lst ws)) (uP P) := by
  obtain ⟨v, hv, p, dx, gs, F1, rfl, h2, h3, h4, h5, h6⟩ := s.slot n _ he
  obtain ⟨pl, vs, e1, e2, e3, e4⟩ := trf_lst h6 hl
  refine ⟨p, dx, gs, pl, vs, hv, h4, e1, e2, e3, fun es ws re => ?_⟩
  have keep : ∀ a o, a ≠ pl → H a = some o → upd H pl (.lst ws) a = some o := fun a o ne e => by rw [upd_ne ne]; exact e
  have hpl := h5 _ e4
  obtain ⟨s2, st2⟩ := s.modify (X := noF) he hv (fun _ z => z.elim) (fun _ z => z.elim) (H' := upd H pl (.lst ws)) (t1 := .ins k (putFT f (.lst (es.map F)) fs))
    ⟨p, dx, gs, F1, rfl, .inl h2, h3, keep _ _ (Ne.symm hpl.2) h4, fun a z => ⟨.inl (h5 a z).1, (h5 a z).2⟩, trf_mod keep upd_same re h6 (fun a z => (s.own n a (h5 a z).1).1) hl e1⟩
    (fun a o n' e => keep a o (fun q => n' (q ▸ hpl.1)) e) fun a z => by
      by_cases q : a = pl
      · subst q; rw [upd_same]; exact Option.some_ne_none _
      · rw [upd_ne q]; exact (s.own n a z).2
  have eP : (fun j a => P j a ∨ (j = n ∧ noF a)) = P := by
    funext j a
    exact propext ⟨fun z => z.elim id fun z => z.2.elim, .inl⟩
  rw [eP] at s2 st2
  exact ⟨s2, st2.wk (fun a z => by rcases z with z | z; exact z; exact z.elim) fun a z => .inl z⟩
variable {cs : List Nat} {fs0 : List (Nat × Str)} {is : List Nat} {ks : List (Nat × Nat × Bool)}
/-- x.f.pop() -/
theorem we_popFld {n k : Nat} {f : Str} {fs : List (Str × T)} {ds : List D} {d : D} (he : env[n]? = some (some (.ins k fs))) (hl : fs.lookup f = some (.lst (ds.map F))) (hc : CF A.c cs fs0 is ks) (m1 : cs.contains k = true) (m2 : fs0.contains (k, f) = true)
    (hd : ds[ds.length - 1]? = some d) (q : Post (F d) (env.set n (some (.ins k (putFT f (.lst (ds.dropLast.map F)) fs))))) : WE A (tBM0 A.c.K "list" rPop (tFld A.c.K (tVar n) f)) env Post := fun G H σ P s Q kq => by
  obtain ⟨p, dx, gs, pl, vs, hσ, hp, e1, e2, e3, mk⟩ := fieldF s he hl
  obtain ⟨s2, st2⟩ := mk _ _ (reps_last e3)
  obtain ⟨v, hv, rv⟩ := reps_at e3 hd
  refine ⟨_, hσ, p, _, dx, gs, _, rfl, hp, hc.cl m1, hc.na m2, e1, .inl ⟨rfl, _, SqL.of e2⟩, pl, vs, v, rfl, rfl, e2, by rw [reps_len e3]; exact hv, kq (F d) _ v _ _ _ noF q ⟨s2, st2.wk (fun _ z => z) fun a z => ?_, ⟨⟨rv, fun _ z => nomatch z⟩, fun _ z => z.elim, fun _ z => z.elim⟩⟩⟩
  rcases z with z | z
  · exact .inl z
  · exact z.elim
/-- x.f.append((x.g, x.h)), both fixed -/
theorem we_appFld2 {n k : Nat} {f f1 f2 : Str} {fs : List (Str × T)} {ds : List D} {o1 o2 : Option V} {d1 d2 : D} (he : env[n]? = some (some (.ins k fs))) (hl : fs.lookup f = some (.lst (ds.map F))) (hl1 : fs.lookup f1 = some (.frz o1 d1)) (hl2 : fs.lookup f2 = some (.frz o2 d2))
    (hc : CF A.c cs fs0 is ks) (m1 : cs.contains k = true) (m2 : fs0.contains (k, f) = true) (m3 : fs0.contains (k, f1) = true) (m4 : fs0.contains (k, f2) = true) (hn : ds.length ≤ 1000000)
    (q : Post N_ (env.set n (some (.ins k (putFT f (.lst ((ds ++ [D.tup [d1, d2]]).map F)) fs))))) : WE A (tBM A.c.K "list" rAppend (tFld A.c.K (tVar n) f) (tCons (tTup (tCons (tFld A.c.K (tVar n) f1) (tCons (tFld A.c.K (tVar n) f2) tNil))) tNil)) env Post := fun G H σ P s Q kq => by
  obtain ⟨p0, dx0, gs0, pl0, vs0, hσ0, hp0, g1, g2, g3, _⟩ := fieldF s he hl
  obtain ⟨v', hv', p', dx', gs', F', e', h2, h3, h4, h5, h6⟩ := s.slot n _ he
  rw [hσ0] at hv'
  cases hv'
  cases e'
  rw [hp0] at h4
  cases h4
  obtain ⟨w1, _, hw1, _, t1⟩ := trf_lookup h6 hl1
  obtain ⟨w2, _, hw2, _, t2⟩ := trf_lookup h6 hl2
  refine ⟨_, hσ0, p0, _, dx0, gs0, _, rfl, hp0, hc.cl m1, hc.na m2, g1, .inl ⟨rfl, _, SqL.of g2⟩, ?_⟩
  refine ⟨_, hσ0, p0, _, dx0, gs0, w1, rfl, hp0, hc.cl m1, hc.na m3, hw1, _, hσ0, p0, _, dx0, gs0, w2, rfl, hp0, hc.cl m1, hc.na m4, hw2, by show 2 ≤ sizeLine; rw [sizeLine_eq]; decide, fun t ht => ?_⟩
  have r := alloc_tup (vs := [w1, w2]) (ds := [d1, d2]) s ⟨w1, _, rfl, t1.1, w2, [], rfl, t2.1, rfl⟩ (U0 := uP P) (fun _ z => z) ht
  obtain ⟨p, dx, gs, pl, vs, hσ, hp, e1, e2, e3, mk⟩ := fieldF r.sr he hl
  rw [hσ0] at hσ
  cases hσ
  have ne : p0 ≠ t := fun e => by rw [e, ht] at hp0; cases hp0
  rw [upd_ne ne, hp0] at hp
  cases hp
  rw [g1] at e1
  cases e1
  have rt : Rep A.c (upd G t (.tup [w1, w2])) (.tup [d1, d2]) (.ref t) := r.tm.tr.1
  obtain ⟨s2, st2⟩ := mk (ds ++ [.tup [d1, d2]]) (vs ++ [.ref t]) (reps_app e3 ⟨_, [], rfl, rt, rfl⟩)
  refine ⟨pl0, vs, .ref t, rfl, rfl, e2, by rw [reps_len e3, sizeLine_eq]; omega, kq N_ _ .non _ _ _ noF q ⟨s2, ?_, .flat rfl fun _ z => nomatch z⟩⟩
  refine (r.st.trans (st2.wk (U := uP P) (fun a z => ?_) fun a z => .inl z)).wk (fun _ z => z) fun a z => ?_
  · exact .inl z
  · rcases z with z | z
    · exact .inl z
    · exact z.elim
theorem wr_eqL {xs ys : List D} (h1 : arD env a = some (.lst xs)) (h2 : arD env b = some (.lst ys)) (hl : xs.length ≠ ys.length) (q : Post (B false) env) : WR A (rEqL A.c.K) a b env Post :=
  wr_flat (d := .bl false) h1 h2 (fun _ => rfl) (fun H x y e1 e2 Q q => by
    obtain ⟨p1, v1, rfl, a1, r1⟩ := e1
    obtain ⟨p2, v2, rfl, a2, r2⟩ := e2
    exact ⟨_, _, _, _, rfl, rfl, SqL.of a1, SqL.of a2, by rw [reps_len r1, reps_len r2]; exact hl, q⟩) q
theorem wg_uptoN {W : Nat → Prop} {n ny m y c : Nat} {ms ns : List Int} {ts : List T} {oy om : Option V} {Post : Env → Prop} (he : env[n]? = some (some (.lst ts))) (hy : env[ny]? = some (some (.frz oy (.int (y : Int))))) (hm : env[m]? = some (some (.frz om (.int (c : Int)))))
    (hj : ts[y]? = some (.lst (ns.map I))) (hc : c ≤ ns.length) (hz : ns.length + ms.length ≤ 1000000) (q : Post (env.set n (some (.lst (ts.set y (.lst ((ms ++ ns.drop c).map I))))))) :
    WG A W (gUpto (tOp (rIxA A.c.K) (tVar n) (tVar ny)) (tPart (tVar m))) (.lst (ms.map I)) env Post := fun G H σ P v0 X s mm Q k => by
  obtain ⟨b, zs, F1, rfl, x1, x2, x3, x4, x5⟩ := mm.tr
  have ez := trs_ints x5
  subst ez
  obtain ⟨p, vs, r, hσ, hp, hv, hr, hP, mk⟩ := slot_row s he hj
  obtain ⟨vy, hvy, ty, _⟩ := s.slot ny _ hy
  have ey : vy = .int (y : Int) := ty
  subst ey
  obtain ⟨vm, hvm, tm, _⟩ := s.slot m _ hm
  have em' : vm = .int (c : Int) := tm
  subst em'
  have rb : r ≠ b := fun z => (mm.fd b x1).1 ⟨n, z ▸ hP⟩
  obtain ⟨s2, st2⟩ := mk (ms ++ ns.drop c)
  have em : (ms ++ ns.drop c).map V.int = ms.map V.int ++ (ns.map V.int).drop c := by rw [List.map_append, List.map_drop]
  rw [em] at s2 st2
  refine ⟨_, hσ, _, hvy, .inl (.inl ⟨p, vs, _, _, rfl, rfl, SqL.of hp, atI_nat' hv, _, hvm, _, rfl, r, b, _, _, c, rfl, rfl, rfl, rb, hr, x3, by rw [List.length_map]; exact hc, by rw [List.length_map, List.length_map, sizeLine_eq]; omega, ?_⟩)⟩
  exact k _ _ _ σ _ q s2 (st2.wk (V := fun a => uP P a ∨ X a) (fun a z => .inl z) fun a z => .inl z) rfl fun _ _ => rfl
end
/-! ### membership of what one reads as plain data -/
noncomputable def eqR (h : Heap) (d : PyData) (w : Value) : Bool := @decide (∃ d' as, Reads h w d' as ∧ PyData.eqv d' d = true) (Classical.propDecidable _)
theorem eqR_of {h : Heap} {d d' : PyData} {w : Value} {as : List Addr} (r : Reads h w d' as) : eqR h d w = PyData.eqv d' d := by
  unfold eqR
  rw [Bool.eq_iff_iff]
  refine Iff.trans (@decide_eq_true_iff _ (Classical.propDecidable _)) ?_
  exact ⟨fun ⟨d2, as2, r2, e⟩ => by rw [(Reads.unique r d2 as2 r2).1]; exact e, fun e => ⟨d', as, r, e⟩⟩
theorem any_eqR {h : Heap} {d : PyData} : ∀ {us : List Value} {ds : List PyData} {as : List Addr}, ReadsAll h us ds as → us.any (eqR h d) = ds.any fun d' => PyData.eqv d' d
  | [], _, _, r => by cases r; rfl
  | u :: us, _, _, r => by
    cases r with
    | cons r1 r2 => rw [List.any_cons, List.any_cons, eqR_of r1, any_eqR r2]
theorem mem_eqR {A : Around} {s : Shared} {d : PyData} {v : Value} {bs : List Addr} (rv : Reads s.heap v d bs) (pd : d.canLay0 = true) (hu : A.units + d.depth < cLine) : ∀ {us : List Value} {ds : List PyData} {as : List Addr}, ReadsAll s.heap us ds as → PyData.canLayAll0 ds = true → ∀ u ∈ us, SeqAt.EqAt A s u v (eqR s.heap d u)
  | [], _, _, _, _ => fun u hu => by cases hu
  | w :: us, _, _, r, hp => fun u hm => by
    cases r with
    | cons r1 r2 =>
      have h' := hp
      simp only [PyData.canLayAll0, Bool.and_eq_true] at h'
      rcases List.mem_cons.mp hm with rfl | hm
      · rw [eqR_of r1]
        exact SeqAt.eqAt_reads _ _ _ _ _ _ _ _ r1 rv h'.1 pd (by omega)
      · exact mem_eqR rv pd hu r2 h'.2 u hm
def rInD (K : PySem.W.Frag) (neg : Bool) : R2 := fun x y H Q => ∃ d ds p xs, y = .ref p ∧ SqL K H p xs ∧ Dp K H x d ∧ DpAll K H xs ds ∧ d.canLay0 = true ∧ PyData.canLayAll0 ds = true ∧ d.depth ≤ 60 ∧ Q (.bl (if neg then !(ds.any fun d' => PyData.eqv d' d) else ds.any fun d' => PyData.eqv d' d)) H
theorem op_niD {X : Cx} (hu : X.A.units + 64 < cLine) : OpR X (compareOp .NotIn) (rInD X.K true) := by
  intro pins s σ H x y v u Q I rx ry h
  obtain ⟨d, ds, p, xs, rfl, hq, hd, hds, pd, pds, dp, q⟩ := h
  cases ry
  obtain ⟨its, r, pl, hz⟩ := I.list hq
  obtain ⟨as, r1⟩ := Dp.reads I d x v hd rx
  obtain ⟨bs, r2⟩ := Dp.readsAll I ds xs its hds r
  refine SeqAt.notIn_listAt (eqR s.heap d) pl.isList (fun w hw => mem_eqR r1 pd (by show X.A.units + 1 + _ < _; omega) r2 pds w (by simpa using hw)) ⟨.bl _, H, I, rfl, ?_⟩
  rw [show its.toArray.any (eqR s.heap d) = its.any (eqR s.heap d) by simp, any_eqR r2]
  exact q
theorem op_inD {X : Cx} (hu : X.A.units + 64 < cLine) : OpR X (compareOp .In) (rInD X.K false) := by
  intro pins s σ H x y v u Q I rx ry h
  obtain ⟨d, ds, p, xs, rfl, hq, hd, hds, pd, pds, dp, q⟩ := h
  cases ry
  obtain ⟨its, r, pl, hz⟩ := I.list hq
  obtain ⟨as, r1⟩ := Dp.reads I d x v hd rx
  obtain ⟨bs, r2⟩ := Dp.readsAll I ds xs its hds r
  refine SeqAt.in_listAt (eqR s.heap d) pl.isList (fun w hw => mem_eqR r1 pd (by show X.A.units + 1 + _ < _; omega) r2 pds w (by simpa using hw)) ⟨.bl _, H, I, rfl, ?_⟩
  rw [show its.toArray.any (eqR s.heap d) = its.any (eqR s.heap d) by simp, any_eqR r2]
  exact q
section
variable {A : Amb} {env : Env} {Post : T → Env → Prop} {a b : Ar}
theorem wr_niD {d : D} {ds : List D} (h1 : arD env a = some d) (h2 : arD env b = some (.lst ds)) (p1 : d.plain = true) (p2 : (D.lst ds).plain = true) (p3 : d.py.canLay0 = true) (p4 : PyData.canLayAll0 (D.pys ds) = true) (hd : d.py.depth ≤ 60) (q : Post (B (!((D.pys ds).any fun d' => PyData.eqv d' d.py))) env) : WR A (rInD A.c.K true) a b env Post :=
  wr_flat (d := .bl (!((D.pys ds).any fun d' => PyData.eqv d' d.py))) h1 h2 (fun _ => rfl) (fun H x y e1 e2 Q q => by
    have e3 := e2.dp p2
    cases e3 with
    | lst sq dl => exact ⟨_, _, _, _, rfl, sq, e1.dp p1, dl, p3, p4, hd, q⟩) q
end
end TL
/-! TZS: index and join of texts, ord, f-strings, a text or another. -/
namespace TL
open PySem PySem.Spec PyProof.Rows L2
/-! ### text.index(text) -/
def rSIndex : V → List V → Hp → VK → Prop := fun x xs H Q => ∃ a b, ∃ i : Nat, ∃ rest, x = .str a ∧ xs = [.str b] ∧ Builtin.Str.occurrences a b 0 a.length 1 = i :: rest ∧ Q (.int i) H
theorem mt_sindex {X : Cx} : MtR X "str.index" rSIndex := by
  intro pins s σ H x xs v us Q I rx rs h
  obtain ⟨a, b, i, rest, rfl, rfl, ho, h⟩ := h
  obtain ⟨t, rfl⟩ := rx
  cases rs with
  | cons r1 rs =>
    cases rs
    obtain ⟨u, rfl⟩ := r1
    exact PySem.SC.index ho ⟨.int i, H, I.tok _, ⟨_, rfl⟩, h⟩
theorem occ_sgn {s : Str} {c j : Nat} (hj : j < s.length) (hc : si s j = c) (hb : ∀ i, i < j → si s i ≠ c) : ∃ rest, Builtin.Str.occurrences s (sgn c) 0 s.length 1 = j :: rest := by
  have l1 : (sgn c).length = 1 := rfl
  rcases StrLaws.occ_head s (sgn c) 1 (Nat.le_refl _) with ⟨_, hn⟩ | ⟨i, r, e, ⟨ha1, ha2⟩, hk⟩
  · exact absurd ⟨by rw [l1]; omega, (sub_sgn hj).mpr hc⟩ (hn j)
  · rw [l1] at ha1
    have hi := (sub_sgn (show i < s.length by omega)).mp ha2
    rcases Nat.lt_trichotomy i j with q | q | q
    · exact absurd hi (hb i q)
    · exact ⟨r, by rw [e, q]⟩
    · exact absurd ⟨by rw [l1]; omega, (sub_sgn hj).mpr hc⟩ (hk j q)
def rSJoin (K : PySem.W.Frag) : V → List V → Hp → VK → Prop := fun x xs H Q => ∃ a p, ∃ ys : List Str, x = .str a ∧ xs = [.ref p] ∧ (SqL K H p (ys.map V.str) ∨ SqT K H p (ys.map V.str)) ∧ (ys.map (·.length)).sum + ys.length * a.length ≤ 16777216 ∧ Q (.str (Txt.join a ys)) H
theorem mt_sjoin {X : Cx} : MtR X "str.join" (rSJoin X.K) := mt_join
/-- ord(text) -/
def rOrd : List V → Hp → VK → Prop := fun xs H Q => ∃ x, xs = [.str x] ∧ x.length = 1 ∧ Q (.int (x.cps.getD 0 0 : Nat)) H
theorem call_ordT {X : Cx} : CallR X (.builtin "ord") rOrd := call_ord
section
variable {A : Amb} {G H : Hp} {σ : L2.St} {P : Nat → As} {env : Env} {te ta tb : TE} {tr : TA} {Post : T → Env → Prop}
theorem we_sindex (h : WE A te env fun t e => ∃ o x, t = .frz o (.str x) ∧ WA A tr e fun as e => ∃ o2 c, ∃ j : Nat, as = [.t (.frz o2 (.str (sgn c)))] ∧ j < x.length ∧ si x j = c ∧ (∀ i, i < j → si x i ≠ c) ∧ Post (I j) e) : WE A (tBM A.c.K "str" rSIndex te tr) env Post := fun G H σ P s Q k => by
  refine h G H σ P s _ fun t e v G1 H1 P1 F1 p1 r1 => ?_
  obtain ⟨o, x, rfl, p1⟩ := p1
  have ev : v = .str x := r1.tm.tr.1
  subst ev
  refine ⟨?_, p1 G1 H1 σ P1 r1.sr _ fun as e2 vs G2 H2 P2 F2 p2 r2 => ?_⟩
  · exact rfl
  obtain ⟨o2, c, j, rfl, hj, hc, hb, q⟩ := p2
  obtain ⟨_, _, rfl, _, tr⟩ := r2.tm.tr.one
  obtain ⟨rest, e3⟩ := occ_sgn hj hc hb
  exact ⟨x, sgn c, j, rest, rfl, by rw [tr.1], e3, k _ _ _ _ _ _ noF q ⟨r2.sr, r1.drop.trans r2.drop |>.wk (fun _ z => z) fun a z => by rcases z with z | z; exact .inl z; exact z.elim, .flat rfl fun _ z => nomatch z⟩⟩
theorem we_sjoin (h : WE A te env fun t e => ∃ o a, t = .frz o (.str a) ∧ WA A tr e fun as e => ∃ t2 ys, as = [.t t2] ∧ t2.data = .lst (ys.map D.str) ∧ (ys.map (·.length)).sum + ys.length * a.length ≤ 1000000 ∧ Post (S (Txt.join a ys)) e) : WE A (tBM A.c.K "str" (rSJoin A.c.K) te tr) env Post := fun G H σ P s Q k => by
  refine h G H σ P s _ fun t e v G1 H1 P1 F1 p1 r1 => ?_
  obtain ⟨o, a, rfl, p1⟩ := p1
  have ev : v = .str a := r1.tm.tr.1
  subst ev
  refine ⟨?_, p1 G1 H1 σ P1 r1.sr _ fun as e2 vs G2 H2 P2 F2 p2 r2 => ?_⟩
  · exact rfl
  obtain ⟨t2, ys, rfl, hd, hz, q⟩ := p2
  obtain ⟨s2, st2, rp⟩ := fixA r2.sr r2.tm (ts := [t2]) rfl
  obtain ⟨w, r', e1, rp1, rp2⟩ := rp
  cases rp2
  subst e1
  rw [hd] at rp1
  obtain ⟨p, ws, rfl, hp2, hr⟩ := rp1
  have ew := reps_strs hr
  subst ew
  refine ⟨a, p, ys, rfl, rfl, .inl (SqL.of (s2.le _ _ hp2)), by omega, k _ _ _ _ _ _ noF q ⟨s2, (r1.drop.trans (r2.st.trans st2)).wk (fun _ z => z) fun a z => ?_, .flat rfl fun _ z => nomatch z⟩⟩
  first
  | exact .inl z
  | (rcases z with z | z; exact .inl z; exact z.elim)
theorem wc_ord {c : Nat} {o : Option V} (q : Post (I c) env) : WC A rOrd [.t (.frz o (.str (sgn c)))] env Post :=
  wc_one (f := fun _ _ _ => True) (d := .str (sgn c)) (d' := .int c) rfl (fun _ => rfl) (fun H x e Q q => ⟨sgn c, by rw [show x = .str (sgn c) from e], rfl, q⟩) q
/-- a text, or else another thing -/
theorem we_orS (h : WE A ta env fun t e => ∃ o x, t = .frz o (.str x) ∧ x.length ≤ 1000000 ∧ (x.length ≠ 0 → Post (S x) e) ∧ (x.length = 0 → WE A tb e Post)) : WE A (tOrT A.c.K ta tb) env Post := fun G H σ P s Q k => by
  refine h G H σ P s _ fun t e v G' H' P' F p r => ?_
  obtain ⟨o, x, rfl, hx, p⟩ := p
  have ev : v = .str x := r.tm.tr.1
  subst ev
  refine ⟨_, ⟨by rw [sizeLine_eq]; omega, rfl⟩, ?_⟩
  by_cases z : x.length = 0
  · rw [if_neg (by rw [z]; decide)]
    exact p.2 z G' H' σ P' r.sr Q fun t e v G2 H2 P2 F2 p2 r2 => k t e v G2 H2 P2 F2 p2 ⟨r2.sr, r.drop.trans r2.st, r2.tm⟩
  · rw [if_pos (by simp; omega)]
    exact k (S x) e _ G' H' P' noF (p.1 z) ⟨r.sr, r.st.wk (fun _ h => h) (fun a z => by rcases z with z | z; exact .inl (.inl z); exact z.elim), .flat rfl fun _ z => nomatch z⟩
/-- the parts of an f-string: a text, or the text of an int -/
theorem we_fmtS (h : WE A te env fun t e => ∃ o x, t = .frz o (.str x) ∧ x.length ≤ 1000000 ∧ Post (S x) e) : WE A (tFmt te) env Post := fun G H σ P s Q k => by
  refine h G H σ P s _ fun t e v G' H' P' F p r => ?_
  obtain ⟨o, x, rfl, hx, p⟩ := p
  have ev : v = .str x := r.tm.tr.1
  subst ev
  exact .inl ⟨x, rfl, by rw [sizeLine_eq]; omega, k (S x) e _ G' H' P' noF p ⟨r.sr, r.st.wk (fun _ h => h) (fun a z => by rcases z with z | z; exact .inl (.inl z); exact z.elim), .flat rfl fun _ z => nomatch z⟩⟩
theorem we_fmtI (h : WE A te env fun t e => ∃ o i, t = .frz o (.int i) ∧ i.natAbs.log2 < 1920 ∧ Post (S (toString i)) e) : WE A (tFmt te) env Post := fun G H σ P s Q k => by
  refine h G H σ P s _ fun t e v G' H' P' F p r => ?_
  obtain ⟨o, i, rfl, hx, p⟩ := p
  have ev : v = .int i := r.tm.tr.1
  subst ev
  exact .inr ⟨i, rfl, hx, k (S (toString i)) e _ G' H' P' noF p ⟨r.sr, r.st.wk (fun _ h => h) (fun a z => by rcases z with z | z; exact .inl (.inl z); exact z.elim), .flat rfl fun _ z => nomatch z⟩⟩
/-- an f-string of two parts or more -/
def tJoined (ts : List TE) : TE := fun σ H Q => tJs ts Str.empty σ H fun out H1 => Q (.str out) H1
def WJ (A : Amb) : List TE → Str → Env → (T → Env → Prop) → Prop
  | [], acc, env, Post => Post (S acc) env
  | t :: ts, acc, env, Post => WE A t env fun t e => ∃ o x, t = .frz o (.str x) ∧ acc.length + x.length ≤ 1000000 ∧ WJ A ts (acc ++ x) e Post
theorem wj_run : ∀ {ts : List TE} {acc : Str} {env : Env} {Post : T → Env → Prop}, WJ A ts acc env Post → ∀ G H σ P, SR A G H σ env P → ∀ Q : VK, (∀ t e v G' H' P' F, Post t e → Res A G H (uP P) σ t e v G' H' P' F → Q v H') → tJs ts acc σ H fun out H1 => Q (.str out) H1
  | [], acc, env, Post, h => fun G H σ P s Q k => k (S acc) env (.str acc) G H P noF h ⟨s, Stp.refl.wk (fun _ h => h) (fun a z => by rcases z with z | z; exact .inl z; exact z.elim), .flat rfl fun _ z => nomatch z⟩
  | t :: ts, acc, env, Post, h => fun G H σ P s Q k => by
    refine h G H σ P s _ fun t e v G' H' P' F p r => ?_
    obtain ⟨o, x, rfl, hx, p⟩ := p
    have ev : v = .str x := r.tm.tr.1
    subst ev
    refine ⟨x, rfl, by rw [str_app_len, sizeLine_eq]; omega, wj_run p G' H' σ P' r.sr Q fun t e v G2 H2 P2 F2 p2 r2 => k t e v G2 H2 P2 F2 p2 ⟨r2.sr, r.drop.trans r2.st, r2.tm⟩⟩
theorem we_joined {ts : List TE} (h : WJ A ts Str.empty env Post) : WE A (tJoined ts) env Post := fun G H σ P s Q k => wj_run h G H σ P s Q k
end
/-- a comprehension over a range that draws from a box at slot b: things of one kind -/
theorem lc_boxP {A : Amb} {g : TG} {te : TE} {R : List T → Env → Prop} {ws : List Nat} {j : Int} {e0 : Env} (b m k : Nat) (Q : T → Prop) (h0 : ∃ t, (wipeE e0 ws)[b]? = some (some t) ∧ Box m t)
    (hs : ∀ (i : Nat) t, (i : Int) < j → Box (m + k * i) t → WG A (fun j => j ∈ ws) g (I i) ((wipeE e0 ws).set b (some t)) fun e1 => WE A te e1 fun t' e3 => ∃ t2, Q t' ∧ Box (m + k * (i + 1)) t2 ∧ wipeE e3 ws = (wipeE e0 ws).set b (some t2))
    (q : ∀ (ts : List T) t2, ts.length = j.toNat → (∀ t, t ∈ ts → Q t) → Box (m + k * j.toNat) t2 → R ts ((wipeE e0 ws).set b (some t2))) : ∃ Iv : Nat → List T → Env → Prop, Iv 0 [] (wipeE e0 ws) ∧
      (∀ (i : Nat) acc e, (i : Int) < j → acc.length ≤ i → Iv i acc e → WG A (fun j => j ∈ ws) g (I i) e fun e1 => WT A tYes e1 fun b e2 => (b = true → WE A te e2 fun t e3 => Iv (i + 1) (acc ++ [t]) (wipeE e3 ws)) ∧ (b = false → Iv (i + 1) acc (wipeE e2 ws))) ∧
      ∀ acc e, acc.length ≤ j.toNat → Iv j.toNat acc e → R acc e := by
  obtain ⟨t, h1, h2⟩ := h0
  refine ⟨fun i acc e => (acc.length = i ∧ ∀ t, t ∈ acc → Q t) ∧ ∃ t, Box (m + k * i) t ∧ e = (wipeE e0 ws).set b (some t), ⟨⟨rfl, fun _ z => by cases z⟩, t, h2, (set_same h1).symm⟩, ?_, ?_⟩
  · rintro i acc e hi hl ⟨⟨hn, hb⟩, t2, hbox, rfl⟩
    refine fun G H σ P v X s m Q k => hs i t2 hi hbox G H σ P v X s m Q fun e' G' H' σ' P' q' s' st l w => k e' G' H' σ' P' (wt_yes ⟨fun _ => ?_, fun z => nomatch z⟩) s' st l w
    refine we_imp q' fun t' e3 ⟨t3, hx, hb3, e4⟩ => ⟨⟨by simp [hn], fun n hm => ?_⟩, t3, hb3, e4⟩
    rcases List.mem_append.mp hm with hm | hm
    · exact hb n hm
    · rcases List.mem_singleton.mp hm with rfl
      exact hx
  · rintro acc e hl ⟨⟨hn, hb⟩, t2, hbox, rfl⟩
    exact q acc t2 hn hb hbox
end TL
/-! TR7: what stands behind `try: .. except C as n: x = n`, the exception still held; repr of an empty dict. -/
namespace TL
open PySem PySem.Spec PyProof.Rows L2
/-- isinstance of an exception that is pinned -/
theorem call_isP {X : Cx} {a : Addr} {oe : Obj} {cls : Value} {d : Option Addr} (hp : (a, oe) ∈ X.pn) (hz : Zc cls d oe) (hf : ∃ vs, oe.data = .fields vs) : CallR X (.builtin "isinstance") (rIsX X.K a cls d) := by
  rintro pins s σ H xs us Q I r ⟨D, c, cv, b, ec, C, hdd, rfl, hcv, e, q⟩
  subst ec
  cases r with
  | cons rx rr =>
    cases rr with
    | cons rt r3 =>
      cases r3
      cases rx
      obtain rfl := hcv _ rt
      obtain ⟨hget, _⟩ := I.pin (a, oe) (List.mem_append.mpr (.inl hp))
      obtain ⟨vs, hv⟩ := hf
      have J : ∃ od, PySem.W.InstAt s.heap a oe D od := by
        cases d with
        | none => exact ⟨none, hget, hz.1, by unfold PySem.W.notCls; rw [hv] <;> rfl, by rw [hz.2]; trivial⟩
        | some dd =>
          obtain ⟨fs, hx⟩ := hdd dd rfl
          have hx : ObjOk X.prog X.w H s.heap dd (.xd fs) := I.hok dd _ hx
          obtain ⟨mA, hns, _⟩ := hx
          obtain ⟨o, ho, _⟩ := lookIn_ns hns
          exact ⟨some o, hget, hz.1, by unfold PySem.W.notCls; rw [hv] <;> rfl, by rw [hz.2]; exact ho⟩
      obtain ⟨od, J⟩ := J
      exact PySem.W.kia_one (exc_kit C) I.kIn J e (fun z => nomatch z) fun tk => ⟨.bl b, H, I.kept (t' := tk) fun _ _ z => z, rfl, q⟩
/-- a field of it -/
theorem pe_xfP {X : Cx} {a C : Addr} {oe : Obj} {cls : Value} {d : Option Addr} {e : Expr} {te : TE} {pos : Pos} {n : Str} (T : XfC X.K C) (hno : PySem.W.findIn X.K (.ref C) n = some none)
    (hp : (a, oe) ∈ X.pn) (hz : Zc cls d oe) (hf : ∃ vs, oe.data = .fields vs) (he : PE X e te) (hb : attributeBase e n X.env (eval e X.env) = eval e X.env := by rfl) :
    PE X (.Attribute e n pos) (tXf a cls d C n te) := by
  refine ⟨fun pins s σ H Q I h => ?_⟩
  refine attr_of hb (thn (he.run pins s σ H _ I h) fun u s1 hh => ?_)
  obtain ⟨x, H1, I1, rx, ex, ec, dd, fs, v, ed, ea, l, q⟩ := hh
  subst ex
  obtain rfl : u = Value.ref a := rx
  subst ec
  subst ed
  obtain ⟨ha, _⟩ := I1.pin (a, oe) (List.mem_append_left _ hp)
  obtain ⟨vs, hd⟩ := hf
  have hx : ObjOk X.prog X.w H1 s1.heap dd (.xd fs) := I1.hok dd _ ea
  obtain ⟨mA, hns, hr⟩ := hx
  obtain ⟨od, ho, hl⟩ := lookIn_ns hns
  obtain ⟨u, hu, ru⟩ := RelO.some_of (v := v) (o := mA n) (by rw [← l]; exact hr n)
  have J : PySem.W.InstAt s1.heap a oe C (some od) := ⟨ha, hz.1, by unfold PySem.W.notCls; rw [hd] <;> rfl, by rw [hz.2]; exact ho⟩
  exact HandSPX.exc_get I1.kIn J T.ga T.gg T.exC (PySem.W.findObj_own T.hdC hno rfl (by rw [hl, hu])) (handed_of ru) ⟨v, H1, I1.tok _, ru, q⟩
/-- the wish of `except C as n` where what stands behind the try is told twice: `ru`, where the exception is held still -/
def wAsR (K : PySem.W.Frag) (c : Value) (i : Nat) (ts ru : Addr → Value → Option Addr → TS) (Wout : WX) (D : Ends) : WX := fun cls d σ H =>
  ∃ b, PySem.W.exmOne K cls c = some b ∧ (b = true → ∀ a, H a = none → ts a cls d { nx := fun σ' H' => ru a cls d D (σ'.set i none) H', rt := D.rt, bk := fun σ' H' => D.bk (σ'.set i none) H', ct := fun σ' H' => D.ct (σ'.set i none) H' } (σ.set i (some (.ref a))) H) ∧
    (b = false → Wout cls d σ H)
def tTryR (K : PySem.W.Frag) (C : Addr) (i : Nat) (tt : WX → TS) (ts ru : Addr → Value → Option Addr → TS) (u : TS) (W : WX) : TS := fun D σ H => tt (wAsR K (.ref C) i ts ru W D) { D with nx := u D } σ H
/-- where the try ends: as it does without an exception, or behind the clause with the exception held -/
def SPR (X : Cx) (pins : List (Addr × Obj)) (u : TS) (ru : Addr → Value → Option Addr → TS) (D : Ends) (f : Flow) (s : Shared) : Prop :=
  match f with
  | .next => (∃ σ H, Inv X pins σ H s ∧ u D σ H) ∨ ∃ a oe cls d σ H, Zc cls d oe ∧ (∃ vs, oe.data = .fields vs) ∧ Inv (X.tr ((a, oe) :: (X.pn ++ pins)) X.xe) [] σ H s ∧ ru a cls d D σ H
  | .brk => SP X pins D .brk s
  | .cont => SP X pins D .cont s
  | .ret v => SP X pins D (.ret v) s
section
variable {X : Cx} {x n : Str} {C : Addr} {i : Nat} {body suite rest : List Stmt} {b₀ : Stmt} {np pos pos' : Pos} {tt : WX → TS} {ts ru : Addr → Value → Option Addr → TS} {W : WX} {u : TS}
theorem Inv.hold {pins : List (Addr × Obj)} {σ : L2.St} {H : Hp} {s : Shared} {a : Addr} {q : List (Addr × Obj)} (I : Inv (X.suite a q) [] σ H s) (ok : X.Ok) : Inv (X.tr q X.xe) [] σ H s :=
  ⟨ok.toTry _ _, I.os, I.bare, I.base, I.loc, I.cell, I.free, I.freeC, I.pin, I.hok, I.len⟩
theorem meetsR {pins : List (Addr × Obj)} {D : Ends} {xe0 : Value → Shared → Prop} {e0 : Value} {sx : Shared} (ok : X.Ok) (hm : X.mg x = some (.ref C)) (hN : X.N.Nodup) (tk : Takes X W) (hi : X.N[i]? = some n) (hln : X.env.kindOf n = some .local)
    (hsu : ∀ (a : Addr) (oe : Obj) (cls : Value) (d : Option Addr) (pn : List (Addr × Obj)), Zc cls d oe → (∃ vs, oe.data = .fields vs) → PSs (X.suite a ((a, oe) :: pn)) (b₀ :: suite) (ts a cls d))
    (hs : X.stack = X.env :: X.outer) (hf : X.env.frame = some X.env.locals) (hg : Gl X x) (hd : (x == ("__debug__" : Str)) = false) (hx : XE (X.tr (X.pn ++ pins) xe0) (wAsR X.K (.ref C) i ts ru W D) e0 sx) :
    wpAny (model X.prog X.w) X.A (noteFrame e0 X.env) (fun _ s₂ => wpAny (model X.prog X.w) X.A (setFlight e0 none) (fun _ s₃ => wpAny (model X.prog X.w) X.A (handleBy e0 X.env [.ExceptHandler (some (.Name x np)) (some n) (b₀ :: suite) pos']) (SPR X pins u ru D) X.xe s₃) X.xe s₂) X.xe sx := by
  obtain ⟨ad, Bg, sT, pinT, τ, Hx, cl, dc, rfl, IT, ground, upto, skyT, free, osT, bare, bo, mt, yes, no⟩ := hx
  have IX : Inv X pins τ Hx sT := IT.ofTry ok
  have frames : X.A.frames = some (X.env :: X.outer) := by rw [ok.frames, hs]
  have skyX : Sky Bg (X.env :: X.outer) ad (Zc cl dc) X.env.locals sx.heap := hs ▸ skyT
  refine Sky.land Zc.steady frames hf skyX fun hp1 fly1 up1 => ?_
  have I1 : Inv X pins τ Hx { sx with heap := hp1 } := IX.landed ground fly1.1 (upto.trans up1) osT bare
  obtain ⟨ob1, vs1, get1, zc1, dat1⟩ := fly1.there
  have outside : ad ∉ frs (X.env :: X.outer) := fun hmem => by
    obtain ⟨_, ob, eo, hnf⟩ := fly1.2.2.1.mem hmem
    rw [get1] at eo
    cases eo
    exact hnf _ dat1
  have notL : ad ≠ X.env.locals := fun z => outside (List.mem_filterMap.mpr ⟨X.env, List.mem_cons_self, by rw [hf, z]⟩)
  have notF : ad ∉ X.fs := fun hmem => by
    obtain ⟨ev, hev, qv⟩ := List.mem_filterMap.mp hmem
    exact outside (List.mem_filterMap.mpr ⟨ev, List.mem_cons_of_mem _ hev, qv⟩)
  have S1 := I1.suite get1 dat1 free notL notF
  refine wpAny_handleBy_cons (codeAny_handlers_test (?_ : wpAny _ _ _ _ _ _)) (fun q => by cases q)
  have tyE : PySem.W.Looks (model X.prog X.w) hp1 (typeOf (.ref ad)) cl := fun A' Q' E' s' kk qq => wpAny_typeOf_ref (kk _ _ get1) (by rw [zc1.1]; exact qq)
  refine ld_glob (X := X.suite ad ((ad, ob1) :: (X.pn ++ pins))) S1 hg hm ((PySem.W.exm_one (M := model X.prog X.w) I1.kIn tyE mt).here ?_) hd
  cases bo with
  | false =>
    show wpAny _ X.A (handleBy (.ref ad) X.env []) (SPR X pins u ru D) X.xe _
    obtain ⟨_, _, _, ob, vs, tb, _, _, get0, _, dat0, fld1, _⟩ := id fly1
    refine wpAny_handleBy_nil (?_ : wpAny _ _ _ _ _ _)
    unfold PySem.passOn
    refine wpAny_bind (wpAny_field get0 dat0 fld1 (?_ : wpAny _ _ _ _ _ _))
    rw [if_neg (by simp : ¬ ((Value.ref tb == Value.none) = true))]
    have go : wpAny (model X.prog X.w) X.A (setFlight (.ref ad) X.env.frame) (fun _ sy => wpAny (model X.prog X.w) X.A (throw (.ref ad) : Sem Flow) (SPR X pins u ru D) X.xe sy) X.xe { sx with heap := hp1 } := by
      rw [hf]
      exact HandSPX.setFlight_upZ fly1 fun hp2 hold up2 => wpAny_throw (tk _ _ ⟨ad, Bg, sT, pins, τ, Hx, cl, dc, rfl, IX, ground, (upto.trans up1).trans up2, .inr (.inr (by rw [hs]; exact hold)), free, osT, bare, no rfl⟩)
    first | exact wpAny_bind (wpAny_pure (wpAny_bind go)) | exact wpAny_bind go
  | true =>
    refine codeAny_handlers_suite_as (HandSPX.lands_againZ fly1 fun hp2 fly2 up2 => ?_)
    have I2 : Inv X pins τ Hx { sx with heap := hp2 } := IX.landed ground fly2.1 ((upto.trans up1).trans up2) osT bare
    obtain ⟨ob2, vs2, get2, zc2, dat2⟩ := fly2.there
    refine store_ok (X := X.suite ad ((ad, ob2) :: (X.pn ++ pins))) (v := .ref ad) (I2.suite get2 dat2 free notL notF) hN hi (.inl hln) rfl (fun s5 S5 => ?_) (.inr hln)
    have leave : ∀ {s6 : Shared} {τ6 : L2.St} {H6 : Hp} {R : Shared → Prop}, Inv (X.suite ad ((ad, ob2) :: (X.pn ++ pins))) [] τ6 H6 s6 → (∀ s7, Inv X pins (τ6.set i none) H6 s7 → R s7) →
        wpAny (model X.prog X.w) X.A (do bindName X.env n .none; unbindBehindTheSuite X.env n pos') (fun _ s7 => R s7) X.xe s6 := fun {s6 τ6 H6 R} S6 hR => gone_ok (S6.unsuite ok) hN hi hln hR
    refine wpAny_mono ((hsu ad ob2 cl dc (X.pn ++ pins) zc2 ⟨_, dat2⟩).run [] s5 _ Hx _ S5 (yes rfl ad free)) (fun fl s6 hsp => ?_) (fun _ _ z => z.elim)
    cases fl with
    | ret v => obtain ⟨w, τ6, H6, S6, r6, q6⟩ := hsp; exact leave S6 fun s7 J7 => ⟨w, _, _, J7, r6, q6⟩
    | next =>
      obtain ⟨τ6, H6, S6, q6⟩ := hsp
      exact gone_ok (X := X.tr ((ad, ob2) :: (X.pn ++ pins)) X.xe) (Inv.hold (pins := pins) S6 ok) hN hi hln fun s7 J7 => .inr ⟨ad, ob2, cl, dc, _, _, zc2, ⟨_, dat2⟩, J7, q6⟩
    | brk => obtain ⟨τ6, H6, S6, q6⟩ := hsp; exact leave S6 fun s7 J7 => ⟨_, _, J7, q6⟩
    | cont => obtain ⟨τ6, H6, S6, q6⟩ := hsp; exact leave S6 fun s7 J7 => ⟨_, _, J7, q6⟩
/-- try: .. except C as n: .. and what stands behind it -/
theorem pss_tryR (hm : X.mg x = some (.ref C)) (hN : X.N.Nodup) (tk : Takes X W)
    (hb : ∀ (W : WX) (pn : List (Addr × Obj)) (xe : Value → Shared → Prop), Takes (X.tr pn xe) W → PSs (X.tr pn xe) body (tt W))
    (hsu : ∀ (a : Addr) (oe : Obj) (cls : Value) (d : Option Addr) (pn : List (Addr × Obj)), Zc cls d oe → (∃ vs, oe.data = .fields vs) → PSs (X.suite a ((a, oe) :: pn)) (b₀ :: suite) (ts a cls d))
    (hr : PSs X rest u) (hru : ∀ (a : Addr) (oe : Obj) (cls : Value) (d : Option Addr) (pn : List (Addr × Obj)), (a, oe) ∈ pn → Zc cls d oe → (∃ vs, oe.data = .fields vs) → PSs (X.tr pn X.xe) rest (ru a cls d))
    (hs : X.stack = X.env :: X.outer := by rfl) (hf : X.env.frame = some X.env.locals := by rfl) (hi : X.N[i]? = some n := by rfl) (hln : X.env.kindOf n = some .local := by rfl) (hg : Gl X x := by rfl) (hd : (x == ("__debug__" : Str)) = false := by decide) :
    PSs X (.Try body [.ExceptHandler (some (.Name x np)) (some n) (b₀ :: suite) pos'] [] [] pos :: rest) (tTryR X.K C i tt ts ru u W) := by
  refine ⟨fun pins s σ H D I h => ?_⟩
  have ok := I.ok
  refine wpAny_execs_cons (thn (Q := SPR X pins u ru D) (wpAny_Try_except ?_) fun f s1 q => ?_)
  · have bodyRuns := (hb (wAsR X.K (.ref C) i ts ru W D) (X.pn ++ pins) _ fun e0 sx hx => meetsR (u := u) (np := np) (pos' := pos') ok hm hN tk hi hln hsu hs hf hg hd hx).run [] s σ H { D with nx := u D } (I.toTry _) h
    refine wpAny_mono bodyRuns (fun fl s1 hsp => ?_) (fun e s1 he => he)
    cases fl with
    | next => obtain ⟨σ', H', J', q⟩ := hsp; exact wpAny_execs_nil (.inl ⟨σ', H', J'.ofTry ok, q⟩)
    | ret v => obtain ⟨w, σ', H', J', r, q⟩ := hsp; exact ⟨w, σ', H', J'.ofTry ok, r, q⟩
    | brk => obtain ⟨σ', H', J', q⟩ := hsp; exact ⟨σ', H', J'.ofTry ok, q⟩
    | cont => obtain ⟨σ', H', J', q⟩ := hsp; exact ⟨σ', H', J'.ofTry ok, q⟩
  · cases f with
    | next =>
      rcases q with ⟨σ', H', I', q⟩ | ⟨a, oe, cls, d, σ', H', hz, hd2, I', q⟩
      · exact hr.run pins s1 σ' H' D I' q
      · have R := (hru a oe cls d ((a, oe) :: (X.pn ++ pins)) List.mem_cons_self hz hd2).run [] s1 σ' H' D I' q
        have back : ∀ {σ2 : L2.St} {H2 : Hp} {s2 : Shared}, Inv (X.tr ((a, oe) :: (X.pn ++ pins)) X.xe) [] σ2 H2 s2 → Inv X pins σ2 H2 s2 := fun I =>
          ⟨ok, I.os, I.bare, I.base, I.loc, I.cell, I.free, I.freeC, fun p hp => I.pin p (List.mem_append_left _ (List.mem_cons_of_mem _ hp)), I.hok, I.len⟩
        refine wpAny_mono R (fun fl s2 hsp => ?_) (fun e s2 he => he)
        cases fl with
        | next => obtain ⟨σ2, H2, J, q2⟩ := hsp; exact ⟨σ2, H2, back J, q2⟩
        | ret v => obtain ⟨w, σ2, H2, J, r, q2⟩ := hsp; exact ⟨w, σ2, H2, back J, r, q2⟩
        | brk => obtain ⟨σ2, H2, J, q2⟩ := hsp; exact ⟨σ2, H2, back J, q2⟩
        | cont => obtain ⟨σ2, H2, J, q2⟩ := hsp; exact ⟨σ2, H2, back J, q2⟩
    | ret v => exact q
    | brk => exact q
    | cont => exact q
end
section
variable {A : Amb} {G H G' H' : Hp} {σ : L2.St} {env : Env} {P P' : Nat → As} {W : WX} {xc : Nat → List (Str × D) → Env → Prop} {nx bk ct : Env → Prop} {rt : T → Env → Prop}
def xAsR (A : Amb) (C : Addr) (i : Nat) (ts ru : Addr → Value → Option Addr → TS) (nx : Env → Prop) (rt : T → Env → Prop) (bk ct : Env → Prop) (xc : Nat → List (Str × D) → Env → Prop) : Nat → List (Str × D) → Env → Prop := fun k fs env =>
  ∃ b, PySem.W.exmOne A.c.K (.ref (A.c.cls k)) (.ref C) = some b ∧ (b = true → i < env.length ∧ ∀ (G H : Hp) (U : As) (a dd : Addr) (gs : List (Str × V)), G dd = some (.xd gs) → RepX A.c G fs gs →
    WS (A.from_ G H U) (ts a (.ref (A.c.cls k)) (some dd)) (env.set i (some (.frz none (.oth (.ref a))))) (fun e => WS (A.from_ G H U) (ru a (.ref (A.c.cls k)) (some dd)) (e.set i none) nx rt bk ct) rt (fun e => bk (e.set i none)) (fun e => ct (e.set i none))) ∧ (b = false → xc k fs env)
theorem ws_tryR {i : Nat} {C : Addr} {tt : WX → TS} {u : TS} {ts ru : Addr → Value → Option Addr → TS} {K : List Nat} (hx : XOk A W xc) (eK : A.keep = K) (hk : K.contains i = false)
    (h : ∀ (G H : Hp) (U : As) (W' : WX), XOk (A.from_ G H U) W' (xAsR A C i ts ru nx rt bk ct xc) → WS (A.from_ G H U) (tt W') env (fun e => WS A u e nx rt bk ct) rt bk ct) :
    WS A (tTryR A.c.K C i tt ts ru u W) env nx rt bk ct := fun G H σ P s D n r b c => by
  have hk' : A.keep.contains i = false := eK ▸ hk
  refine h G H (uP P) (wAsR A.c.K (.ref C) i ts ru W D) (fun G1 H1 σ1 P1 e1 k fs d gs hq s1 hd hr => ?_) G H σ P s.from_ { D with nx := u D } (fun e G' H' σ' P' p s' x => p G' H' σ' P' (s.onto s') D (fun e G2 H2 σ2 P2 q2 s2 x2 => n e G2 H2 σ2 P2 q2 s2 (x.trans x2)) r (fun e G2 H2 σ2 P2 q2 s2 x2 => b e G2 H2 σ2 P2 q2 s2 (x.trans x2)) (fun e G2 H2 σ2 P2 q2 s2 x2 => c e G2 H2 σ2 P2 q2 s2 (x.trans x2)))
    (fun t e v G' H' σ' P' F p s' m => r t e v G' H' σ' P' F p (s.onto s') (m.onto s s')) (fun e G' H' σ' P' p s' x => b e G' H' σ' P' p (s.onto s') x) (fun e G' H' σ' P' p s' x => c e G' H' σ' P' p (s.onto s') x)
  obtain ⟨bo, hm, hy, hn⟩ := hq
  have s2 := s.onto s1
  refine ⟨bo, hm, fun hb a ha => ?_, fun hb => hx.at_ (hn hb) s2 hd hr⟩
  obtain ⟨hi, hw⟩ := hy hb
  have ex1 : Ex G G1 := s1.base.g
  have m0 : Tmp A G1 H1 P1 (.frz none (.oth (.ref a))) noF (.ref a) := .flat rfl fun _ z => nomatch z
  have s3 := s2.put m0 i hi fun z => by rw [List.contains_iff_mem.mpr z] at hk'; cases hk'
  refine hw G1 H1 _ a d gs hd hr G1 H1 _ _ s3.from_ _ (fun e G' H' σ' P' p s' x => ?_) (fun t e v G' H' σ' P' F p s' m => ?_) (fun e G' H' σ' P' p s' x => ?_) (fun e G' H' σ' P' p s' x => ?_)
  · refine p G' H' _ _ (s'.unset i hk') D (fun e2 G2 H2 σ2 P2 q2 s4 x2 => ?_) (fun t e2 v G2 H2 σ2 P2 F q2 s4 m => ?_) (fun e2 G2 H2 σ2 P2 q2 s4 x2 => ?_) (fun e2 G2 H2 σ2 P2 q2 s4 x2 => ?_)
    · exact n e2 G2 H2 _ _ q2 (s3.onto s4) (ex1.trans (x.trans x2))
    · exact r t e2 v G2 H2 _ _ F q2 (s3.onto s4) (m.onto s3 s4)
    · exact b e2 G2 H2 _ _ q2 (s3.onto s4) (ex1.trans (x.trans x2))
    · exact c e2 G2 H2 _ _ q2 (s3.onto s4) (ex1.trans (x.trans x2))
  · exact r t e v G' H' σ' P' F p (s3.onto s') (m.onto s3 s')
  · exact b _ G' H' _ _ p ((s3.onto s').unset i hk') (ex1.trans x)
  · exact c _ G' H' _ _ p ((s3.onto s').unset i hk') (ex1.trans x)
theorem wsx_tryR {i : Nat} {C : Addr} {tt : WX → TS} {u : TS} {ts ru : Addr → Value → Option Addr → TS} {K : List Nat} (hx : XOk A W xc) (eK : A.keep = K) (hk : K.contains i = false)
    (h : ∀ (G H : Hp) (U : As) (W' : WX), XOk (A.from_ G H U) W' (xAsR A C i ts ru nx rt bk ct xc) → WS (A.from_ G H U) (tt W') env (fun e => WS A u e nx rt bk ct) rt bk ct) : WS A (tTryR A.c.K C i tt ts ru u W) env nx rt bk ct := ws_tryR hx eK hk h
theorem wsx_tryR0 {i : Nat} {C : Addr} {tt : WX → TS} {u : TS} {ts ru : Addr → Value → Option Addr → TS} {K : List Nat} (eK : A.keep = K) (hk : K.contains i = false)
    (h : ∀ (G H : Hp) (U : As) (W' : WX), XOk (A.from_ G H U) W' (xAsR A C i ts ru nx rt bk ct fun _ _ _ => False) → WS (A.from_ G H U) (tt W') env (fun e => WS A u e nx rt bk ct) rt bk ct) : WS A (tTryR A.c.K C i tt ts ru u W0) env nx rt bk ct := ws_tryR xok0 eK hk h
theorem xAsR_yes {xs : List Nat} {fs : List (Nat × Str)} {ms ks : List (Nat × Nat × Bool)} {tl : List Nat} {j i k : Nat} {ts ru : Addr → Value → Option Addr → TS} {fs0 : List (Str × D)} (hE : CE A.c xs fs ms ks tl) (m : ms.contains (k, j, true) = true) (hi : Nat.ble (i + 1) env.length = true)
    (h : ∀ (G H : Hp) (U : As) (a dd : Addr) (gs : List (Str × V)), G dd = some (.xd gs) → RepX A.c G fs0 gs →
      WS (A.from_ G H U) (ts a (.ref (A.c.cls k)) (some dd)) (env.set i (some (.frz none (.oth (.ref a))))) (fun e => WS (A.from_ G H U) (ru a (.ref (A.c.cls k)) (some dd)) (e.set i none) nx rt bk ct) rt (fun e => bk (e.set i none)) (fun e => ct (e.set i none))) :
    xAsR A (A.c.cls j) i ts ru nx rt bk ct xc k fs0 env := ⟨true, hE.xm _ (List.contains_iff_mem.mp m), fun _ => ⟨Nat.le_of_ble_eq_true hi, h⟩, (fun z => nomatch z)⟩
end
/-! ### repr of an empty dict -/
def rReprE (K : PySem.W.Frag) : List V → Hp → VK → Prop := fun xs H Q => rRepr K xs H Q ∨ ∃ a, xs = [.ref a] ∧ Rd H a (.dK []) ∧ Q (.str "{}") H
theorem call_reprE {X : Cx} (hg : X.A.guards = some []) (hu : X.A.units + 200 < cLine) : CallR X (.builtin "repr") (rReprE X.K) := by
  intro pins s σ H xs us Q I r h
  rcases h with h | ⟨a, rfl, e, q⟩
  · exact call_repr hg hu pins s σ H xs us Q I r h
  · obtain ⟨u, rfl, ru⟩ := vals1 r
    obtain rfl : u = Value.ref a := ru
    obtain ⟨_, lo, vs, kv, hd⟩ := dk_rd I.hok e
    cases kv
    have rd : Reads s.heap (.ref a) (.dict []) [a] := by
      obtain ⟨o, es, ep, h1, ⟨hc, _⟩, h3, _, hp, _⟩ := hd
      have e0 : es.toList = [] := List.length_eq_zero_iff.mp hp.length
      have r := Reads.dict (kvs := []) (as := []) (bs := []) h1 hc h3 (by rw [e0]; exact .nil) (by rw [e0]; exact .nil)
      exact r
    refine PySem.repr_of_reads' rd rfl (fun _ z => ?_) hg (by show _ + (0 + 1 + 1) < _; omega) (fun _ _ e => e) (fun h' u tk hk => ?_) (by decide)
    · rw [List.mem_singleton] at z
      rw [← z] at lo
      simp at lo
    · exact ⟨.str "{}", H, I.kept hk, ⟨u, rfl⟩, q⟩
section
variable {A : Amb} {env : Env} {Post : T → Env → Prop}
/-- what repr shows of data, also of an empty dict -/
def D.okE (d : D) : Prop := d.ok ∨ d = .dik []
def D.shE (d : D) : Str := match d with
  | .dik [] => "{}"
  | d => d.py.shown
theorem wc_reprE {d : D} {o : Option V} (hd : d.okE) (q : Post (S d.shE) env) : WC A (rReprE A.c.K) [.t (.frz o d)] env Post := by
  rcases hd with hd | rfl
  · have e : d.shE = d.py.shown := by
      cases d with
      | dik l => exact absurd hd.1 (fun z => by cases z)
      | _ => rfl
    rw [e] at q
    exact wc_one (f := fun _ _ _ => True) (d' := .str d.py.shown) rfl (fun _ => rfl) (fun H x e Q q => .inl ⟨x, d.py, rfl, e.dp hd.1, hd.2.1, hd.2.2.1, hd.2.2.2.1, hd.2.2.2.2, q⟩) q
  · refine wc_one (f := fun _ _ _ => True) (d := .dik []) (d' := .str "{}") rfl (fun _ => rfl) (fun H x e Q q => .inr ?_) q
    obtain ⟨a, ks, rfl, h2, h3⟩ := e
    cases (show ks = [] from h3)
    exact ⟨a, rfl, h2, q⟩
/-- a reference is not None -/
theorem wr_notNx {p : Addr} {o o2 : Option V} (q : Post (B true) env) : WR A rNotN' (.t (.frz o (.oth (.ref p)))) (.t (.frz o2 .non)) env Post :=
  wr_flat (d1 := .oth (.ref p)) (d2 := .non) (d := .bl true) rfl rfl (fun _ => rfl) (fun H x y e1 e2 Q q => by
    cases e2
    have e1 : x = .ref p := e1
    subst e1
    exact ⟨rfl, q⟩) q
end
end TL
/-! TB: rows of fixed things told by a function: slices with a step, rows changed in their places; `C.m(self, ..)`. -/
namespace TL
open PySem PySem.Spec PyProof.Rows L2
abbrev rD (n : Nat) (f : Nat → D) : D := .lst ((List.range n).map f)
abbrev rT (n : Nat) (f : Nat → D) : T := .lst ((List.range n).map fun i => F (f i))
abbrev dT (h w : Nat) (f : Nat → Nat → D) : T := .lst ((List.range h).map fun y => rT w (f y))
abbrev dD (h w : Nat) (f : Nat → Nat → D) : D := .lst ((List.range h).map fun y => rD w (f y))
theorem rT_eq {n : Nat} {f : Nat → D} : T.lst (((List.range n).map f).map F) = rT n f := by rw [List.map_map]; rfl
theorem rT_data {n : Nat} {f : Nat → D} : (rT n f).data = rD n f := by
  show D.lst (T.datas _) = D.lst _
  rw [datas_rg]; rfl
theorem dT_data {h w : Nat} {f : Nat → Nat → D} : (dT h w f).data = dD h w f := by
  show D.lst (T.datas _) = D.lst _
  rw [datas_rg]
  congr 1
  exact List.map_congr_left fun y _ => rT_data
theorem rg_cg {α : Type} {n : Nat} {f g : Nat → α} (h : ∀ i, i < n → f i = g i) : (List.range n).map f = (List.range n).map g := List.map_congr_left fun i hi => h i (List.mem_range.mp hi)
theorem rg_app {α : Type} {m n : Nat} {f g : Nat → α} : (List.range m).map f ++ (List.range n).map g = (List.range (m + n)).map fun i => if i < m then f i else g (i - m) := by
  refine List.ext_getElem? fun i => ?_
  by_cases h1 : i < m
  · rw [List.getElem?_append_left (by simpa using h1), List.getElem?_map, List.getElem?_map, List.getElem?_range h1, List.getElem?_range (by omega), Option.map_some, Option.map_some, if_pos h1]
  · rw [List.getElem?_append_right (by simpa using h1), List.length_map, List.length_range, List.getElem?_map, List.getElem?_map]
    by_cases h2 : i < m + n
    · rw [List.getElem?_range (by omega), List.getElem?_range h2, Option.map_some, Option.map_some, if_neg h1]
    · rw [List.getElem?_eq_none (by rw [List.length_range]; omega), List.getElem?_eq_none (by rw [List.length_range]; omega)]; rfl
theorem rg_drop {α : Type} {m k : Nat} {f : Nat → α} : ((List.range m).map f).drop k = (List.range (m - k)).map fun i => f (k + i) := by
  refine List.ext_getElem? fun i => ?_
  rw [List.getElem?_drop, List.getElem?_map, List.getElem?_map]
  by_cases h1 : k + i < m
  · rw [List.getElem?_range h1, List.getElem?_range (by omega)]; rfl
  · rw [List.getElem?_eq_none (by rw [List.length_range]; omega), List.getElem?_eq_none (by rw [List.length_range]; omega)]; rfl
theorem rg_rep {α : Type} {n : Nat} {x : α} : List.replicate n x = (List.range n).map fun _ => x := by
  refine List.ext_getElem? fun i => ?_
  rw [List.getElem?_map]
  by_cases h1 : i < n
  · rw [List.getElem?_replicate_of_lt h1, List.getElem?_range h1]; rfl
  · rw [List.getElem?_eq_none (by simpa using h1), List.getElem?_eq_none (by simpa using h1)]; rfl
theorem cut_fromR {α : Type} {m k : Nat} {f : Nat → α} (h : k ≤ m) : cutL ((List.range m).map f) (some (k : Int)) none = (List.range (m - k)).map fun i => f (k + i) := by
  unfold cutL
  rw [HT.sIx_none, HT.sIx_nat, List.length_map, List.length_range, Nat.min_eq_left h, rg_drop, ← List.map_take, List.take_range, Nat.min_self]
theorem pick_idx {α : Type} {xs : List α} (d : α) {lo hi st : Option Int} {m : Nat} {φ : Nat → Nat} (e0 : sliceRange (sliceBounds lo hi st xs.length).1 (sliceBounds lo hi st xs.length).2.1 (sliceBounds lo hi st xs.length).2.2 = (List.range m).map φ)
    (hb : ∀ k, k < m → φ k < xs.length) : pick3 xs lo hi st = (List.range m).map fun k => xs.getD (φ k) d := by
  unfold pick3
  rw [e0, filterMap_idx d m hb]
section
variable {A : Amb} {env : Env} {te : TE} {Post : T → Env → Prop}
theorem we_sl3G {tl th ts : TO} {lo hi st : Option Int} {c : Nat → Nat} {φ : Nat → Nat} (hl : ∀ σ H (Q : Option Int → Hp → Prop), Q lo H → tl σ H Q) (hh : ∀ σ H (Q : Option Int → Hp → Prop), Q hi H → th σ H Q) (hs : ∀ σ H (Q : Option Int → Hp → Prop), Q st H → ts σ H Q) (h0 : st ≠ some 0)
    (he : ∀ n : Nat, sliceRange (sliceBounds lo hi st n).1 (sliceBounds lo hi st n).2.1 (sliceBounds lo hi st n).2.2 = (List.range (c n)).map φ) (hb : ∀ n k, k < c n → φ k < n) (hc : ∀ n, c n ≤ n)
    (h : WE A te env fun t e => ∃ o m f, t = .frz o (rD m f) ∧ Post (rT (c m) fun k => f (φ k)) e) : WE A (tSl3 A.c.K te tl th ts) env Post := fun G H σ P s Q k => by
  refine h G H σ P s _ fun t e v G1 H1 P1 F1 p1 r1 => hl _ _ _ (hh _ _ _ (hs _ _ _ ?_))
  obtain ⟨o, m, f, rfl, p1⟩ := p1
  obtain ⟨p, ws, rfl, hpp, rp⟩ := r1.tm.tr.1
  have hlen := reps_len rp
  rw [List.length_map, List.length_range] at hlen
  have pk := pick_idx (xs := ws) (V.int 0) (he ws.length) (hb ws.length)
  refine ⟨p, _, rfl, SqL.of (r1.sr.le _ _ hpp), h0, by rw [pk, List.length_map, List.length_range]; exact hc _, fun l hl' => ?_⟩
  rw [pk]
  have rp2 : Reps A.c G1 ((List.range (c m)).map fun k => f (φ k)) ((List.range (c ws.length)).map fun k => ws.getD (φ k) (.int 0)) := reps_of (by simp; rw [hlen]) fun k d v h1 h2 => by
    have hk : k < c m := by
      rcases Nat.lt_or_ge k (c m) with q | q
      · exact q
      · rw [List.getElem?_eq_none (by simpa using q)] at h1; cases h1
    rw [List.getElem?_map, List.getElem?_range hk] at h1
    rw [List.getElem?_map, List.getElem?_range (by rw [hlen]; exact hk)] at h2
    cases h1
    cases h2
    obtain ⟨w, hw, rw_⟩ := reps_at rp (j := φ k) (d := f (φ k)) (by rw [List.getElem?_map, List.getElem?_range (hb m k hk)]; rfl)
    show Rep A.c G1 (f (φ k)) (ws.getD (φ k) (.int 0))
    rw [List.getD_eq_getElem?_getD, hw]
    exact rw_
  have r := alloc_frzs r1.sr rp2 (U0 := uP P1) (fun _ z => z) hl'
  rw [rT_eq] at r
  exact k _ _ _ _ _ _ _ p1 ⟨r.sr, r1.drop.trans r.st, r.tm⟩
theorem we_evenR (h : WE A te env fun t e => ∃ o m f, t = .frz o (rD m f) ∧ Post (rT ((m + 1) / 2) fun k => f (2 * k)) e) : WE A (tSl3 A.c.K te tNoPart tNoPart (tPart (tC (.int 2)))) env Post := by
  refine we_sl3G (lo := none) (hi := none) (st := some 2) (c := fun m => (m + 1) / 2) (φ := fun k => 2 * k) (fun _ _ _ q => q) (fun _ _ _ q => q) part_c (by decide) (fun n => ?_) (fun n k hk => by omega) (fun n => by omega) h
  unfold sliceRange sliceBounds
  simp only [Option.getD_some, show ((2 : Int) > 0) by decide, if_true]
  have e : (if (0 : Int) < (n : Int) then ((n : Int) - 0 + 2 - 1) / 2 else 0).toNat = (n + 1) / 2 := by
    split <;> omega
  rw [e]
  refine List.map_congr_left fun k hk => ?_
  omega
theorem we_oddR (h : WE A te env fun t e => ∃ o m f, t = .frz o (rD m f) ∧ Post (rT (m / 2) fun k => f (2 * k + 1)) e) : WE A (tSl3 A.c.K te (tPart (tC (.int 1))) tNoPart (tPart (tC (.int 2)))) env Post := by
  refine we_sl3G (lo := some 1) (hi := none) (st := some 2) (c := fun m => m / 2) (φ := fun k => 2 * k + 1) part_c (fun _ _ _ q => q) part_c (by decide) (fun n => ?_) (fun n k hk => by omega) (fun n => by omega) h
  unfold sliceRange sliceBounds
  simp only [Option.getD_some, show ((2 : Int) > 0) by decide, if_true, show ¬ ((1 : Int) < 0) by decide, if_false]
  have e : (if max 0 (min (1 : Int) (n : Int)) < (n : Int) then ((n : Int) - max 0 (min 1 (n : Int)) + 2 - 1) / 2 else 0).toNat = n / 2 := by
    split <;> omega
  rw [e]
  refine List.map_congr_left fun k hk => ?_
  have := List.mem_range.mp hk
  omega
/-- a list of fixed things and another one -/
theorem wr_catR {t1 t2 : T} {m n : Nat} {f g : Nat → D} (e1 : t1.data = rD m f) (e2 : t2.data = rD n g) (hl : m + n ≤ 1000000) (q : Post (rT (m + n) fun i => if i < m then f i else g (i - m)) env) : WR A (rAddA A.c.K) (.t t1) (.t t2) env Post :=
  wr_catD e1 e2 (by simpa using hl) (by rw [rg_app, rT_eq]; exact q)
theorem wr_repD {o : Option V} {t : T} {i : Int} (h0 : 0 ≤ i) (h1 : i ≤ 100000) (q : Post (rT i.toNat fun _ => t.data) env) : WR A rRep (.t (.lst [t])) (.t (.frz o (.int i))) env Post :=
  wr_rep1 h0 h1 (by rw [rg_rep]; exact q)
end
section
variable {A : Amb} {G H : Hp} {σ : L2.St} {env : Env} {P : Nat → As}
theorem reps_set {c : Cn} {G : Hp} : ∀ {ds : List D} {ws : List V} {d : D} {v : V} (x : Nat), Reps c G ds ws → Rep c G d v → Reps c G (ds.set x d) (ws.set x v)
  | [], _, _, _, x, h, _ => by cases h; rfl
  | d0 :: ds, _, d, v, 0, ⟨v0, r, e, h1, h2⟩, hd => by subst e; exact ⟨v, r, rfl, hd, h2⟩
  | d0 :: ds, _, d, v, x + 1, ⟨v0, r, e, h1, h2⟩, hd => by subst e; exact ⟨v0, _, rfl, h1, reps_set x h2 hd⟩
/-- the j-th list of fixed things of what a name holds -/
theorem slot_rowD (s : SR A G H σ env P) {n j : Nat} {ts : List T} {ds : List D} (he : env[n]? = some (some (.lst ts))) (hj : ts[j]? = some (.lst (ds.map F))) :
    ∃ p vs q ws, σ[n]? = some (some (.ref p)) ∧ H p = some (.lst vs) ∧ vs[j]? = some (.ref q) ∧ H q = some (.lst ws) ∧ Reps A.c G ds ws ∧ P n q ∧
      ∀ (es : List D) us, Reps A.c G es us → SR A G (upd H q (.lst us)) σ (env.set n (some (.lst (ts.set j (.lst (es.map F)))))) P ∧ Stp G H (uP P) G (upd H q (.lst us)) (uP P) := by
  obtain ⟨v, hv, p, vs, F2, rfl, a1, a2, a3, a4, a5⟩ := s.slot n _ he
  have own : ∀ a, P n a → G a = none := fun a z => (s.own n a z).1
  obtain ⟨w, Ft, b1, b2, ⟨q, ws, F3, rfl, c1, c2, c3, c4, c5⟩, mk⟩ := trs_hole a5 hj fun a z => own a (a4 a z).1
  have rw_ := trs_F c5
  have qp : q ≠ p := (a4 q (b2 q c1)).2
  have hq : P n q := (a4 q (b2 q c1)).1
  refine ⟨p, vs, q, ws, hv, a3, b1, c3, rw_, hq, fun es us re => ?_⟩
  have keep : ∀ a o, a ≠ q → H a = some o → upd H q (.lst us) a = some o := fun a o ne e => by rw [upd_ne ne]; exact e
  have t2 := mk (upd H q (.lst us)) (.lst (es.map F)) (fun a o ne e => keep a o (fun z => ne (z ▸ c1)) e) ⟨q, _, noF, rfl, c1, c2, upd_same, fun _ z => z.elim, trs_frz re⟩
  obtain ⟨s2, st2⟩ := s.modify (X := noF) (H' := upd H q (.lst us)) (t1 := .lst (ts.set j (.lst (es.map F)))) he hv (fun _ z => z.elim) (fun _ z => z.elim)
    ⟨p, vs, F2, rfl, .inl a1, a2, keep p _ (Ne.symm qp) a3, fun a z => ⟨.inl (a4 a z).1, (a4 a z).2⟩, t2⟩ (fun a o ne e => keep a o (fun z => ne (z ▸ hq)) e) fun a z => by
      by_cases q' : a = q
      · subst q'; rw [upd_same]; exact Option.some_ne_none _
      · rw [upd_ne q']; exact (s.own n a z).2
  have eP : (fun j a => P j a ∨ (j = n ∧ noF a)) = P := funext fun j => funext fun a => propext ⟨fun z => z.elim id fun z => z.2.elim, .inl⟩
  rw [eP] at s2 st2
  exact ⟨s2, st2.wk (fun a z => by rcases z with z | z; exact z; exact z.elim) fun a z => .inl z⟩
/-- rows[y][x] = a fixed thing -/
theorem wg_sub2D {W : Nat → Prop} {n ny nx y x : Nat} {d : D} {ov : Option V} {ts : List T} {ds : List D} {oy ox : Option V} {Post : Env → Prop} (he : env[n]? = some (some (.lst ts))) (hy : env[ny]? = some (some (.frz oy (.int (y : Int))))) (hx : env[nx]? = some (some (.frz ox (.int (x : Int))))) (hj : ts[y]? = some (.lst (ds.map F))) (hl : x < ds.length)
    (q : Post (env.set n (some (.lst (ts.set y (.lst ((ds.set x d).map F))))))) : WG A W (gSub (tOp (rIxA A.c.K) (tVar n) (tVar ny)) (tVar nx) rSetL) (.frz ov d) env Post := fun G H σ P v0 X s m Q k => by
  have hv0 : Rep A.c G d v0 := m.tr.1
  obtain ⟨p, vs, r, ws, hσ, hp, hv, hr, rp, hP, mk⟩ := slot_rowD s he hj
  obtain ⟨vy, hvy, ty, _⟩ := s.slot ny _ hy
  have ey : vy = .int (y : Int) := ty
  subst ey
  obtain ⟨vx, hvx, tx, _⟩ := s.slot nx _ hx
  have ex : vx = .int (x : Int) := tx
  subst ex
  obtain ⟨s2, st2⟩ := mk (ds.set x d) (ws.set x v0) (reps_set x rp hv0)
  have hlen := reps_len rp
  refine ⟨_, hσ, _, hvy, .inl (.inl ⟨p, vs, _, _, rfl, rfl, SqL.of hp, atI_nat' hv, _, hvx, r, _, (x : Int), x, rfl, rfl, hr, ixN_ok (by omega) (by omega), ?_⟩)⟩
  exact k _ _ _ σ _ q s2 (st2.wk (V := fun a => uP P a ∨ X a) (fun a z => .inl z) fun a z => .inl z) rfl fun _ _ => rfl
/-- rows[y][:m] = a list of fixed things made on the way, m a name -/
theorem wg_uptoD {W : Nat → Prop} {n ny m y c : Nat} {es ds : List D} {ts : List T} {oy om : Option V} {Post : Env → Prop} (he : env[n]? = some (some (.lst ts))) (hy : env[ny]? = some (some (.frz oy (.int (y : Int))))) (hm : env[m]? = some (some (.frz om (.int (c : Int)))))
    (hj : ts[y]? = some (.lst (ds.map F))) (hc : c ≤ ds.length) (hz : ds.length + es.length ≤ 1000000) (q : Post (env.set n (some (.lst (ts.set y (.lst ((es ++ ds.drop c).map F))))))) :
    WG A W (gUpto (tOp (rIxA A.c.K) (tVar n) (tVar ny)) (tPart (tVar m))) (.lst (es.map F)) env Post := fun G H σ P v0 X s mm Q k => by
  obtain ⟨b, zs, F1, rfl, x1, x2, x3, x4, x5⟩ := mm.tr
  have re := trs_F x5
  obtain ⟨p, vs, r, ws, hσ, hp, hv, hr, rp, hP, mk⟩ := slot_rowD s he hj
  obtain ⟨vy, hvy, ty, _⟩ := s.slot ny _ hy
  have ey : vy = .int (y : Int) := ty
  subst ey
  obtain ⟨vm, hvm, tm, _⟩ := s.slot m _ hm
  have em' : vm = .int (c : Int) := tm
  subst em'
  have rb : r ≠ b := fun z => (mm.fd b x1).1 ⟨n, z ▸ hP⟩
  obtain ⟨s2, st2⟩ := mk (es ++ ds.drop c) (zs ++ ws.drop c) (reps_app re (reps_drop _ rp))
  have l1 := reps_len rp
  have l2 := reps_len re
  refine ⟨_, hσ, _, hvy, .inl (.inl ⟨p, vs, _, _, rfl, rfl, SqL.of hp, atI_nat' hv, _, hvm, _, rfl, r, b, _, _, c, rfl, rfl, rfl, rb, hr, x3, by omega, by rw [sizeLine_eq]; omega, ?_⟩)⟩
  exact k _ _ _ σ _ q s2 (st2.wk (V := fun a => uP P a ∨ X a) (fun a z => .inl z) fun a z => .inl z) rfl fun _ _ => rfl
end
/-! ### lists of fixed things, wherever they stand -/
inductive LsF (env : Env) (ds : List D) : Ar → Prop
  | tf {o : Option V} : LsF env ds (.t (.frz o (.lst ds)))
  | to : LsF env ds (.t (.lst (ds.map F)))
  | sf {n : Nat} {o : Option V} (h : env[n]? = some (some (.frz o (.lst ds)))) : LsF env ds (.s n)
  | so {n : Nat} (h : env[n]? = some (some (.lst (ds.map F)))) : LsF env ds (.s n)
section
variable {A : Amb} {G H : Hp} {σ : L2.St} {env : Env} {P : Nat → As} {X : As} {v : V} {a b : Ar} {Post : T → Env → Prop}
theorem LsF.at_ (s : SR A G H σ env P) (m : TmpA A G H σ P [a] X [v]) {ds : List D} (h : LsF env ds a) : ∃ p ws, v = .ref p ∧ H p = some (.lst ws) ∧ Reps A.c G ds ws := by
  cases h with
  | tf =>
    obtain ⟨F1, _, m1⟩ := m.one
    obtain ⟨⟨p, ws, e1, e2, e3⟩, _⟩ := m1.tr
    exact ⟨p, ws, e1, s.le _ _ e2, e3⟩
  | to =>
    obtain ⟨F1, _, m1⟩ := m.one
    obtain ⟨p, ws, F2, e1, _, _, e4, _, e6⟩ := m1.tr
    exact ⟨p, ws, e1, e4, trs_F e6⟩
  | @sf n o h =>
    obtain ⟨w, r', e, hw, _⟩ := m.tr
    cases e
    obtain ⟨w2, hw2, ⟨p, ws, e1, e2, e3⟩, _⟩ := s.slot n _ h
    rw [hw] at hw2
    cases hw2
    exact ⟨p, ws, e1, s.le _ _ e2, e3⟩
  | @so n h =>
    obtain ⟨w, r', e, hw, _⟩ := m.tr
    cases e
    obtain ⟨w2, hw2, p, ws, F2, e1, _, _, e4, _, e6⟩ := s.slot n _ h
    rw [hw] at hw2
    cases hw2
    exact ⟨p, ws, e1, e4, trs_F e6⟩
theorem wr_catA {xs ys : List D} (h1 : LsF env xs a) (h2 : LsF env ys b) (hl : xs.length + ys.length ≤ 1000000) (q : Post (.lst ((xs ++ ys).map F)) env) : WR A (rAddA A.c.K) a b env Post := fun G H σ P x y X s m Q k => by
  obtain ⟨F1, F2, _, _, m1, m2⟩ := m.split2
  obtain ⟨p, ws, rfl, e2, e3⟩ := h1.at_ s m1
  obtain ⟨p', ws', rfl, e2', e3'⟩ := h2.at_ s m2
  refine .inl (.inl (.inr ⟨p, p', _, _, rfl, rfl, e2, e2', by rw [reps_len e3, reps_len e3', sizeLine_eq]; omega, fun l hl => ?_⟩))
  exact k _ _ _ _ _ _ _ q (alloc_frzs s (reps_app e3 e3') (U0 := fun a => uP P a ∨ X a) (fun _ z => .inl z) hl)
theorem LsF.rto {n : Nat} {f : Nat → D} : LsF env ((List.range n).map f) (.t (rT n f)) := by rw [← rT_eq]; exact .to
theorem LsF.rso {i n : Nat} {f : Nat → D} (h : env[i]? = some (some (rT n f))) : LsF env ((List.range n).map f) (.s i) := by rw [← rT_eq] at h; exact .so h
/-- of lists told by a function -/
theorem wr_catRR {m n : Nat} {f g : Nat → D} (h1 : LsF env ((List.range m).map f) a) (h2 : LsF env ((List.range n).map g) b) (hl : m + n ≤ 1000000) (q : Post (rT (m + n) fun i => if i < m then f i else g (i - m)) env) : WR A (rAddA A.c.K) a b env Post :=
  wr_catA h1 h2 (by simpa using hl) (by rw [rg_app, rT_eq]; exact q)
/-- (x, e): the name x handed over behind what e is -/
theorem wa_slot2 {n : Nat} {te : TE} {Post : List Ar → Env → Prop} (h0 : ∃ t, env[n]? = some (some t)) (h : WE A te env fun t e => ∃ tn, e[n]? = some (some tn) ∧ Post [.t tn, .t t] (e.set n none)) : WA A (tCons (tVar n) (tCons te tNil)) env Post := fun G H σ P s Q k => by
  obtain ⟨t0, h0⟩ := h0
  obtain ⟨v, hv, _⟩ := s.slot n _ h0
  refine ⟨v, hv, h G H σ P s _ fun t e w G1 H1 P1 F1 p1 r1 => ?_⟩
  obtain ⟨tn, hn, p1⟩ := p1
  obtain ⟨v2, hv2, tr⟩ := r1.sr.slot n _ hn
  rw [hv] at hv2
  cases hv2
  have s2 : SR A G1 H1 σ (e.set n none) (fun j a => P1 j a ∧ j ≠ n) := ⟨r1.sr.toSL.moved n, r1.sr.base.wk (fun _ h => h) fun a ⟨j, h, _⟩ => .inl ⟨j, h⟩, r1.sr.kp⟩
  have m0 : TmpA A G1 H1 σ (fun j a => P1 j a ∧ j ≠ n) [.t tn] (P1 n) [v] := (⟨tr, fun a z => ⟨fun ⟨j, h1, h2⟩ => h2 (r1.sr.dis _ _ _ h1 z), r1.sr.own n a z⟩, fun a z => r1.sr.base.n a ⟨n, z⟩⟩ : Tmp A G1 H1 (fun j a => P1 j a ∧ j ≠ n) tn (P1 n) v).one
  have m1 : TmpA A G1 H1 σ (fun j a => P1 j a ∧ j ≠ n) [.t t] F1 [w] := (⟨r1.tm.tr, fun a z => ⟨fun ⟨j, h1, _⟩ => (r1.tm.fd a z).1 ⟨j, h1⟩, (r1.tm.fd a z).2⟩, r1.tm.bs⟩ : Tmp A G1 H1 (fun j a => P1 j a ∧ j ≠ n) t F1 w).one
  have m2 := m0.app m1 fun a z y => (r1.tm.fd a z).1 ⟨n, y⟩
  exact k _ _ _ _ _ _ _ p1 ⟨s2, r1.st.wk (fun _ h => h) (fun a z => by
    rcases z with ⟨j, z, _⟩ | z | z
    · exact .inl (.inl ⟨j, z⟩)
    · exact .inl (.inl ⟨n, z⟩)
    · exact .inl (.inr z)), m2⟩
end
def upD (f : Nat → Nat → D) (y x : Nat) (d : D) : Nat → Nat → D := fun y' x' => if y' = y ∧ x' = x then d else f y' x'
theorem dT_at {h w y : Nat} {f : Nat → Nat → D} (hy : y < h) : ((List.range h).map fun y => rT w (f y))[y]? = some (.lst (((List.range w).map (f y)).map F)) := by
  rw [List.getElem?_map, List.getElem?_range hy, rT_eq]; rfl
theorem dT_set {h w y : Nat} {f g : Nat → Nat → D} {t : T} (hy : y < h) (h1 : t = rT w (g y)) (h2 : ∀ y', y' ≠ y → y' < h → ∀ x, x < w → g y' x = f y' x) :
    ((List.range h).map fun y => rT w (f y)).set y t = (List.range h).map fun y => rT w (g y) := by
  refine List.ext_getElem? fun i => ?_
  rw [List.getElem?_map]
  by_cases hi : i < h
  · rw [List.getElem?_range hi, Option.map_some]
    by_cases e : i = y
    · subst e
      rw [List.getElem?_set_self (by rw [List.length_map, List.length_range]; exact hi), h1]
    · rw [List.getElem?_set_ne (Ne.symm e), List.getElem?_map, List.getElem?_range hi, Option.map_some]
      show some (rT w (f i)) = some (rT w (g i))
      have e2 : ((List.range w).map fun x => F (f i x)) = (List.range w).map fun x => F (g i x) := rg_cg fun x hx => by rw [h2 i e hi x hx]
      show some (T.lst _) = some (T.lst _)
      rw [e2]
  · rw [List.getElem?_eq_none (by rw [List.length_set, List.length_map, List.length_range]; omega), List.getElem?_eq_none (by rw [List.length_range]; omega)]
    rfl
section
variable {A : Amb} {env : Env}
theorem wg_sub2F {W : Nat → Prop} {n ny nx y x h w : Nat} {d : D} {ov : Option V} {f : Nat → Nat → D} {oy ox : Option V} {Post : Env → Prop} (he : env[n]? = some (some (dT h w f))) (hy : env[ny]? = some (some (.frz oy (.int (y : Int))))) (hx : env[nx]? = some (some (.frz ox (.int (x : Int))))) (h1 : y < h) (h2 : x < w)
    (q : Post (env.set n (some (dT h w (upD f y x d))))) : WG A W (gSub (tOp (rIxA A.c.K) (tVar n) (tVar ny)) (tVar nx) rSetL) (.frz ov d) env Post := by
  refine wg_sub2D he hy hx (dT_at h1) (by simpa using h2) ?_
  rw [dT_set (g := upD f y x d) h1 ?_ fun y' ne _ x' _ => by unfold upD; rw [if_neg fun z => ne z.1]]
  · exact q
  · rw [← rT_eq]
    congr 2
    refine List.ext_getElem? fun i => ?_
    by_cases e : i = x
    · subst e
      rw [List.getElem?_set_self (by simpa using h2), List.getElem?_map, List.getElem?_range h2]
      unfold upD
      simp
    · rw [List.getElem?_set_ne (Ne.symm e), List.getElem?_map, List.getElem?_map]
      by_cases hi : i < w
      · rw [List.getElem?_range hi]
        unfold upD
        simp [e]
      · rw [List.getElem?_eq_none (by rw [List.length_range]; omega)]; rfl
theorem wg_uptoF {W : Nat → Prop} {n ny m y c h w : Nat} {g : Nat → D} {f : Nat → Nat → D} {oy om : Option V} {Post : Env → Prop} (he : env[n]? = some (some (dT h w f))) (hy : env[ny]? = some (some (.frz oy (.int (y : Int))))) (hm : env[m]? = some (some (.frz om (.int (c : Int)))))
    (h1 : y < h) (hc : c ≤ w) (hz : w ≤ 100000) (q : Post (env.set n (some (dT h w fun y' x' => if y' = y ∧ x' < c then g x' else f y' x')))) :
    WG A W (gUpto (tOp (rIxA A.c.K) (tVar n) (tVar ny)) (tPart (tVar m))) (rT c g) env Post := by
  rw [← rT_eq]
  refine wg_uptoD he hy hm (dT_at h1) (by simpa using hc) (by simp; omega) ?_
  rw [dT_set (g := fun y' x' => if y' = y ∧ x' < c then g x' else f y' x') h1 ?_ fun y' ne _ x' _ => if_neg fun z => ne z.1]
  · exact q
  · rw [rg_drop, rg_app, rT_eq, show c + (w - c) = w by omega]
    show T.lst _ = T.lst _
    congr 1
    refine rg_cg fun i hi => ?_
    show F (if i < c then g i else f y (c + (i - c))) = F (if y = y ∧ i < c then g i else f y i)
    by_cases e : i < c
    · rw [if_pos e, if_pos ⟨rfl, e⟩]
    · rw [if_neg e, if_neg fun z => e z.2, show c + (i - c) = i by omega]
end
/-! ### C.m(self, ..) -/
structure ClsM (K : PySem.W.Frag) (C : Addr) (m : Str) : Prop where
  r : ClX.CRead K C (.type "type")
  at_ : ∀ f, PySem.W.findIn K (.ref C) m = some (some (.ref f)) → PySem.W.findCls K (.ref C) (.type "type") m = some (.val (.ref f))
theorem clsmB_ok {K : PySem.W.Frag} {x m : Str} (h : clsmB x m K = true) : ClsM K (He.ga K x) m := by
  obtain ⟨h1, h⟩ := He.ba h
  obtain ⟨h2, h⟩ := He.ba h
  refine ⟨⟨h1, of_decide_eq_true h2⟩, fun f e => ?_⟩
  rw [e] at h
  dsimp only at h
  split at h
  · rename_i b e2
    rw [e2, of_decide_eq_true h]
  · cases h
section
variable {X : Cx} {k : Nat} {m : Str} {C : Addr} {ps : List Str} {sp : Sp} {pos apos : Pos} {e o : Expr} {es : List Expr} {t : TA}
theorem pe_clsM {pl : Sem Bool} (ho : PE X o (tC (.ref C))) (h : Fm X.prog X.w X.K X.mg X.base k C m ps sp) (cm : ClsM X.K C m) (hr : Room k X.A) (ha : PA X (e :: es) t)
    (hs : starEach (e :: es) X.env = (false, eval e X.env) :: starEach es X.env := by rfl) (hp : (backTo pos (starEach es X.env)).any (·.1) = false := by rfl)
    (ht : eval (.Call (.Attribute o m apos) (e :: es) [] pos) X.env = (eval o X.env >>= fun ov => standAt apos.atName >>= fun _ => holding [ov] (getMethod ov m pl) >>= fun r =>
      callWith pos r.1 r.2 (backTo pos (starEach (e :: es) X.env)) (backToKw pos (keywordEach [] X.env))) := by rfl) : PE X (.Call (.Attribute o m apos) (e :: es) [] pos) (tCall sp [] E0 t) := by
  obtain ⟨f, fd, hC, hm, hb, F⟩ := h.ex
  refine ⟨fun pins s σ H Q I hh => ?_⟩
  refine PySem.W.methodCall_KW (pl := pl) (thn (ho.run pins s σ H (fun x H1 => x = .ref C ∧ t σ H1 fun vs H2 => sp (vs ++ []) H2 Q E0) I ⟨rfl, hh⟩) fun u s1 ⟨y, H1, I1, ry, ey, q⟩ => ?_) ht
  subst ey
  obtain rfl : u = Value.ref C := ry
  refine PySem.W.method_cls I1.kIn cm.r.ga (ClX.getcval_ok (v := V.ref f) (u := Value.ref f) I1 cm.r ⟨cm.at_ f hm.at_, rfl⟩ fun s2 I2 => ?_)
  refine PySem.W.callWith_K (h₀ := X.base) I2.ok.mod.kin hm.kp (thn (ha.run pos pins s2 σ H1 _ I2 q) fun us s3 ⟨vs, H2, I3, r, q2⟩ => ⟨I3.kIn, ?_⟩) hs hp
  exact run_fn F hr hb .nil pass0 I3 r q2
end
end TL
/-! TZL: list(zip(xs, ys, zs)): the tuples of a zip held, a list of them, the expression, the trees. -/
namespace TL
open PySem PySem.Spec PyProof.Rows L2
open PySem.W (kdx_alive)
section
variable {prog : Program} {w : World} {A : Around} {E : Value → Shared → Prop} {s : Shared} {z TI TO T i1 i2 i3 : Addr} {fp1 fp2 fp3 : List Addr} {n1 n2 n3 i : Nat} {P1 P2 P3 : Nat → Value → Prop} {St1 St2 St3 : Nat → Heap → Prop} {f : Bool} {oT : Obj}
/-- the next tuple of a zip whose tuple before is still there -/
theorem zl_next_held {Q : Value → Shared → Prop} (S : ZipSep3 z TI TO i1 i2 i3 fp1 fp2 fp3) (D1 : Draws prog w A i1 fp1 n1 P1 St1) (D2 : Draws prog w A i2 fp2 n2 P2 St2) (D3 : Draws prog w A i3 fp3 n3 P3 St3)
    (hz : IsZipHeld s.heap z TI TO T f) (hT : s.heap.get? T = some oT) (hTI : IsTupOf3 s.heap TI (.ref i1) (.ref i2) (.ref i3)) (st1 : St1 i s.heap) (st2 : St2 i s.heap) (st3 : St3 i s.heap) (hlt1 : i < n1) (hlt2 : i < n2) (hlt3 : i < n3)
    (hQ : ∀ x1 x2 x3 h' tk, P1 i x1 → P2 i x2 → P3 i x3 → IsZipHeld h' z TI TO T true → St1 (i + 1) h' → St2 (i + 1) h' → St3 (i + 1) h' → IsTupOf3 h' s.heap.objs.size x1 x2 x3 → h'.objs.size = s.heap.objs.size + 1 →
      (∀ c o, c ≠ z → c ≠ i1 → c ≠ i2 → c ≠ i3 → s.heap.get? c = some o → h'.get? c = some o) → Q (.ref s.heap.objs.size) { s with heap := h', toks := tk }) :
    wpAny (model prog w) A (Builtin.«zip.__next__» ⟨[.ref z], []⟩) (fun fin s' => ∃ v, fin = .done (.ret v) ∧ Q v s') E s := by
  obtain ⟨hp, g, d, tk0, os⟩ := s
  show wpAny _ _ (field (.ref z) 2 >>= _) _ _ _
  refine wpAny_bind (wpAny_field hz rfl (x := .bool false) rfl ?_)
  show wpAny _ _ (field (.ref z) 3 >>= _) _ _ _
  refine wpAny_bind (wpAny_field hz rfl (x := .ref TI) rfl ?_)
  refine wpAny_bind (wpAny_seqItems hTI rfl ?_)
  show wpAny _ _ (Builtin.SmallTypes.ownedTupleIsFree (.ref z) >>= _) _ _ _
  refine wpAny_bind (wpAny_tupleHeld_zip hz hT fun g0 hz0 hs0 => ?_)
  replace hs0 : Heap.SameBut z hp g0 := hs0
  simp only [Bool.false_eq_true, if_false]
  refine wpAny_bind ?_
  rw [← Array.forIn_toList]
  simp only [List.forIn_cons, List.forIn_nil]
  refine wpAny_bind (wpAny_bind (wpAny_holding ?_))
  show wpAny _ _ (Builtin.SmallTypes.nextOf (.ref i1) >>= _) _ _ ⟨g0, g, d, tk0, os⟩
  refine wpAny_bind (D1.item i _ _ _ hlt1 (D1.over st1 hs0 S.zf1) fun x1 p1 tk1 hx1 sn1 hp1 => wpAny_pure ?_)
  replace hp1 : Heap.SameBut i1 g0 p1 := hp1
  refine wpAny_pure ?_
  refine wpAny_bind (wpAny_bind (wpAny_holding ?_))
  show wpAny _ _ (Builtin.SmallTypes.nextOf (.ref i2) >>= _) _ _ ⟨p1, g, d, tk1, os⟩
  refine wpAny_bind (D2.item i _ _ _ hlt2 (D2.over (D2.over st2 hs0 S.zf2) hp1 S.sep1_2) fun x2 p2 tk2 hx2 sn2 hp2 => wpAny_pure ?_)
  replace hp2 : Heap.SameBut i2 p1 p2 := hp2
  refine wpAny_pure ?_
  refine wpAny_bind (wpAny_bind (wpAny_holding ?_))
  show wpAny _ _ (Builtin.SmallTypes.nextOf (.ref i3) >>= _) _ _ ⟨p2, g, d, tk2, os⟩
  refine wpAny_bind (D3.item i _ _ _ hlt3 (D3.over (D3.over (D3.over st3 hs0 S.zf3) hp1 S.sep1_3) hp2 S.sep2_3) fun x3 p3 tk3 hx3 sn3 hp3 => wpAny_pure ?_)
  replace hp3 : Heap.SameBut i3 p2 p3 := hp3
  refine wpAny_pure (wpAny_pure ?_)
  show wpAny _ _ (newTuple [x1, x2, x3] >>= _) _ _ _
  refine wpAny_bind (wpAny_newTuple ?_)
  have hsz : p3.objs.size = hp.objs.size := by rw [hp3.1, hp2.1, hp1.1, hs0.1]
  have hzz : IsZipHeld p3 z TI TO T true := hp3.extBut _ _ S.zi3 (hp2.extBut _ _ S.zi2 (hp1.extBut _ _ S.zi1 hz0))
  have hkk : ∀ c o, c ≠ z → c ≠ i1 → c ≠ i2 → c ≠ i3 → hp.get? c = some o → p3.get? c = some o := fun c o cz c1 c2 c3 e =>
    hp3.extBut _ _ c3 (hp2.extBut _ _ c2 (hp1.extBut _ _ c1 (hs0.extBut _ _ cz e)))
  have hj1 : St1 (i + 1) p3 := D1.over (D1.over sn1 hp2 S.sep2_1) hp3 S.sep3_1
  have hj2 : St2 (i + 1) p3 := D2.over sn2 hp3 S.sep3_2
  refine wpAny_pure ⟨_, rfl, ?_⟩
  show Q (.ref p3.objs.size) ⟨p3.push { cls := .type "tuple", data := .seq #[x1, x2, x3] }, g, d, tk3, os⟩
  have up : ∀ c o, p3.get? c = some o → (p3.push { cls := .type "tuple", data := .seq #[x1, x2, x3] }).get? c = some o := fun c o e => Heap.get?_push_of_some _ e
  have hp' : IsTupOf3 (p3.push { cls := .type "tuple", data := .seq #[x1, x2, x3] }) p3.objs.size x1 x2 x3 := Heap.get?_push_size _ rfl
  have hz4 : (p3.push { cls := .type "tuple", data := .seq #[x1, x2, x3] }).objs.size = p3.objs.size + 1 := Heap.size_push ..
  rw [hsz] at hp' hz4 ⊢
  exact hQ x1 x2 x3 _ tk3 hx1 hx2 hx3 (up _ _ hzz) (D1.frame _ _ _ hj1 fun b _ o e => up b o e) (D2.frame _ _ _ hj2 fun b _ o e => up b o e) (D3.frame _ _ _ sn3 fun b _ o e => up b o e) hp' hz4 fun c o cz c1 c2 c3 e => up c o (hkk c o cz c1 c2 c3 e)
theorem zl_end_held {Q : Fin → Shared → Prop} (S : ZipSep3 z TI TO i1 i2 i3 fp1 fp2 fp3) (D1 : Draws prog w A i1 fp1 n1 P1 St1) (D2 : Draws prog w A i2 fp2 n2 P2 St2) (D3 : Draws prog w A i3 fp3 n3 P3 St3)
    (hz : IsZipHeld s.heap z TI TO T f) (hT : s.heap.get? T = some oT) (hTI : IsTupOf3 s.heap TI (.ref i1) (.ref i2) (.ref i3)) (st1 : St1 i s.heap) (st2 : St2 i s.heap) (st3 : St3 i s.heap) (hle1 : i ≤ n1) (hle2 : i ≤ n2) (hle3 : i ≤ n3) (hend : i = n1 ∨ i = n2 ∨ i = n3)
    (hE : ∀ h' tk e, (∀ c o, c ≠ z → c ≠ i1 → c ≠ i2 → c ≠ i3 → s.heap.get? c = some o → h'.get? c = some o) → (∃ o, h'.get? e = some o ∧ o.cls = .type "StopIteration") → E (.ref e) { s with heap := h', toks := tk }) :
    wpAny (model prog w) A (Builtin.«zip.__next__» ⟨[.ref z], []⟩) Q E s := by
  obtain ⟨hp, g, d, tk0, os⟩ := s
  show wpAny _ _ (field (.ref z) 2 >>= _) _ _ _
  refine wpAny_bind (wpAny_field hz rfl (x := .bool false) rfl ?_)
  show wpAny _ _ (field (.ref z) 3 >>= _) _ _ _
  refine wpAny_bind (wpAny_field hz rfl (x := .ref TI) rfl ?_)
  refine wpAny_bind (wpAny_seqItems hTI rfl ?_)
  show wpAny _ _ (Builtin.SmallTypes.ownedTupleIsFree (.ref z) >>= _) _ _ _
  refine wpAny_bind (wpAny_tupleHeld_zip hz hT fun g0 hz0 hs0 => ?_)
  replace hs0 : Heap.SameBut z hp g0 := hs0
  simp only [Bool.false_eq_true, if_false]
  refine wpAny_bind ?_
  rw [← Array.forIn_toList]
  simp only [List.forIn_cons, List.forIn_nil]
  refine wpAny_bind (wpAny_bind (wpAny_holding ?_))
  show wpAny _ _ (Builtin.SmallTypes.nextOf (.ref i1) >>= _) _ _ ⟨g0, g, d, tk0, os⟩
  by_cases hlt1 : i < n1
  · refine wpAny_bind (D1.item i _ _ _ hlt1 (D1.over st1 hs0 S.zf1) fun x1 p1 tk1 hx1 sn1 hp1 => wpAny_pure ?_)
    replace hp1 : Heap.SameBut i1 g0 p1 := hp1
    refine wpAny_pure ?_
    refine wpAny_bind (wpAny_bind (wpAny_holding ?_))
    show wpAny _ _ (Builtin.SmallTypes.nextOf (.ref i2) >>= _) _ _ ⟨p1, g, d, tk1, os⟩
    by_cases hlt2 : i < n2
    · refine wpAny_bind (D2.item i _ _ _ hlt2 (D2.over (D2.over st2 hs0 S.zf2) hp1 S.sep1_2) fun x2 p2 tk2 hx2 sn2 hp2 => wpAny_pure ?_)
      replace hp2 : Heap.SameBut i2 p1 p2 := hp2
      refine wpAny_pure ?_
      refine wpAny_bind (wpAny_bind (wpAny_holding ?_))
      show wpAny _ _ (Builtin.SmallTypes.nextOf (.ref i3) >>= _) _ _ ⟨p2, g, d, tk2, os⟩
      have hi3 : i = n3 := by omega
      refine wpAny_bind (D3.done ⟨p2, g, d, tk2, os⟩ _ _ (by rw [← hi3]; exact D3.over (D3.over (D3.over st3 hs0 S.zf3) hp1 S.sep1_3) hp2 S.sep2_3) fun q e hq he => ?_)
      replace hq : Heap.ExtBut i3 p2 q := hq
      exact hE q tk2 e (fun c o cz c1 c2 c3 x => hq _ _ c3 (hp2.extBut _ _ c2 (hp1.extBut _ _ c1 (hs0.extBut _ _ cz x)))) he
    · have hi2 : i = n2 := by omega
      refine wpAny_bind (D2.done ⟨p1, g, d, tk1, os⟩ _ _ (by rw [← hi2]; exact D2.over (D2.over st2 hs0 S.zf2) hp1 S.sep1_2) fun q e hq he => ?_)
      replace hq : Heap.ExtBut i2 p1 q := hq
      exact hE q tk1 e (fun c o cz c1 c2 c3 x => hq _ _ c2 (hp1.extBut _ _ c1 (hs0.extBut _ _ cz x))) he
  · have hi1 : i = n1 := by omega
    refine wpAny_bind (D1.done ⟨g0, g, d, tk0, os⟩ _ _ (by rw [← hi1]; exact D1.over st1 hs0 S.zf1) fun q e hq he => ?_)
    replace hq : Heap.ExtBut i1 g0 q := hq
    exact hE q tk0 e (fun c o cz c1 c2 c3 x => hq _ _ c1 (hs0.extBut _ _ cz x)) he
theorem zl_pyNext_held {Q : Option Value → Shared → Prop} (S : ZipSep3 z TI TO i1 i2 i3 fp1 fp2 fp3) (D1 : Draws prog w A.in1 i1 fp1 n1 P1 St1) (D2 : Draws prog w A.in1 i2 fp2 n2 P2 St2) (D3 : Draws prog w A.in1 i3 fp3 n3 P3 St3)
    (hz : IsZipHeld s.heap z TI TO T f) (hT : s.heap.get? T = some oT) (hTI : IsTupOf3 s.heap TI (.ref i1) (.ref i2) (.ref i3)) (st1 : St1 i s.heap) (st2 : St2 i s.heap) (st3 : St3 i s.heap) (hlt1 : i < n1) (hlt2 : i < n2) (hlt3 : i < n3)
    (hQ : ∀ x1 x2 x3 h' tk, P1 i x1 → P2 i x2 → P3 i x3 → IsZipHeld h' z TI TO T true → St1 (i + 1) h' → St2 (i + 1) h' → St3 (i + 1) h' → IsTupOf3 h' s.heap.objs.size x1 x2 x3 → h'.objs.size = s.heap.objs.size + 1 →
      (∀ c o, c ≠ z → c ≠ i1 → c ≠ i2 → c ≠ i3 → s.heap.get? c = some o → h'.get? c = some o) → Q (some (.ref s.heap.objs.size)) { s with heap := h', toks := tk }) :
    wpAny (model prog w) A (pyNext (.ref z)) Q E s := by
  have hTy : s.TypeIs (.ref z) "zip" := ⟨_, hz, rfl⟩
  unfold pyNext
  exact wpAny_bind (wpAny_attempt (wpAny_callSpecial?_slot (name := Str.ofString "__next__") hTy F.slot_zip_next
    (wpAny_call_entry F.slot_zip_next hTy F.entry_zip_next
      (zl_next_held S D1 D2 D3 hz hT hTI st1 st2 st3 hlt1 hlt2 hlt3 fun x1 x2 x3 h' tk y1 y2 y3 b1 d1 d2 d3 b5 b6 b7 => wpAny_pure (hQ x1 x2 x3 h' tk y1 y2 y3 b1 d1 d2 d3 b5 b6 b7)) (F.args_zip_next_1 _))))
theorem zl_pyNext_end {Q : Option Value → Shared → Prop} (S : ZipSep3 z TI TO i1 i2 i3 fp1 fp2 fp3) (D1 : Draws prog w A.in1 i1 fp1 n1 P1 St1) (D2 : Draws prog w A.in1 i2 fp2 n2 P2 St2) (D3 : Draws prog w A.in1 i3 fp3 n3 P3 St3)
    (hz : IsZipHeld s.heap z TI TO T f) (hT : s.heap.get? T = some oT) (hTI : IsTupOf3 s.heap TI (.ref i1) (.ref i2) (.ref i3)) (st1 : St1 i s.heap) (st2 : St2 i s.heap) (st3 : St3 i s.heap) (hle1 : i ≤ n1) (hle2 : i ≤ n2) (hle3 : i ≤ n3) (hend : i = n1 ∨ i = n2 ∨ i = n3)
    (hQ : ∀ h' tk, (∀ c o, c ≠ z → c ≠ i1 → c ≠ i2 → c ≠ i3 → s.heap.get? c = some o → h'.get? c = some o) → Q none { s with heap := h', toks := tk }) : wpAny (model prog w) A (pyNext (.ref z)) Q E s := by
  have hTy : s.TypeIs (.ref z) "zip" := ⟨_, hz, rfl⟩
  unfold pyNext
  refine wpAny_bind (wpAny_attempt (wpAny_callSpecial?_slot (name := Str.ofString "__next__") hTy F.slot_zip_next
    (wpAny_call_entry F.slot_zip_next hTy F.entry_zip_next (zl_end_held S D1 D2 D3 hz hT hTI st1 st2 st3 hle1 hle2 hle3 hend fun h' tk e hk he => ?_) (F.args_zip_next_1 _))))
  obtain ⟨o, ho, hc⟩ := he
  refine wpAny_bind (wpAny_isInstance (T := "StopIteration") (b := true) ⟨o, ho, hc⟩ isSubtype_stop ?_)
  exact wpAny_pure (hQ _ _ hk)
end
end TL
namespace TL
open PySem PySem.Spec PyProof.Rows L2
open PySem.W (kdx_alive)
/-- an iterator that gives new tuples, held by whoever asks; S: the list that takes them -/
structure TupIt (prog : Program) (w : World) (A : Around) (z : Addr) (fp wr : List Addr) (n : Nat) (P : Nat → Array Value → Prop) (St : Addr → Nat → Heap → Prop) : Prop where
  sub : ∀ c ∈ wr, c ∈ fp
  frame : ∀ S i h h', S ∉ fp → St S i h → (∀ b o, b ≠ S → h.get? b = some o → h'.get? b = some o) → St S i h'
  item : ∀ S i (s : Shared) (Q : Option Value → Shared → Prop) (E : Value → Shared → Prop), i < n → St S i s.heap → S < s.heap.objs.size →
    (∀ vs h' tk, P i vs → St S (i + 1) h' → h'.get? s.heap.objs.size = some { cls := .type "tuple", data := .seq vs } → h'.objs.size = s.heap.objs.size + 1 → (∀ c o, c ∉ wr → s.heap.get? c = some o → h'.get? c = some o) →
      Q (some (.ref s.heap.objs.size)) { s with heap := h', toks := tk }) → wpAny (model prog w) A (pyNext (.ref z)) Q E s
  done : ∀ S (s : Shared) (Q : Option Value → Shared → Prop) (E : Value → Shared → Prop), St S n s.heap → (∀ h' tk, (∀ c o, c ∉ wr → s.heap.get? c = some o → h'.get? c = some o) → Q none { s with heap := h', toks := tk }) → wpAny (model prog w) A (pyNext (.ref z)) Q E s
structure TG3 (P : Nat → Array Value → Prop) (lo : Addr) (h : Heap) (as : List Addr) : Prop where
  rise : as.Pairwise (· < ·)
  above : ∀ a ∈ as, lo < a
  tups : ∀ (j : Nat) (a : Addr), as[j]? = some a → ∃ vs, P j vs ∧ h.get? a = some { cls := .type "tuple", data := .seq vs }
theorem TG3.there {P : Nat → Array Value → Prop} {lo : Addr} {h : Heap} {as : List Addr} (g : TG3 P lo h as) {a : Addr} (ha : a ∈ as) : a < h.objs.size := by
  obtain ⟨j, hj⟩ := List.mem_iff_getElem?.mp ha
  obtain ⟨_, _, e⟩ := g.tups j a hj
  exact Heap.lt_size e
theorem zip_no_len : typeLookup (.type "zip") "__len__" = pure none := am_miss_of_fast (by decide +kernel)
theorem zip_no_hint : typeLookup (.type "zip") "__length_hint__" = pure none := am_miss_of_fast (by decide +kernel)
section
variable {prog : Program} {w : World} {A : Around} {E : Value → Shared → Prop} {s : Shared} {R : Result → Shared → Prop} {z : Addr} {fp wr : List Addr} {n : Nat} {P : Nat → Array Value → Prop} {St : Addr → Nat → Heap → Prop}
theorem tup_loop (D : TupIt prog w A.in1 z fp wr n P St) {S : Addr} (hS0 : ∀ c ∈ fp, c < S) (hn : n ≤ sizeLine) (res : Value) {h₁ : Heap}
    (hR : ∀ h' tk acc c as, (∀ b o, b ≠ S → b ∉ wr → h₁.get? b = some o → h'.get? b = some o) → h'.get? S = some { cls := .type "list", dict := none, data := .seq acc c, slots := #[] } → as.length = n → TG3 P S h' as →
      acc.toList = as.map Value.ref → R (.ok (.ret res)) { s with heap := h', toks := tk }) :
    ∀ (k i : Nat) (h : Heap) (tk c : Nat) (acc : Array Value) (as : List Addr), n - i = k → i ≤ n → St S i h → (∀ b o, b ≠ S → b ∉ wr → h₁.get? b = some o → h.get? b = some o) →
      h.get? S = some { cls := .type "list", dict := none, data := .seq acc c, slots := #[] } → acc.toList = as.map Value.ref → as.length = i → TG3 P S h as →
      codeAny (model prog w) A (.builtin "list.extend.loop" ⟨[.ref S, .ref z, res], []⟩) R { s with heap := h, toks := tk } := by
  have hSf : S ∉ fp := fun q => Nat.lt_irrefl _ (hS0 S q)
  have hSw : S ∉ wr := fun q => hSf (D.sub S q)
  have hbf : ∀ b, S < b → b ∉ wr := fun b hb q => absurd (hS0 b (D.sub b q)) (Nat.not_lt.mpr (Nat.le_of_lt hb))
  intro k
  induction k with
  | zero =>
    intro i h tk c acc as hk hi hst hkeep hS hacc hal hG
    have hin : i = n := by omega
    subst hin
    refine codeAny_builtin PySem.F.entry_extend_loop ?_
    rw [Around.under_plainId PySem.F.plain_extend_loop _]
    show wpAny _ A.in1 (pyNext (.ref z) >>= _) _ _ _
    refine wpAny_bind (D.done S { s with heap := h, toks := tk } _ _ hst fun h' tk' he => ?_)
    refine wpAny_pure (hR h' tk' acc c as (fun b o h1 h2 e => he b o h2 (hkeep b o h1 h2 e)) (he S _ hSw hS) hal ⟨hG.rise, hG.above, fun j a hj => ?_⟩ hacc)
    obtain ⟨vs, e1, e2⟩ := hG.tups j a hj
    exact ⟨vs, e1, he a _ (hbf a (hG.above a (List.mem_of_getElem? hj))) e2⟩
  | succ k ih =>
    intro i h tk c acc as hk hi hst hkeep hS hacc hal hG
    have hlt : i < n := by omega
    have hsz : acc.size = i := by rw [← Array.length_toList, hacc, List.length_map, hal]
    refine codeAny_builtin PySem.F.entry_extend_loop ?_
    rw [Around.under_plainId PySem.F.plain_extend_loop _]
    show wpAny _ A.in1 (pyNext (.ref z) >>= _) _ _ _
    refine wpAny_bind (D.item S i { s with heap := h, toks := tk } _ _ hlt hst (Heap.lt_size hS) fun vs h' tk' hv hst' ht hz hkp => ?_)
    dsimp only at ht hz hkp ⊢
    have hS' := hkp S _ hSw hS
    have up : ∀ b o, b ≠ S → h'.get? b = some o → (h'.update S (Obj.mapSeq (·.push (Value.ref h.objs.size)))).get? b = some o := fun b o hb e => (Heap.get?_update_other _ _ (Ne.symm hb)).trans e
    have hSl : S < h.objs.size := Heap.lt_size hS
    show wpAny _ A.in1 (updateSeq S (·.push (Value.ref h.objs.size)) >>= _) _ _ _
    refine wpAny_bind ?_
    refine wpAny_updateSeq hS' rfl (wpAny_pure ⟨plainId_quiet PySem.F.plain_extend_loop _, ih (i + 1) _ tk' _ (acc.push (Value.ref h.objs.size)) (as ++ [h.objs.size]) (by omega) hlt (D.frame S _ _ _ hSf hst' up)
      (fun b o h1 h2 e => up b o h1 (hkp b o h2 (hkeep b o h1 h2 e))) (Heap.get?_update_self _ hS' rfl) (by rw [Array.toList_push, hacc, List.map_append]; rfl) (by rw [List.length_append, hal]; rfl) ⟨?_, ?_, ?_⟩⟩) (by rw [hsz]; omega) (by show (acc.push (Value.ref h.objs.size)).size ≤ sizeLine + 1; rw [Array.size_push, hsz]; omega)
    · refine List.pairwise_append.mpr ⟨hG.rise, List.pairwise_singleton _ _, fun a ha b hb => ?_⟩
      rw [List.mem_singleton.mp hb]
      exact hG.there ha
    · intro a ha
      rcases List.mem_append.mp ha with ha | ha
      · exact hG.above a ha
      · rw [List.mem_singleton.mp ha]; exact hSl
    · intro j b hj
      rcases Nat.lt_trichotomy j as.length with h1 | h1 | h1
      · rw [List.getElem?_append_left h1] at hj
        obtain ⟨vs', e1, e2⟩ := hG.tups j b hj
        have hb := hG.above b (List.mem_of_getElem? hj)
        exact ⟨vs', e1, up b _ (Nat.ne_of_gt hb) (hkp b _ (hbf b hb) e2)⟩
      · subst h1
        have hb : h.objs.size = b := by simpa using hj
        subst hb
        exact ⟨vs, by rw [hal]; exact hv, up _ _ (Nat.ne_of_gt hSl) ht⟩
      · have hnone : (as ++ [h.objs.size])[j]? = none := List.getElem?_eq_none (by rw [List.length_append, List.length_singleton]; omega)
        rw [hnone] at hj; cases hj
theorem tup_extend (D : TupIt prog w A.in1 z fp wr n P St) (hz : z ∈ fp) (hTy : s.TypeIs (.ref z) "zip") (hself : ∀ (A' : Around) (s' : Shared) (Q : Value → Shared → Prop) (E' : Value → Shared → Prop), s' = s → Q (.ref z) s' → wpAny (model prog w) A' (pyIter (.ref z)) Q E' s')
    (S : Addr) (hS0 : ∀ c ∈ fp, c < S) (hst : St S 0 s.heap) (res : Value) (c₀ : Nat) (hS : s.heap.get? S = some { cls := .type "list", data := .seq #[] c₀ })
    (hR : ∀ h' tk acc c as, (∀ b o, b ≠ S → b ∉ wr → s.heap.get? b = some o → h'.get? b = some o) → h'.get? S = some { cls := .type "list", dict := none, data := .seq acc c, slots := #[] } → as.length = n → TG3 P S h' as →
      acc.toList = as.map Value.ref → R (.ok (.ret res)) { s with heap := h', toks := tk }) (hn : n ≤ sizeLine) :
    wpAny (model prog w) A.in1 (Builtin.List.listExtendWith (.ref S) (.ref z) res)
      (fun fin s' => match fin with | .done f => R (.ok f) s' | .again c' => c'.quiet = true ∧ codeAny (model prog w) A c' R s') (fun e s' => R (.error e) s') s := by
  have hSz : S ≠ z := fun e => Nat.lt_irrefl _ (e ▸ hS0 z hz)
  have hSf : S ∉ fp := fun q => Nat.lt_irrefl _ (hS0 S q)
  unfold Builtin.List.listExtendWith
  refine wpAny_bind (wpAny_typeOf (T := "zip") hTy ?_)
  have h1 : Builtin.List.listSameRef (.ref S) (.ref z) = false := by simp [Builtin.List.listSameRef, hSz]
  have h2 : (Value.type "zip" == Value.type "list") = false := by decide
  have h3 : (Value.type "zip" == Value.type "tuple") = false := by decide
  simp only [h1, h2, h3, Bool.or_false, Bool.false_eq_true, if_false]
  refine wpAny_bind (hself _ _ _ _ rfl ?_)
  refine wpAny_bind (wpAny_holding ?_)
  unfold Builtin.List.listLengthHint
  refine wpAny_bind (wpAny_specialOf hTy zip_no_len ?_)
  show wpAny _ A.in1 (specialOf (Value.ref z) (Str.ofString "__length_hint__") >>= _) _ _ _
  refine wpAny_bind (wpAny_specialOf hTy zip_no_hint ?_)
  refine wpAny_pure ?_
  show wpAny _ A.in1 (rule "list.extend.makes-room" >>= fun _ => Builtin.List.listTouch (.ref S) >>= fun _ =>
    again (.builtin "list.extend.loop" ⟨[.ref S, .ref z, res], []⟩)) _ _ _
  refine wpAny_bind (wpAny_rule ?_)
  refine wpAny_bind ?_
  show wpAny _ A.in1 (updateSeq S (·.push .none) >>= fun _ => updateSeq S (·.pop)) _ _ _
  refine wpAny_bind (wpAny_updateSeq hS rfl ?_)
  have hS₂ := Heap.get?_update_self (Obj.mapSeq (·.push Value.none)) hS rfl
  refine wpAny_updateSeq (hz := by seq_fits) hS₂ rfl ?_
  have hS₃ := Heap.get?_update_self (Obj.mapSeq (·.pop)) hS₂ rfl
  have oth : ∀ b o, b ≠ S → s.heap.get? b = some o → ((s.heap.update S (Obj.mapSeq (·.push Value.none))).update S (Obj.mapSeq (·.pop))).get? b = some o :=
    fun b o hb e => (Heap.get?_update_other _ _ (Ne.symm hb)).trans ((Heap.get?_update_other _ _ (Ne.symm hb)).trans e)
  exact wpAny_pure ⟨plainId_quiet PySem.F.plain_extend_loop _, tup_loop (s := s) D hS0 hn res hR n 0 _ s.toks _ #[] [] rfl (Nat.zero_le _) (D.frame S _ _ _ hSf hst oth)
    (fun b o hb _ e => oth b o hb e) hS₃ rfl rfl ⟨List.Pairwise.nil, (fun _ ha => nomatch ha), (fun j a hj => by simp at hj)⟩⟩
theorem tup_call {Q : Value → Shared → Prop} (D : TupIt prog w A.in1.in1 z fp wr n P St) (hz : z ∈ fp) (hTy : s.TypeIs (.ref z) "zip")
    (hself : ∀ (A' : Around) (s' : Shared) (Q : Value → Shared → Prop) (E' : Value → Shared → Prop), s'.heap.get? z = s.heap.get? z → Q (.ref z) s' → wpAny (model prog w) A' (pyIter (.ref z)) Q E' s')
    (hlt : ∀ c ∈ fp, c < s.heap.objs.size) (hst : ∀ h', (∀ b o, s.heap.get? b = some o → h'.get? b = some o) → St s.heap.objs.size 0 h') (hn : n ≤ sizeLine)
    (hQ : ∀ h' tk acc c as, (∀ b o, b ∉ wr → s.heap.get? b = some o → h'.get? b = some o) → h'.get? s.heap.objs.size = some { cls := .type "list", dict := none, data := .seq acc c, slots := #[] } → as.length = n → TG3 P s.heap.objs.size h' as →
      acc.toList = as.map Value.ref → Q (.ref s.heap.objs.size) { s with heap := h', toks := tk }) :
    wpAny (model prog w) A (call (.type "list") [.ref z]) Q E s := by
  refine callType_codes (Q₁ := fun obj s₁ => obj = .ref s.heap.objs.size ∧ s₁ = { s with heap := s.heap.push { cls := .type "list", data := .seq #[] } }) PySem.F.called_list (PySem.F.typeCall_list_1 _) PySem.F.entry_list_init
    (code_list_new _ ⟨rfl, rfl⟩) fun obj s₁ h₁ => ?_
  obtain ⟨rfl, rfl⟩ := h₁
  have hS : (s.heap.push { cls := .type "list", data := .seq #[] }).get? s.heap.objs.size = some { cls := .type "list", data := .seq #[] } := Heap.get?_push_size _ rfl
  obtain ⟨oz, hoz, hcz⟩ := id hTy
  have hzl : z < s.heap.objs.size := Heap.lt_size hoz
  refine ⟨⟨_, hS, rfl⟩, PySem.F.args_list_init_2 _ _, ?_⟩
  show wpAny _ _ (do let old ← Builtin.List.listItems (.ref s.heap.objs.size); Builtin.List.listUpdate (.ref s.heap.objs.size) (fun _ => #[]); letGo old.toList.reverse; Builtin.List.listExtendWith (.ref s.heap.objs.size) (.ref z) .none) _ _ _
  refine wpAny_bind ?_
  unfold Builtin.List.listItems
  refine wpAny_bind (wpAny_seqItems hS rfl (wpAny_pure ?_))
  show wpAny _ _ (updateSeq s.heap.objs.size (fun _ => #[]) >>= fun _ => letGo (#[] : Array Value).toList.reverse >>= fun _ => Builtin.List.listExtendWith (.ref s.heap.objs.size) (.ref z) .none) _ _ _
  refine wpAny_bind (wpAny_updateSeq hS rfl ?_)
  have hS₂ := Heap.get?_update_self (Obj.mapSeq (fun _ => (#[] : Array Value))) hS rfl
  have oth : ∀ b o, b ≠ s.heap.objs.size → s.heap.get? b = some o → ((s.heap.push { cls := .type "list", data := .seq #[] }).update s.heap.objs.size (Obj.mapSeq (fun _ => (#[] : Array Value)))).get? b = some o :=
    fun b o hb e => (Heap.get?_update_other _ _ (Ne.symm hb)).trans (Heap.get?_push_of_some _ e)
  have oth' : ∀ b o, s.heap.get? b = some o → ((s.heap.push { cls := .type "list", data := .seq #[] }).update s.heap.objs.size (Obj.mapSeq (fun _ => (#[] : Array Value)))).get? b = some o :=
    fun b o e => oth b o (Nat.ne_of_lt (Heap.lt_size e)) e
  refine wpAny_bind (wpAny_letGo ?_)
  refine tup_extend (A := A.in1) D hz ⟨oz, oth' z _ hoz, hcz⟩ (fun A' s' Q' E' e k => hself A' s' Q' E' (by rw [e, oth' z _ hoz, hoz]) k) _ hlt (hst _ oth') .none _ hS₂ (fun h' tk acc c as hk hS' hl hG hacc => ?_) hn
  exact ⟨rfl, hQ h' tk acc c as (fun b o hb e => hk b o (Nat.ne_of_lt (Heap.lt_size e)) hb (oth' b o e)) hS' hl hG hacc⟩
end
end TL
namespace TL
open PySem PySem.Spec PyProof.Rows L2
theorem zip_tup3 {prog : Program} {w : World} {A : Around} {z TI TO i1 i2 i3 : Addr} {fp1 fp2 fp3 : List Addr} {n1 n2 n3 : Nat} {P1 P2 P3 : Nat → Value → Prop} {St1 St2 St3 : Nat → Heap → Prop}
    (S : ZipSep3 z TI TO i1 i2 i3 fp1 fp2 fp3) (D1 : Draws prog w A.in1 i1 fp1 n1 P1 St1) (D2 : Draws prog w A.in1 i2 fp2 n2 P2 St2) (D3 : Draws prog w A.in1 i3 fp3 n3 P3 St3) {rest : List Addr} (h1 : ∀ x ∈ fp1, x ∈ i1 :: rest) (h2 : ∀ x ∈ fp2, x ∈ i2 :: rest) (h3 : ∀ x ∈ fp3, x ∈ i3 :: rest) :
    TupIt prog w A z (z :: TI :: TO :: i1 :: i2 :: i3 :: rest) [z, TO, i1, i2, i3] (min (min n1 n2) n3) (fun i vs => ∃ x1 x2 x3, P1 i x1 ∧ P2 i x2 ∧ P3 i x3 ∧ vs = #[x1, x2, x3])
      (fun L i h => IsTupOf3 h TI (.ref i1) (.ref i2) (.ref i3) ∧ St1 i h ∧ St2 i h ∧ St3 i h ∧ ((IsZip h z TI TO .none ∧ ∃ x y u, IsTupOf3 h TO x y u) ∨ ∃ T f oT, IsZipHeld h z TI TO T f ∧ h.get? T = some oT ∧ T ≠ z ∧ T ≠ i1 ∧ T ≠ i2 ∧ T ≠ i3 ∧ T ≠ L)) where
  sub := fun c hc => by
    simp only [List.mem_cons, List.not_mem_nil, or_false] at hc ⊢
    rcases hc with r | r | r | r | r <;> simp [r]
  frame := fun L i h h' hL st hk => by
    obtain ⟨hTI, s1, s2, s3, hz⟩ := st
    simp only [List.mem_cons, not_or] at hL
    obtain ⟨l1, l2, l3, l4, l5, l6, l7⟩ := hL
    have m : ∀ x i, x ∈ i :: rest → L ≠ i → x ≠ L := fun x i hx hi q => by
      rcases List.mem_cons.mp hx with e | e
      · exact hi (q.symm.trans e)
      · exact l7 (q ▸ e)
    refine ⟨hk _ _ (Ne.symm l2) hTI, D1.frame _ _ _ s1 fun b hb o e => hk b o (m b i1 (h1 b hb) l4) e, D2.frame _ _ _ s2 fun b hb o e => hk b o (m b i2 (h2 b hb) l5) e, D3.frame _ _ _ s3 fun b hb o e => hk b o (m b i3 (h3 b hb) l6) e, ?_⟩
    rcases hz with ⟨hz, x, y, u, hTO⟩ | ⟨T, f, oT, hz, hT, r1, r2, r3, r4, r5⟩
    · exact .inl ⟨hk _ _ (Ne.symm l1) hz, x, y, u, hk _ _ (Ne.symm l3) hTO⟩
    · exact .inr ⟨T, f, oT, hk _ _ (Ne.symm l1) hz, hk _ _ r5 hT, r1, r2, r3, r4, r5⟩
  item := fun L i s Q E hi st hL hQ => by
    obtain ⟨hTI, s1, s2, s3, hz⟩ := st
    have g1 : i < n1 := by omega
    have g2 : i < n2 := by omega
    have g3 : i < n3 := by omega
    have lt : ∀ {c o}, s.heap.get? c = some o → s.heap.objs.size ≠ c := fun e => Nat.ne_of_gt (Heap.lt_size e)
    have y1 : s.heap.objs.size ≠ i1 := by obtain ⟨_, e⟩ := D1.live _ _ s1; exact lt e
    have y2 : s.heap.objs.size ≠ i2 := by obtain ⟨_, e⟩ := D2.live _ _ s2; exact lt e
    have y3 : s.heap.objs.size ≠ i3 := by obtain ⟨_, e⟩ := D3.live _ _ s3; exact lt e
    rcases hz with ⟨hz, x, y, u, hTO⟩ | ⟨T, f, oT, hz, hT, r1, r2, r3, r4, r5⟩
    · refine wpAny_pyNext_zipD3_item S D1 D2 D3 hz hTI hTO s1 s2 s3 g1 g2 g3 fun x1 x2 x3 h' tk q1 q2 q3 z' TO' t1 t2 t3 hT hsz hk => ?_
      exact hQ _ h' tk ⟨x1, x2, x3, q1, q2, q3, rfl⟩ ⟨hk _ _ S.TIz S.TITO S.TIi1 S.TIi2 S.TIi3 hTI, t1, t2, t3, .inr ⟨_, false, _, z', hT, lt hz, y1, y2, y3, Nat.ne_of_gt hL⟩⟩ hT hsz
        fun c o hc e => hk c o (fun q => hc (by simp [q])) (fun q => hc (by simp [q])) (fun q => hc (by simp [q])) (fun q => hc (by simp [q])) (fun q => hc (by simp [q])) e
    · refine zl_pyNext_held S D1 D2 D3 hz hT hTI s1 s2 s3 g1 g2 g3 fun x1 x2 x3 h' tk q1 q2 q3 z' t1 t2 t3 hT' hsz hk => ?_
      exact hQ _ h' tk ⟨x1, x2, x3, q1, q2, q3, rfl⟩ ⟨hk _ _ S.TIz S.TIi1 S.TIi2 S.TIi3 hTI, t1, t2, t3, .inr ⟨T, true, oT, z', hk _ _ r1 r2 r3 r4 hT, r1, r2, r3, r4, r5⟩⟩ hT' hsz
        fun c o hc e => hk c o (fun q => hc (by simp [q])) (fun q => hc (by simp [q])) (fun q => hc (by simp [q])) (fun q => hc (by simp [q])) e
  done := fun L s Q E st hQ => by
    obtain ⟨hTI, s1, s2, s3, hz⟩ := st
    rcases hz with ⟨hz, x, y, u, hTO⟩ | ⟨T, f, oT, hz, hT, r1, r2, r3, r4, r5⟩
    · exact wpAny_pyNext_zipD3_end S D1 D2 D3 hz hTI hTO s1 s2 s3 (by omega) (by omega) (by omega) (by omega) fun h' tk hk => hQ h' tk fun c o hc e => hk c o (fun q => hc (by simp [q])) (fun q => hc (by simp [q])) (fun q => hc (by simp [q])) (fun q => hc (by simp [q])) (fun q => hc (by simp [q])) e
    · exact zl_pyNext_end S D1 D2 D3 hz hT hTI s1 s2 s3 (by omega) (by omega) (by omega) (by omega) fun h' tk hk => hQ h' tk fun c o hc e => hk c o (fun q => hc (by simp [q])) (fun q => hc (by simp [q])) (fun q => hc (by simp [q])) (fun q => hc (by simp [q])) e
/-- tuples laid at their addresses -/
def putZ : Hp → List Addr → List (List V) → Hp
  | H, a :: as, vs :: r => putZ (upd H a (.tup vs)) as r
  | H, _, _ => H
theorem putZ_off {b : Addr} : ∀ (as : List Addr) (r : List (List V)) (H : Hp), b ∉ as → putZ H as r b = H b
  | [], _, _, _ => rfl
  | _ :: _, [], _, _ => rfl
  | a :: as, p :: r, H, h => by
    show putZ (upd H a (.tup p)) as r b = H b
    rw [putZ_off as r _ (fun z => h (List.mem_cons_of_mem _ z)), upd_ne (fun z => h (by rw [z]; exact List.mem_cons_self))]
theorem putZ_at : ∀ (as : List Addr) (r : List (List V)) (H : Hp), as.length = r.length → as.Nodup → Paired (fun (t : Addr) (p : List V) => putZ H as r t = some (.tup p)) as r
  | [], [], _, _, _ => .nil
  | [], _ :: _, _, h, _ => by cases h
  | _ :: _, [], _, h, _ => by cases h
  | a :: as, p :: r, H, h, hn => by
    have hn' := List.nodup_cons.mp hn
    have ih := putZ_at as r (upd H a (.tup p)) (Nat.succ.inj h) hn'.2
    refine .cons ?_ ih
    show putZ (upd H a (.tup p)) as r a = some (.tup p)
    rw [putZ_off as r _ hn'.1, upd_same]
theorem tups_laid {X : Cx} {pins : List (Addr × Obj)} {σ : L2.St} {H : Hp} {s : Shared} {h' : Heap} {tk : Nat} {r : List (List V)} {P : Nat → Array Value → Prop} {acc : Array Value} {c : Nat} {as : List Addr} {S : Addr} (I : Inv X pins σ H s) (hge : s.heap.objs.size ≤ S) (hz : r.length ≤ sizeLine)
    (hP : ∀ j vs u, r[j]? = some u → P j vs → u.length ≤ sizeLine ∧ ∃ its, vs = its.toArray ∧ Vals u its) (hl : as.length = r.length)
    (hk : ∀ b o, s.heap.get? b = some o → h'.get? b = some o) (hS : h'.get? S = some { cls := .type "list", dict := none, data := .seq acc c, slots := #[] }) (hG : TG3 P S h' as) (hacc : acc.toList = as.map Value.ref) :
    H S = none ∧ (∀ t ∈ as, H t = none ∧ t ≠ S) ∧ as.Nodup ∧ Inv X pins σ (putZ (upd H S (.lst (as.map V.ref))) as r) { s with heap := h', toks := tk } := by
  have hSn : S ∉ as := fun z => Nat.lt_irrefl _ (hG.above _ z)
  have nd : as.Nodup := List.Pairwise.imp (fun {a b} (h : a < b) => Nat.ne_of_lt h) hG.rise
  have new : ∀ t ∈ as, H t = none := fun t ht => I.hok.fresh (Nat.le_trans hge (Nat.le_of_lt (hG.above t ht)))
  have newS : H S = none := I.hok.fresh hge
  have atP := putZ_at as r (upd H S (.lst (as.map V.ref))) hl nd
  have off : ∀ b, b ∉ as → b ≠ S → putZ (upd H S (.lst (as.map V.ref))) as r b = H b := fun b h1 h2 => by rw [putZ_off as r _ h1, upd_ne h2]
  have low : ∀ b o, s.heap.get? b = some o → b ∉ as ∧ b ≠ S := fun b o e => ⟨fun z => absurd (Heap.lt_size e) (Nat.not_lt.mpr (Nat.le_trans hge (Nat.le_of_lt (hG.above b z)))), Nat.ne_of_lt (Nat.lt_of_lt_of_le (Heap.lt_size e) hge)⟩
  have kp : ∀ b u, H b = some u → (putZ (upd H S (.lst (as.map V.ref))) as r) b = some u := fun b u e => by
    rw [off b (fun z => by rw [new b z] at e; cases e) (fun z => by rw [z, newS] at e; cases e)]
    exact e
  have eS : putZ (upd H S (.lst (as.map V.ref))) as r S = some (.lst (as.map V.ref)) := by rw [putZ_off as r _ hSn, upd_same]
  refine ⟨newS, fun t ht => ⟨new t ht, fun q => hSn (q ▸ ht)⟩, nd, ?_⟩
  refine I.call' (ch := []) rfl ⟨fun b o q _ _ _ => hk b o q, fun b o q _ _ _ => ⟨o.slots, hk b o q⟩, fun b o q n _ => ?_, fun b o q _ => ⟨o, hk b o q⟩, fun b xs q => kp b _ q, fun b o u q => kp b _ q, fun b ps q => ⟨#[], by rw [kp b _ q]; simp⟩⟩ (fun b u q => ?_) I.bare fun b z => by simp at z
  · obtain ⟨z1, z2⟩ := low b o q
    rw [off b z1 z2]
    exact n
  · by_cases hb : b ∈ as
    · obtain ⟨j, pk, e1, e2, e3⟩ := LiI.paired_ix atP hb
      rw [e3] at q
      cases q
      obtain ⟨vs, f1, f2⟩ := hG.tups j b e1
      obtain ⟨g0, its, rfl, g2⟩ := hP j vs pk e2 f1
      exact ⟨g0, its, g2, ⟨_, f2, rfl, _, rfl⟩⟩
    · by_cases hb2 : b = S
      · rw [hb2] at q ⊢
        rw [eS] at q
        cases q
        refine ⟨by rw [List.length_map]; omega, acc.toList, c, by rw [hacc]; exact LiI.vals_refs as, ?_⟩
        rw [Array.toArray_toList]
        exact hS
      · rw [off b hb hb2] at q
        exact (I.hok b u q).stay (fun d v _ y => hk d v y) (fun d y => kp d _ y) fun d xs y => kp d _ y
def zip3L (xs ys zs : List V) : List (List V) := (List.range (min (min xs.length ys.length) zs.length)).map fun i => [xs.getD i .non, ys.getD i .non, zs.getD i .non]
def tListZip3 (K : PySem.W.Frag) (ta : TA) : TE := fun σ H Q => ta σ H fun vs H1 => ∃ a b c xs ys zs, vs = [.ref a, .ref b, .ref c] ∧ SqL K H1 a xs ∧ SqL K H1 b ys ∧ SqL K H1 c zs ∧
  ∀ p ts, H1 p = none → (∀ t ∈ ts, H1 t = none ∧ t ≠ p) → ts.Nodup → ts.length = (zip3L xs ys zs).length → Q (.ref p) (putZ (upd H1 p (.lst (ts.map V.ref))) ts (zip3L xs ys zs))
theorem pe_listZip3 {X : Cx} {e e2 e3 : Expr} {ta : TA} {p p' pos pos' : Pos} (hc : X.calm = true) (hg : Gl X "zip") (hm : X.mg "zip" = none) (hg2 : Gl X "list") (hm2 : X.mg "list" = none) (hv2 : bootBuiltins "list" = some (.type "list")) (ha : PA X [e, e2, e3] ta)
    (hs : starEach [e, e2, e3] X.env = (false, eval e X.env) :: starEach [e2, e3] X.env := by rfl) (hpl : ((backTo pos' (starEach [e2, e3] X.env)).any fun x => x.fst) = false := by rfl)
    (hs2 : starEach [(Expr.Name "zip" p').Call [e, e2, e3] [] pos'] X.env = (false, eval ((Expr.Name "zip" p').Call [e, e2, e3] [] pos') X.env) :: starEach [] X.env := by rfl) :
    PE X ((Expr.Name "list" p).Call [(Expr.Name "zip" p').Call [e, e2, e3] [] pos'] [] pos) (tListZip3 X.K ta) := by
  refine ⟨fun pins s σ H Q I h => ?_⟩
  refine wpAny_Call_Name_kw (ld_blt I hg2 hm2 hv2 ?_)
  refine PyProof.Rows.callWith_type1 ?_ hs2 rfl
  rw [hs2]
  show wpAny _ _ (spliced ((false, eval ((Expr.Name "zip" p').Call [e, e2, e3] [] pos') X.env) :: backTo pos (starEach [] X.env))) _ _ s
  refine Calls.spliced_cons ?_
  refine Call_ (ld_blt I hg hm boot_zip (PyProof.Rows.callWith_type1 (thn (ha.run pos' pins s σ H _ I h) fun us s1 q0 => ?_) hs hpl) (by decide) (by decide)) rfl
  obtain ⟨vs, H1, I1, r1, a, b, c, xs, ys, zs, rfl, hqx, hqy, hqz, q⟩ := q0
  cases r1 with
  | cons ra rr =>
    cases rr with
    | cons rb rr =>
      cases rr with
      | cons rc rr =>
        cases rr
        cases ra
        cases rb
        cases rc
        obtain ⟨its, rv, p1, zx⟩ := I1.list hqx
        obtain ⟨its2, rv2, p2, zy⟩ := I1.list hqy
        obtain ⟨its3, rv3, p3, zz⟩ := I1.list hqz
        have la : a < s1.heap.objs.size := PlainL.lt p1
        have lb : b < s1.heap.objs.size := PlainL.lt p2
        have lc : c < s1.heap.objs.size := PlainL.lt p3
        have l1 := rv.length
        have l2 := rv2.length
        have l3 := rv3.length
        refine zip_begins3 (begins_list a its.toArray) (begins_list b its2.toArray) (begins_list c its3.toArray) p1.isList p2.isList p3.isList fun h' hz hTI hTO g1 g2 g3 hsz hk => ?_
        have I2 : Inv X pins σ H1 { s1 with heap := h' } := I1.kept (t' := s1.toks) hk
        have D : ZipSep3 (s1.heap.objs.size + 5) (s1.heap.objs.size + 3) (s1.heap.objs.size + 4) s1.heap.objs.size (s1.heap.objs.size + 1) (s1.heap.objs.size + 2) [s1.heap.objs.size, a] [s1.heap.objs.size + 1, b] [s1.heap.objs.size + 2, c] :=
          zip_sep3 (fun q hq => by rw [List.mem_singleton] at hq; rw [hq]; exact la) (fun q hq => by rw [List.mem_singleton] at hq; rw [hq]; exact lb) (fun q hq => by rw [List.mem_singleton] at hq; rw [hq]; exact lc)
        have na : a ≠ s1.heap.objs.size := Nat.ne_of_lt la
        have nb : b ≠ s1.heap.objs.size + 1 := Nat.ne_of_lt (Nat.lt_succ_of_lt lb)
        have nc : c ≠ s1.heap.objs.size + 2 := Nat.ne_of_lt (Nat.lt_succ_of_lt (Nat.lt_succ_of_lt lc))
        have hh : X.A.handled = none := (I1.ok).hd hc
        refine Calls.spliced_nil ?_
        have d1 := Draws.list (prog := X.prog) (w := X.w) (A := X.A.in1.in1.in1) hh _ a na its.toArray
        have d2 := Draws.list (prog := X.prog) (w := X.w) (A := X.A.in1.in1.in1) hh _ b nb its2.toArray
        have d3 := Draws.list (prog := X.prog) (w := X.w) (A := X.A.in1.in1.in1) hh _ c nc its3.toArray
        have lenz : (zip3L xs ys zs).length = min (min its.toArray.size its2.toArray.size) its3.toArray.size := by
          unfold zip3L
          rw [List.length_map, List.length_range, List.size_toArray, List.size_toArray, List.size_toArray, l1, l2, l3]
        have hcell : ∀ q ∈ (s1.heap.objs.size + 5) :: (s1.heap.objs.size + 3) :: (s1.heap.objs.size + 4) :: s1.heap.objs.size :: (s1.heap.objs.size + 1) :: (s1.heap.objs.size + 2) :: [a, b, c], q < h'.objs.size := fun q hq => by
          rw [hsz]
          simp only [List.mem_cons, List.not_mem_nil, or_false] at hq
          rcases hq with e | e | e | e | e | e | e | e | e <;> rw [e] <;> first | exact Nat.lt_of_lt_of_le la (Nat.le_add_right _ _) | exact Nat.lt_of_lt_of_le lb (Nat.le_add_right _ _) | exact Nat.lt_of_lt_of_le lc (Nat.le_add_right _ _) | omega
        refine tup_call (s := { s1 with heap := h' }) (zip_tup3 (rest := [a, b, c]) D d1 d2 d3 (fun x hx => ?_) (fun x hx => ?_) (fun x hx => ?_)) List.mem_cons_self ⟨_, hz, rfl⟩ (fun A' s' Q' E' e k => wpAny_pyIter_zip (e.trans hz) k) hcell (fun h2 k2 => ?_) (by rw [← lenz]; unfold zip3L; rw [List.length_map, List.length_range]; omega) fun h2 tk acc cc as hk2 hS hl hG hacc => ?_
        · simp only [List.mem_cons, List.not_mem_nil, or_false] at hx ⊢
          rcases hx with rfl | rfl <;> simp
        · simp only [List.mem_cons, List.not_mem_nil, or_false] at hx ⊢
          rcases hx with rfl | rfl <;> simp
        · simp only [List.mem_cons, List.not_mem_nil, or_false] at hx ⊢
          rcases hx with rfl | rfl <;> simp
        · have up : ∀ b o, h'.get? b = some o → h2.get? b = some o := k2
          have m1 : Heap.IsListIter h2 s1.heap.objs.size a 0 := ⟨_, up _ _ g1, rfl, rfl⟩
          have m2 : Heap.IsListIter h2 (s1.heap.objs.size + 1) b 0 := ⟨_, up _ _ g2, rfl, rfl⟩
          have m3 : Heap.IsListIter h2 (s1.heap.objs.size + 2) c 0 := ⟨_, up _ _ g3, rfl, rfl⟩
          exact ⟨up _ _ hTI, ⟨m1, p1.isList.at fun o e => up _ o (hk _ o e)⟩, ⟨m2, p2.isList.at fun o e => up _ o (hk _ o e)⟩, ⟨m3, p3.isList.at fun o e => up _ o (hk _ o e)⟩, .inl ⟨up _ _ hz, _, _, _, up _ _ hTO⟩⟩
        · have hk3 : ∀ b o, s1.heap.get? b = some o → h2.get? b = some o := fun b o e => hk2 b o (fun hm => by
            have lt := Heap.lt_size e
            simp only [List.mem_cons, List.not_mem_nil, or_false] at hm
            rcases hm with r | r | r | r | r <;> rw [r] at lt <;> first | exact absurd lt (Nat.not_lt.mpr (Nat.le_add_right _ _)) | exact absurd lt (Nat.lt_irrefl _)) (hk b o e)
          have hsz' : s1.heap.objs.size ≤ h'.objs.size := by omega
          have hP : ∀ (j : Nat) (vs : Array Value) (u : List V), (zip3L xs ys zs)[j]? = some u → (∃ x1 x2 x3, its.toArray[j]? = some x1 ∧ its2.toArray[j]? = some x2 ∧ its3.toArray[j]? = some x3 ∧ vs = #[x1, x2, x3]) → u.length ≤ sizeLine ∧ ∃ its : List Value, vs = its.toArray ∧ Vals u its := by
            intro j vs u hu hv
            obtain ⟨x1, x2, x3, f1, f2, f3, rfl⟩ := hv
            unfold zip3L at hu
            rw [List.getElem?_map] at hu
            have hj : j < min (min xs.length ys.length) zs.length := by
              rcases Nat.lt_or_ge j (min (min xs.length ys.length) zs.length) with h | h
              · exact h
              · rw [List.getElem?_eq_none (by rw [List.length_range]; exact h)] at hu
                cases hu
            rw [List.getElem?_range hj] at hu
            cases hu
            have gt : ∀ {us : List V} {is : List Value} {v : Value}, Vals us is → j < us.length → is.toArray[j]? = some v → RelV (us.getD j .non) v := fun {us is v} r hlt e => by
              obtain ⟨v', e1, e2⟩ := r.get (List.getElem?_eq_getElem hlt)
              rw [List.getElem?_toArray, e1] at e
              cases e
              rw [List.getD_eq_getElem?_getD, List.getElem?_eq_getElem hlt]
              exact e2
            exact ⟨by show 3 ≤ sizeLine; rw [sizeLine_eq]; decide, [x1, x2, x3], rfl, .cons (gt rv (by omega) f1) (.cons (gt rv2 (by omega) f2) (.cons (gt rv3 (by omega) f3) .nil))⟩
          obtain ⟨k1, k2, k3, J⟩ := tups_laid (tk := tk) (r := zip3L xs ys zs) I1 hsz' (by unfold zip3L; rw [List.length_map, List.length_range]; omega) hP (by rw [hl, lenz]) hk3 hS hG hacc
          exact ⟨.ref _, _, J, rfl, q _ as k1 k2 k3 (by rw [hl, lenz])⟩
end TL
namespace TL
open PySem PySem.Spec PyProof.Rows L2
section
variable {A : Amb} {G H G' H' : Hp} {σ : L2.St} {env : Env} {P P' : Nat → As}
theorem put_fixed : ∀ (ts : List Addr) (wss : List (List V)) (dss : List (List D)) {G H : Hp}, SR A G H σ env P → (∀ t ∈ ts, H t = none) → ts.Nodup → ts.length = wss.length → Paired (fun (ws : List V) (ds : List D) => Reps A.c G ds ws) wss dss →
    ∃ G2, SR A G2 (putZ H ts wss) σ env P ∧ Ex G G2 ∧ Stp G H (uP P) G2 (putZ H ts wss) (uP P) ∧ Reps A.c G2 (dss.map D.tup) (ts.map V.ref)
  | [], [], _, G, H, s, _, _, _, .nil => ⟨G, s, Ex.refl _, Stp.refl, rfl⟩
  | [], _ :: _, _, _, _, _, _, _, h, _ => by cases h
  | _ :: _, [], _, _, _, _, _, _, h, _ => by cases h
  | t :: ts, ws :: wss, ds :: dss, G, H, s, hn, nd, hl, .cons r rs => by
    have nd' := List.nodup_cons.mp nd
    have ht := hn t List.mem_cons_self
    have e1 : Ex G (upd G t (.tup ws)) := ex_upd (s.gnone ht)
    have s1 : SR A (upd G t (.tup ws)) (upd H t (.tup ws)) σ env P := s.fixed_new ht
    obtain ⟨G2, s2, x2, st2, rp⟩ := put_fixed ts wss dss s1 (fun u hu => by
      rw [upd_ne (fun (q : u = t) => nd'.1 (by rw [← q]; exact hu))]
      exact hn u (List.mem_cons_of_mem _ hu)) nd'.2 (Nat.succ.inj hl) (L2.Paired.mapP rs fun a b h => Reps.mono e1 h)
    exact ⟨G2, s2, e1.trans x2, (Stp.fixed_new s ht).trans st2, .ref t, _, rfl, ⟨t, ws, rfl, x2 _ _ upd_same, Reps.mono (e1.trans x2) r⟩, rp⟩
theorem we_listZip3 {ta : TA} {Post : T → Env → Prop} (h : WA A ta env fun as e => ∃ t1 t2 t3 ds es fs, as = [.t t1, .t t2, .t t3] ∧ t1.data = .lst ds ∧ t2.data = .lst es ∧ t3.data = .lst fs ∧ Post (F (.lst ((List.range (min (min ds.length es.length) fs.length)).map fun i => .tup [ds.getD i .non, es.getD i .non, fs.getD i .non]))) e) : WE A (tListZip3 A.c.K ta) env Post := fun G H σ P s Q k => by
  refine h G H σ P s _ fun as e vs G1 H1 P1 F1 p1 r1 => ?_
  obtain ⟨t1, t2, t3, ds, es, fs, rfl, h1, h2, h3, hp⟩ := p1
  obtain ⟨s2, st2, rp⟩ := fixA r1.sr r1.tm (ts := [t1, t2, t3]) rfl
  obtain ⟨w1, r', e1, rp1, w2, r2, e2, rp2, w3, r3, e3, rp3, rp4⟩ := rp
  cases rp4
  subst e3 e2 e1
  rw [h1] at rp1
  rw [h2] at rp2
  rw [h3] at rp3
  obtain ⟨p1, ws1, rfl, hp1, hr1⟩ := rp1
  obtain ⟨p2, ws2, rfl, hp2, hr2⟩ := rp2
  obtain ⟨p3, ws3, rfl, hp3, hr3⟩ := rp3
  refine ⟨p1, p2, p3, ws1, ws2, ws3, rfl, SqL.of (s2.le _ _ hp1), SqL.of (s2.le _ _ hp2), SqL.of (s2.le _ _ hp3), fun p ts n1 n2 nd hl => ?_⟩
  have l1 := reps_len hr1
  have l2 := reps_len hr2
  have l3 := reps_len hr3
  have s3 := s2.fixed_new (o := .lst (ts.map V.ref)) n1
  have x3 := ex_upd (o := .lst (ts.map V.ref)) (s2.gnone n1)
  have pr : ∀ k : Nat, k ≤ min (min ds.length es.length) fs.length → Paired (fun (ws : List V) (qs : List D) => Reps A.c (upd (frzH G1 H1 F1) p (.lst (ts.map V.ref))) qs ws) ((List.range' (min (min ds.length es.length) fs.length - k) k).map fun i => [ws1.getD i .non, ws2.getD i .non, ws3.getD i .non]) ((List.range' (min (min ds.length es.length) fs.length - k) k).map fun i => [ds.getD i .non, es.getD i .non, fs.getD i .non]) := by
    intro k
    induction k with
    | zero => exact fun _ => .nil
    | succ k ih =>
      intro hk
      have ih' := ih (by omega)
      rw [show min (min ds.length es.length) fs.length - k = min (min ds.length es.length) fs.length - (k + 1) + 1 by omega] at ih'
      rw [List.range'_succ]
      refine .cons ?_ ih'
      have hj : min (min ds.length es.length) fs.length - (k + 1) < min (min ds.length es.length) fs.length := by omega
      generalize min (min ds.length es.length) fs.length - (k + 1) = j at hj
      obtain ⟨v1, hv1, q1⟩ := reps_at hr1 (j := j) (d := ds.getD j .non) (by rw [List.getD_eq_getElem?_getD, List.getElem?_eq_getElem (by omega)]; rfl)
      obtain ⟨v2, hv2, q2⟩ := reps_at hr2 (j := j) (d := es.getD j .non) (by rw [List.getD_eq_getElem?_getD, List.getElem?_eq_getElem (by omega)]; rfl)
      obtain ⟨v3, hv3, q3⟩ := reps_at hr3 (j := j) (d := fs.getD j .non) (by rw [List.getD_eq_getElem?_getD, List.getElem?_eq_getElem (by omega)]; rfl)
      refine ⟨_, _, rfl, ?_, _, _, rfl, ?_, _, _, rfl, ?_, rfl⟩
      · rw [show ws1.getD j .non = v1 by rw [List.getD_eq_getElem?_getD, hv1]; rfl]; exact q1.mono x3
      · rw [show ws2.getD j .non = v2 by rw [List.getD_eq_getElem?_getD, hv2]; rfl]; exact q2.mono x3
      · rw [show ws3.getD j .non = v3 by rw [List.getD_eq_getElem?_getD, hv3]; rfl]; exact q3.mono x3
  have pr' := pr _ (Nat.le_refl _)
  rw [Nat.sub_self, ← List.range_eq_range'] at pr'
  have ez : zip3L ws1 ws2 ws3 = (List.range (min (min ds.length es.length) fs.length)).map fun i => [ws1.getD i .non, ws2.getD i .non, ws3.getD i .non] := by
    unfold zip3L
    rw [← l1, ← l2, ← l3]
  rw [ez] at hl ⊢
  obtain ⟨G4, s4, x4, st4, rp⟩ := put_fixed ts _ _ s3 (fun t ht => by
    rw [upd_ne (n2 t ht).2]
    exact (n2 t ht).1) nd hl pr'
  rw [List.map_map] at rp
  refine k _ _ _ _ _ _ noF hp ⟨s4, ?_, .flat ⟨p, _, rfl, x4 _ _ upd_same, rp⟩ fun _ z => nomatch z⟩
  have stA := (r1.st.trans st2).trans ((Stp.fixed_new s2 n1).trans st4)
  exact stA.wk (fun _ z => z) fun a z => by
    rcases z with z | z
    · exact .inl z
    · exact z.elim
end
/-! ### two names stored at once -/
theorem sw_par {env : PySem.Env} {x y : PySem.Str} {a b : PySem.Expr} {px py pt pt2 : Pos} {kt k2} (hk : env.blockKind = .function) (hx : env.scope.names.lookup x = some .local) (hy : env.scope.names.lookup y = some .local) (hxy : ¬ y = x) (hl : py.line = px.line)
    (hs : ([a, b].any fun | .Starred .. => true | _ => false) = false) (hf : [a, b].all (foldedForSure 8) = false) (hc : [a, b].all (constantsAlone 8) = false) : swappedStores [.Tuple [.Name x px, .Name y py] kt pt] (.Tuple [a, b] k2 pt2) env = pure (some [x, y]) := by
  have e1 : env.kindOf x = some .local := hx
  have e2 : env.kindOf y = some .local := hy
  have e3 : ([Expr.Name x px, Expr.Name y py].filterMap fun | .Name id pos => if env.kindOf id == some .local && pos.line == px.line then some id else none | _ => none) = [x, y] := by
    simp [List.filterMap_cons, e1, e2, hl]
  have e4 : ([x, y] : List Str).eraseDups = [x, y] := by
    rw [List.eraseDups_cons]
    have : ([y].filter fun b => !b == x) = [y] := by simp [hxy]
    rw [this, List.eraseDups_cons]
    rfl
  unfold swappedStores
  simp only [hk]
  show (do
    if ([a, b].any fun | .Starred .. => true | _ => false) then return none
    let names := [Expr.Name x px, Expr.Name y py].filterMap fun | .Name id pos => if env.kindOf id == some .local && pos.line == px.line then some id else none | _ => none
    if names.length != 2 || names.eraseDups.length != names.length then return none
    if [a, b].all (foldedForSure 8) then return none
    if [a, b].all (constantsAlone 8) then unsupported "assign.tuple-of-constant-expressions:order-of-the-stores"
    return some names : Sem (Option (List Str))) = _
  rw [e3]
  simp only [hs, e4, hf, hc]
  rfl
theorem sw_none {env : PySem.Env} {x y : PySem.Str} {a b : PySem.Expr} {px py pt pt2 : Pos} {kt k2} (hk : env.blockKind = .function) (hx : ¬ (env.scope.names.lookup x = some .local ∧ env.scope.names.lookup y = some .local))
    (hs : ([a, b].any fun | .Starred .. => true | _ => false) = false) : swappedStores [.Tuple [.Name x px, .Name y py] kt pt] (.Tuple [a, b] k2 pt2) env = pure none := by
  have e3 : (([Expr.Name x px, Expr.Name y py].filterMap fun | .Name id pos => if env.kindOf id == some .local && pos.line == px.line then some id else none | _ => none).length != 2) = true := by
    have hx' : ¬ (env.kindOf x = some .local ∧ env.kindOf y = some .local) := hx
    by_cases e1 : env.kindOf x = some .local
    · have e2 : ¬ env.kindOf y = some .local := fun q => hx' ⟨e1, q⟩
      have e2' : (env.kindOf y == some .local) = false := by simpa using e2
      simp [List.filterMap_cons, e1, e2]
    · have e1' : (env.kindOf x == some .local) = false := by simpa using e1
      simp only [List.filterMap_cons, List.filterMap_nil, e1', Bool.false_and, Bool.false_eq_true, if_false]
      split <;> rfl
  unfold swappedStores
  simp only [hk]
  show (do
    if ([a, b].any fun | .Starred .. => true | _ => false) then return none
    let names := [Expr.Name x px, Expr.Name y py].filterMap fun | .Name id pos => if env.kindOf id == some .local && pos.line == px.line then some id else none | _ => none
    if names.length != 2 || names.eraseDups.length != names.length then return none
    if [a, b].all (foldedForSure 8) then return none
    if [a, b].all (constantsAlone 8) then unsupported "assign.tuple-of-constant-expressions:order-of-the-stores"
    return some names : Sem (Option (List Str))) = _
  simp only [hs, e3, Bool.true_or, if_true]
  rfl
/-! ### slices of one's own list of fixed things -/
theorem we_slF {A : Amb} {env : Env} {Post : T → Env → Prop} {n : Nat} {tl th : TO} (hn : ∃ t, env[n]? = some (some t)) (h : WP A tl env fun lo e => WP A th e fun hi e => ∃ ds : List D, e[n]? = some (some (.lst (ds.map F))) ∧ Post (.lst ((cutL ds lo hi).map F)) e) : WE A (tSl (rSlA A.c.K) (tVar n) tl th) env Post := fun G H σ P s Q k => by
  obtain ⟨t, ht⟩ := hn
  obtain ⟨v, hv, _⟩ := s.slot n t ht
  refine ⟨v, hv, ?_⟩
  refine h G H σ P s _ fun lo e2 G2 H2 P2 p2 s2 st2 => p2 G2 H2 σ P2 s2 _ fun hi e3 G3 H3 P3 p3 s3 st3 => ?_
  obtain ⟨ds, he, p3⟩ := p3
  obtain ⟨p, ws, hσ, hp, rp, _⟩ := slotF s3 he
  rw [hv] at hσ
  cases hσ
  refine .inl ⟨p, ws, rfl, SqL.of hp, fun l hl => ?_⟩
  have r := alloc_frzs (vs := cutV ws lo hi) (ds := cutL ds lo hi) s3 (by unfold cutV cutL; rw [reps_len rp]; exact reps_take _ (reps_drop _ rp)) (U0 := uP P3) (fun _ z => z) hl
  exact k _ _ _ _ _ _ _ p3 ⟨r.sr, (st2.trans st3).trans r.st, r.tm⟩
theorem we_slR {A : Amb} {env : Env} {Post : T → Env → Prop} {n : Nat} {tl th : TO} (hn : ∃ t, env[n]? = some (some t)) (h : WP A tl env fun lo e => WP A th e fun hi e => ∃ m f, e[n]? = some (some (rT m f)) ∧ Post (.lst ((cutL ((List.range m).map f) lo hi).map F)) e) : WE A (tSl (rSlA A.c.K) (tVar n) tl th) env Post :=
  we_slF hn fun G H σ P s Q k => h G H σ P s Q fun lo e2 G2 H2 P2 p2 s2 st2 => k lo e2 G2 H2 P2 (fun G H σ P s Q k => p2 G H σ P s Q fun hi e3 G3 H3 P3 ⟨m, f, e0, p3⟩ s3 st3 => k hi e3 G3 H3 P3 ⟨_, by rw [rT_eq]; exact e0, p3⟩ s3 st3) s2 st2
/-! ### a row of one's own rows, cut -/
def PartIs (A : Amb) (env : Env) (tp : TO) (b : Option Int) : Prop := ∀ G H σ P, SR A G H σ env P → ∀ Q : Option Int → Hp → Prop, Q b H → tp σ H Q
theorem part_no {A : Amb} {env : Env} : PartIs A env tNoPart none := fun _ _ _ _ _ _ q => q
theorem part_var {A : Amb} {env : Env} {i : Nat} {k : Int} {o : Option V} (h : env[i]? = some (some (.frz o (.int k)))) : PartIs A env (tPart (tVar i)) (some k) := fun G H σ P s Q q => by
  obtain ⟨v, hv, tv⟩ := s.slot i _ h
  have e : v = .int k := tv.1
  exact ⟨v, hv, k, e, q⟩
theorem we_slRow {A : Amb} {env : Env} {Post : T → Env → Prop} {n ny y h w : Nat} {f : Nat → Nat → D} {oy : Option V} {tl th : TO} {lo hi : Option Int} (he : env[n]? = some (some (dT h w f))) (hy : env[ny]? = some (some (.frz oy (.int (y : Int))))) (h1 : y < h) (hl : PartIs A env tl lo) (hh : PartIs A env th hi)
    (q : Post (.lst ((cutL ((List.range w).map (f y)) lo hi).map F)) env) : WE A (tSl (rSlA A.c.K) (tOp (rIxA A.c.K) (tVar n) (tVar ny)) tl th) env Post := fun G H σ P s Q k => by
  have hj : ((List.range h).map fun y => rT w (f y))[y]? = some (.lst (((List.range w).map (f y)).map F)) := by
    rw [List.getElem?_map, List.getElem?_range h1]
    show some (rT w (f y)) = _
    rw [rT_eq]
  obtain ⟨p, vs, a, ws, hσ, hp, hv, ha, rp, _, _⟩ := slot_rowD s he hj
  obtain ⟨vy, hvy, ty⟩ := s.slot ny _ hy
  have ey : vy = .int (y : Int) := ty.1
  subst ey
  refine ⟨_, hσ, _, hvy, .inl (.inl ⟨p, vs, (y : Int), .ref a, rfl, rfl, SqL.of hp, atI_nat' hv, ?_⟩)⟩
  refine hl G H σ P s _ (hh G H σ P s _ (.inl ⟨a, ws, rfl, SqL.of ha, fun l hn => ?_⟩))
  have r := alloc_frzs (vs := cutV ws lo hi) (ds := cutL ((List.range w).map (f y)) lo hi) s (by unfold cutV cutL; rw [reps_len rp]; exact reps_take _ (reps_drop _ rp)) (U0 := uP P) (fun _ z => z) hn
  exact k _ _ _ _ _ _ _ q ⟨r.sr, r.st, r.tm⟩
end TL
/-! TP: texts split, cut at a sign, begun with a text; int(text). -/
namespace TL
open PySem PySem.Spec PyProof.Rows L2
def rSSplit : V → List V → Hp → VK → Prop := fun x xs H Q => ∃ a b, x = .str a ∧ xs = [.str b] ∧ (b.length == 0) = false ∧ a.length + 2 ≤ sizeLine ∧ rNewStrs (Txt.split a b) H Q
theorem mt_ssplit {X : Cx} : MtR X "str.split" rSSplit := mt_split
def rSPart : V → List V → Hp → VK → Prop := fun x xs H Q => ∃ a b, x = .str a ∧ xs = [.str b] ∧ (b.length == 0) = false ∧ a.length ≤ sizeLine ∧ ∀ p, H p = none → Q (.ref p) (upd H p (.tup [.str (Txt.partition a b).1, .str (Txt.partition a b).2.1, .str (Txt.partition a b).2.2]))
theorem mt_spartition {X : Cx} : MtR X "str.partition" rSPart := mt_partition
def rSStarts : V → List V → Hp → VK → Prop := fun x xs H Q => ∃ a b, x = .str a ∧ xs = [.str b] ∧ Q (.bl (Txt.startswith a b)) H
theorem mt_sstartswith {X : Cx} : MtR X "str.startswith" rSStarts := mt_startswith
theorem reps_S {c : Cn} {G : Hp} : ∀ ys : List Str, Reps c G (ys.map D.str) (ys.map V.str)
  | [] => rfl
  | y :: ys => ⟨.str y, _, rfl, rfl, reps_S ys⟩
section
variable {A : Amb} {G H : Hp} {σ : L2.St} {P : Nat → As} {env : Env} {te ta tb : TE} {tr : TA} {Post : T → Env → Prop}
theorem we_ssplit (h : WE A te env fun t e => ∃ o x, t = .frz o (.str x) ∧ x.length ≤ 1000000 ∧ WA A tr e fun as e => ∃ o2 b, as = [.t (.frz o2 (.str b))] ∧ b.length ≠ 0 ∧ Post (.lst ((Txt.split x b).map S)) e) : WE A (tBM A.c.K "str" rSSplit te tr) env Post := fun G H σ P s Q k => by
  refine h G H σ P s _ fun t e v G1 H1 P1 F1 p1 r1 => ?_
  obtain ⟨o, x, rfl, hx, p1⟩ := p1
  have ev : v = .str x := r1.tm.tr.1
  subst ev
  refine ⟨?_, p1 G1 H1 σ P1 r1.sr _ fun as e2 vs G2 H2 P2 F2 p2 r2 => ?_⟩
  · exact rfl
  obtain ⟨o2, b, rfl, hb, q⟩ := p2
  obtain ⟨_, _, rfl, _, tr⟩ := r2.tm.tr.one
  refine ⟨x, b, rfl, by rw [tr.1], beq_eq_false_iff_ne.mpr hb, by rw [sizeLine_eq]; omega, fun p hn => ?_⟩
  have r := alloc_frzs (vs := (Txt.split x b).map V.str) r2.sr (reps_S (Txt.split x b)) (U0 := uP P2) (fun _ z => z) hn
  rw [List.map_map] at r
  exact k _ _ _ _ _ _ _ q ⟨r.sr, (r1.drop.trans r2.drop).trans r.st, r.tm⟩
theorem we_spart (h : WE A te env fun t e => ∃ o x, t = .frz o (.str x) ∧ x.length ≤ 1000000 ∧ WA A tr e fun as e => ∃ o2 b, as = [.t (.frz o2 (.str b))] ∧ b.length ≠ 0 ∧ Post (F (.tup [.str (Txt.partition x b).1, .str (Txt.partition x b).2.1, .str (Txt.partition x b).2.2])) e) : WE A (tBM A.c.K "str" rSPart te tr) env Post := fun G H σ P s Q k => by
  refine h G H σ P s _ fun t e v G1 H1 P1 F1 p1 r1 => ?_
  obtain ⟨o, x, rfl, hx, p1⟩ := p1
  have ev : v = .str x := r1.tm.tr.1
  subst ev
  refine ⟨?_, p1 G1 H1 σ P1 r1.sr _ fun as e2 vs G2 H2 P2 F2 p2 r2 => ?_⟩
  · exact rfl
  obtain ⟨o2, b, rfl, hb, q⟩ := p2
  obtain ⟨_, _, rfl, _, tr⟩ := r2.tm.tr.one
  refine ⟨x, b, rfl, by rw [tr.1], beq_eq_false_iff_ne.mpr hb, by rw [sizeLine_eq]; omega, fun p hn => ?_⟩
  have r := alloc_tup (vs := [V.str (Txt.partition x b).1, V.str (Txt.partition x b).2.1, V.str (Txt.partition x b).2.2]) r2.sr (reps_S [(Txt.partition x b).1, (Txt.partition x b).2.1, (Txt.partition x b).2.2]) (U0 := uP P2) (fun _ z => z) hn
  exact k _ _ _ _ _ _ _ q ⟨r.sr, (r1.drop.trans r2.drop).trans r.st, r.tm⟩
theorem we_sstarts (h : WE A te env fun t e => ∃ o x, t = .frz o (.str x) ∧ WA A tr e fun as e => ∃ o2 b, as = [.t (.frz o2 (.str b))] ∧ Post (B (Txt.startswith x b)) e) : WE A (tBM A.c.K "str" rSStarts te tr) env Post := fun G H σ P s Q k => by
  refine h G H σ P s _ fun t e v G1 H1 P1 F1 p1 r1 => ?_
  obtain ⟨o, x, rfl, p1⟩ := p1
  have ev : v = .str x := r1.tm.tr.1
  subst ev
  refine ⟨?_, p1 G1 H1 σ P1 r1.sr _ fun as e2 vs G2 H2 P2 F2 p2 r2 => ?_⟩
  · exact rfl
  obtain ⟨o2, b, rfl, q⟩ := p2
  obtain ⟨_, _, rfl, _, tr⟩ := r2.tm.tr.one
  exact ⟨x, b, rfl, by rw [tr.1], k _ _ _ _ _ _ noF q ⟨r2.sr, r1.drop.trans r2.drop |>.wk (fun _ z => z) fun a z => by rcases z with z | z; exact .inl z; exact z.elim, .flat rfl fun _ z => nomatch z⟩⟩
theorem wc_int_text {x : Str} {n : Int} {o : Option V} (hn : PySem.intText? x = some n) (hl : x.length ≤ 640) (q : Post (I n) env) : WC A rIntA [.t (.frz o (.str x))] env Post :=
  wc_one (f := fun _ _ _ => True) (d := .str x) (d' := .int n) rfl (fun _ => rfl) (fun H y e Q q => .inr ⟨x, n, by rw [show y = .str x from e], hn, hl, q⟩) q
end
end TL
/-! TQ: repr of data that holds dicts (of plain things, by ints and texts). -/
namespace L2
open PySem PySem.Spec PyProof.Rows
def keyPy : Key → PyData
  | .inl i => .int i
  | .inr x => .str x
inductive DpK (K : PySem.W.Frag) (H : Hp) : List (Key × V) → List (PyData × PyData) → Prop
  | nil : DpK K H [] []
  | cons {k : Key} {v : V} {d : PyData} {r : List (Key × V)} {s : List (PyData × PyData)} : Dp K H v d → DpK K H r s → DpK K H ((k, v) :: r) ((keyPy k, d) :: s)
mutual
inductive DpE (K : PySem.W.Frag) (H : Hp) : V → PyData → Prop
  | pl {v : V} {d : PyData} : Dp K H v d → d.hasDict = false → DpE K H v d
  | li {a : Addr} {xs : List V} {ds : List PyData} : SqL K H a xs → DpEs K H xs ds → DpE K H (.ref a) (.list ds)
  | tu {a : Addr} {xs : List V} {ds : List PyData} : SqT K H a xs → DpEs K H xs ds → DpE K H (.ref a) (.tuple ds)
  | dc {a : Addr} {ks : List (Key × V)} {ds : List (PyData × PyData)} : Rd H a (.dK ks) → DpK K H ks ds → PyData.hasDictAll (ds.map (·.2)) = false → DpE K H (.ref a) (.dict ds)
inductive DpEs (K : PySem.W.Frag) (H : Hp) : List V → List PyData → Prop
  | nil : DpEs K H [] []
  | cons {v : V} {vs : List V} {d : PyData} {ds : List PyData} : DpE K H v d → DpEs K H vs ds → DpEs K H (v :: vs) (d :: ds)
end
section
variable {X : Cx} {pins : List (Addr × Obj)} {σ : St} {H : Hp} {s : Shared}
theorem DpK.rd (I : Inv X pins σ H s) : ∀ {ks : List (Key × V)} {ds : List (PyData × PyData)} {vs : List (Key × Value)} {es : List DictEntry}, DpK X.K H ks ds → KV ks vs → Pairs (mixKind X.prog X.w) es vs →
    (∃ as, ReadsAll s.heap (es.map (·.key)) (ds.map (·.1)) as) ∧ ∃ bs, ReadsAll s.heap (es.map (·.val)) (ds.map (·.2)) bs
  | _, _, _, _, .nil, r, p => by
    cases r
    cases p
    exact ⟨⟨_, .nil⟩, _, .nil⟩
  | _, _, _, _, .cons (k := k) h1 h2, r, p => by
    cases r with
    | cons r1 r2 =>
      cases p with
      | cons p1 p2 p3 =>
        obtain ⟨⟨as, qa⟩, bs, qb⟩ := DpK.rd I h2 r2 p3
        obtain ⟨cs, qc⟩ := Dp.reads I _ _ _ h1 r1.2
        rw [← p2] at qc
        rw [← r1.1] at p1
        refine ⟨?_, _, .cons qc qb⟩
        have p1 : keyIs k _ = true := p1
        rcases keyIs_shape p1 with ⟨i, t, e1, e2⟩ | ⟨x, t, e1, e2⟩
        · subst e1
          exact ⟨_, .cons (by dsimp only; rw [e2]; exact .int i t) qa⟩
        · subst e1
          exact ⟨_, .cons (by dsimp only; rw [e2]; exact .str x t) qa⟩
theorem keys_nd : ∀ {K : PySem.W.Frag} {H : Hp} {ks : List (Key × V)} {ds : List (PyData × PyData)}, DpK K H ks ds → PyData.hasDictAll (ds.map (·.1)) = false
  | _, _, _, _, .nil => by simp only [List.map_nil, PyData.hasDictAll]
  | _, _, _, _, .cons (k := k) _ h => by
    have e := keys_nd h
    cases k <;> simp only [List.map_cons, keyPy, PyData.hasDictAll, PyData.hasDict, e, Bool.or_self]
def Shp (s : Shared) (p : Program) (w : World) (u : Value) (d : PyData) : Prop := (∃ as, Reads s.heap u d as) ∧ ∃ bs, ReadAtMost s.heap d.depth bs ∧ ReprK p w bs s.heap d.depth u d.shown
def Shps (s : Shared) (p : Program) (w : World) (us : List Value) (ds : List PyData) : Prop := (∃ as, ReadsAll s.heap us ds as) ∧ ∃ bs, ReadAtMost s.heap (PyData.depthAll ds) bs ∧ ReprAllK p w bs s.heap (PyData.depthAll ds) us (PyData.shownAll ds)
/-- a dict of plain things -/
theorem shp_dc (I : Inv X pins σ H s) {a : Addr} {ks : List (Key × V)} {ds : List (PyData × PyData)} (h1 : Rd H a (.dK ks)) (h2 : DpK X.K H ks ds) (h3 : PyData.hasDictAll (ds.map (·.2)) = false) (hs : (PyData.dict ds).showable = true) (hz : (PyData.dict ds).shown.length ≤ sizeLine) :
    ∃ as o es n b12, Reads s.heap (.ref a) (.dict ds) as ∧ s.heap.get? a = some o ∧ o.cls = .type "dict" ∧ o.data = .dict es n ∧ (a == sysModules) = false ∧ a ∉ b12 ∧ ReadAtMost s.heap (PyData.depthKv ds) b12 ∧ ReprEntriesK X.prog X.w b12 s.heap (PyData.depthKv ds) es.toList (PyData.shownKv ds) := by
  obtain ⟨_, lo, vs, kv, o, es, n, e1, ⟨e2, _⟩, e3, _, e5, _⟩ := dk_rd I.hok h1
  obtain ⟨⟨as, ra⟩, bs, rb⟩ := h2.rd I kv e5
  have r : Reads s.heap (.ref a) (.dict ds) _ := .dict e1 e2 e3 ra rb
  have hz2 : (dictText (PyData.shownKv ds)).length ≤ sizeLine := by simpa only [PyData.shown] using hz
  obtain ⟨s1, s2⟩ := PyData.showableKv_split ds (by simpa [PyData.showable] using hs)
  obtain ⟨b1, m1, k1⟩ := ReprAllK.of_readsAll (prog := X.prog) (w := X.w) ra s1 (fun z => absurd ((keys_nd h2).symm.trans z) Bool.false_ne_true) fun t ht => by
    obtain ⟨p, hp, hl⟩ := PyData.shownKv_key_le ds t ht
    exact Nat.le_trans hl (Nat.le_trans (dictText_mem_le hp) hz2)
  obtain ⟨b2, m2, k2⟩ := ReprAllK.of_readsAll (prog := X.prog) (w := X.w) rb s2 (fun z => absurd (h3.symm.trans z) Bool.false_ne_true) fun t ht => by
    obtain ⟨p, hp, hl⟩ := PyData.shownKv_val_le ds t ht
    exact Nat.le_trans hl (Nat.le_trans (dictText_mem_le hp) hz2)
  have m : ReadAtMost s.heap (PyData.depthKv ds) (b1 ++ b2) := (m1.mono (PyData.depthAll_keys_le ds)).append (m2.mono (PyData.depthAll_vals_le ds))
  refine ⟨_, o, es, n, b1 ++ b2, r, e1, e2, e3, lo, not_mem_of_deeper r (by simp only [PyData.depth]; omega) m, m, ?_⟩
  rw [PyData.shownKv_eq]
  exact ReprEntriesK.of_two es.toList _ _ (k1.more_le (fun b h => List.mem_append_left _ h) (PyData.depthAll_keys_le ds)) (k2.more_le (fun b h => List.mem_append_right _ h) (PyData.depthAll_vals_le ds))
mutual
theorem DpE.shp (I : Inv X pins σ H s) : ∀ (d : PyData) (v : V) (u : Value), DpE X.K H v d → RelV v u → d.showable = true → d.shown.length ≤ sizeLine → Shp s X.prog X.w u d
  | d, v, u, .pl h1 h2, r, hs, hz => by
    obtain ⟨as, rd⟩ := Dp.reads I d v u h1 r
    exact ⟨⟨as, rd⟩, ReprK.of_reads rd hs (fun z => absurd (h2.symm.trans z) Bool.false_ne_true) hz⟩
  | .list ds, _, u, .li (a := a) h1 h2, r, hs, hz => by
    cases r
    obtain ⟨its, rv, ⟨o, n, e1, e2, _, e3⟩, _⟩ := I.list h1
    have hz2 : (listText (PyData.shownAll ds)).length ≤ sizeLine := by simpa only [PyData.shown] using hz
    obtain ⟨⟨as, ra⟩, bs, m, k⟩ := DpEs.shps I ds _ its h2 rv (by simpa [PyData.showable] using hs) fun t ht => Nat.le_trans (listText_mem_le ht) hz2
    have rd : Reads s.heap (.ref a) (.list ds) _ := .list e1 e2 e3 ra
    refine ⟨⟨_, rd⟩, a :: bs, ReadAtMost.cons rd (by simp only [PyData.depth]; omega) m, ?_⟩
    have na := not_mem_of_deeper rd (by simp only [PyData.depth]; omega) m
    simp only [PyData.depth, PyData.shown]
    cases its with
    | nil =>
      cases ra
      simp only [PyData.shownAll, listText_nil]
      exact .listEmpty e1 e2 e3
    | cons x l => exact .list e1 e2 e3 na (by simpa using k.length_eq) fun i y e => k.item i y (by simpa using e)
  | .tuple ds, _, u, .tu (a := a) h1 h2, r, hs, hz => by
    cases r
    obtain ⟨its, rv, ⟨o, e1, e2, n, e3⟩, _⟩ := I.tuple h1
    have hz2 : (tupleText (PyData.shownAll ds)).length ≤ sizeLine := by simpa only [PyData.shown] using hz
    obtain ⟨⟨as, ra⟩, bs, m, k⟩ := DpEs.shps I ds _ its h2 rv (by simpa [PyData.showable] using hs) fun t ht => Nat.le_trans (tupleText_mem_le ht) hz2
    have rd : Reads s.heap (.ref a) (.tuple ds) _ := .tuple e1 e2 e3 ra
    refine ⟨⟨_, rd⟩, a :: bs, ReadAtMost.cons rd (by simp only [PyData.depth]; omega) m, ?_⟩
    have na := not_mem_of_deeper rd (by simp only [PyData.depth]; omega) m
    simp only [PyData.depth, PyData.shown]
    exact .tuple e1 e2 e3 na k
  | .dict ds, _, u, .dc (a := a) h1 h2 h3, r, hs, hz => by
    cases r
    obtain ⟨as, o, es, n, bs, rd, e1, e2, e3, lo, na, m, k⟩ := shp_dc I h1 h2 h3 hs hz
    refine ⟨⟨_, rd⟩, a :: bs, ReadAtMost.cons rd (by simp only [PyData.depth]; omega) m, ?_⟩
    simp only [PyData.depth, PyData.shown]
    exact .dict e1 e2 e3 lo na k
theorem DpEs.shps (I : Inv X pins σ H s) : ∀ (ds : List PyData) (vs : List V) (us : List Value), DpEs X.K H vs ds → Vals vs us → PyData.showableAll ds = true → (∀ t ∈ PyData.shownAll ds, t.length ≤ sizeLine) → Shps s X.prog X.w us ds
  | [], _, _, .nil, r, _, _ => by
    cases r
    exact ⟨⟨_, .nil⟩, [], (fun _ h => nomatch h), by simp only [PyData.shownAll]; exact .nil⟩
  | d :: ds, _, _, .cons h1 h2, r, hs, hz => by
    cases r with
    | cons r1 r2 =>
      have hs2 : d.showable = true ∧ PyData.showableAll ds = true := by simpa [PyData.showableAll] using hs
      obtain ⟨⟨a1, q1⟩, b1, m1, k1⟩ := DpE.shp I d _ _ h1 r1 hs2.1 (hz _ (by simp only [PyData.shownAll]; exact List.mem_cons_self))
      obtain ⟨⟨a2, q2⟩, b2, m2, k2⟩ := DpEs.shps I ds _ _ h2 r2 hs2.2 fun t ht => hz t (by simp only [PyData.shownAll]; exact List.mem_cons_of_mem _ ht)
      refine ⟨⟨_, .cons q1 q2⟩, b1 ++ b2, ?_, ?_⟩
      · simp only [PyData.depthAll]
        exact (m1.mono (Nat.le_max_left _ _)).append (m2.mono (Nat.le_max_right _ _))
      · simp only [PyData.depthAll, PyData.shownAll]
        exact .cons ((k1.more fun b h => List.mem_append_left _ h).level_le (Nat.le_max_left _ _)) (k2.more_le (fun b h => List.mem_append_right _ h) (Nat.le_max_right _ _))
end
end
end L2
namespace TL
open PySem PySem.Spec PyProof.Rows L2
def rReprZ (K : PySem.W.Frag) : List V → Hp → VK → Prop := fun xs H Q => ∃ v d, xs = [v] ∧ DpE K H v d ∧ d.showable = true ∧ d.depth ≤ 100 ∧ d.shown.length ≤ sizeLine ∧ Q (.str d.shown) H
theorem call_reprZ {X : Cx} (hg : X.A.guards = some []) (hu : X.A.units + 200 < cLine) : CallR X (.builtin "repr") (rReprZ X.K) := by
  intro pins s σ H xs us Q I r ⟨v, d, e, hd, hs, hp, hz, q⟩
  subst e
  obtain ⟨u, rfl, ru⟩ := vals1 r
  have fin : ∀ (h' : Heap) (u : PySem.Tok) (tk : Nat), (∀ b o, s.heap.get? b = some o → h'.get? b = some o) → _ := fun h' u tk hk => (⟨.str d.shown, H, I.kept hk, ⟨u, rfl⟩, q⟩ : EP X pins σ Q (.str d.shown u) { s with heap := h', toks := tk })
  cases hd with
  | pl h1 h2 =>
    obtain ⟨as, rd⟩ := Dp.reads I d v u h1 ru
    cases u with
    | ref a => exact PySem.repr_of_reads' rd hs (fun z => absurd (h2.symm.trans z) Bool.false_ne_true) hg (by omega) (fun _ _ e => e) fin hz
    | _ => exact repr_flat rd hs hz (fun _ z => nomatch z) fun tk u => ⟨.str d.shown, H, I.tok tk, ⟨u, rfl⟩, q⟩
  | @li a xs ds h1 h2 =>
    cases ru
    obtain ⟨its, rv, ⟨o, n, e1, e2, _, e3⟩, _⟩ := I.list h1
    simp only [PyData.shown, PyData.depth] at hz hp fin
    obtain ⟨⟨as, ra⟩, bs, m, k⟩ := DpEs.shps I ds _ its h2 rv (by simpa [PyData.showable] using hs) fun t ht => Nat.le_trans (listText_mem_le ht) hz
    have rd : Reads s.heap (.ref a) (.list ds) _ := .list e1 e2 e3 ra
    have na := not_mem_of_deeper rd (by simp only [PyData.depth]; omega) m
    refine PySem.call_repr_slot (T := "list") (idr := "list.__repr__") (by omega) ⟨o, e1, e2⟩ F.slot_list_repr.toG ?_
    cases its with
    | nil =>
      cases ra
      simp only [PyData.shownAll, listText_nil] at fin
      exact call_list_repr_empty ⟨o, e1, e2⟩ e1 e3 ⟨_, _, rfl, fin s.heap _ _ fun _ _ e => e⟩
    | cons x l => exact call_list_reprK e1 e2 e3 na (by simpa using k.length_eq) (fun i y e => k.item i y (by simpa using e)) hg (fun b _ => Clear.nil b) (by show X.A.units + 1 + _ < _; omega) (fun _ _ e => e) (fun h' u tk hk => ⟨_, _, rfl, fin h' u tk hk⟩) hz
  | @tu a xs ds h1 h2 =>
    cases ru
    obtain ⟨its, rv, ⟨o, e1, e2, n, e3⟩, _⟩ := I.tuple h1
    simp only [PyData.shown, PyData.depth] at hz hp fin
    obtain ⟨⟨as, ra⟩, bs, m, k⟩ := DpEs.shps I ds _ its h2 rv (by simpa [PyData.showable] using hs) fun t ht => Nat.le_trans (tupleText_mem_le ht) hz
    have rd : Reads s.heap (.ref a) (.tuple ds) _ := .tuple e1 e2 e3 ra
    have na := not_mem_of_deeper rd (by simp only [PyData.depth]; omega) m
    exact PySem.call_repr_slot (T := "tuple") (idr := "tuple.__repr__") (by omega) ⟨o, e1, e2⟩ F.slot_tuple_repr (call_tuple_reprK e1 e2 e3 na k hg (fun b _ => Clear.nil b) (by show X.A.units + 1 + _ < _; omega) (fun _ _ e => e) (fun h' u tk hk => ⟨_, _, rfl, fin h' u tk hk⟩) hz)
  | @dc a ks ds h1 h2 h3 =>
    cases ru
    obtain ⟨as, o, es, n, bs, rd, e1, e2, e3, lo, na, m, k⟩ := shp_dc I h1 h2 h3 hs hz
    simp only [PyData.shown, PyData.depth] at hz hp fin
    exact PySem.call_repr_slot (T := "dict") (idr := "dict.__repr__") (by omega) ⟨o, e1, e2⟩ F.slot_dict_repr (call_dict_reprK e1 e2 e3 lo na k hg (fun b _ => Clear.nil b) (by show X.A.units + 1 + _ < _; omega) (fun _ _ e => e) (fun h' u tk hk => ⟨_, _, rfl, fin h' u tk hk⟩) hz)
end TL
namespace TL
open PySem PySem.Spec PyProof.Rows L2
def plKs : List (Key × D) → Bool
  | [] => true
  | (_, d) :: r => d.plain && plKs r
def pyKs : List (Key × D) → List (PyData × PyData)
  | [] => []
  | (k, d) :: r => (keyPy k, d.py) :: pyKs r
mutual
def D.plZ : D → Bool
  | .non => true | .bl _ => true | .int _ => true | .str _ => true
  | .lst ds => D.plZs ds
  | .tup ds => D.plZs ds
  | .dik kvs => plKs kvs
  | _ => false
def D.plZs : List D → Bool
  | [] => true
  | d :: ds => d.plZ && D.plZs ds
end
mutual
def D.pyZ : D → PyData
  | .non => .none | .bl b => .bool b | .int i => .int i | .str s => .str s
  | .lst ds => .list (D.pyZs ds)
  | .tup ds => .tuple (D.pyZs ds)
  | .dik kvs => .dict (pyKs kvs)
  | _ => .none
def D.pyZs : List D → List PyData
  | [] => []
  | d :: ds => d.pyZ :: D.pyZs ds
end
mutual
theorem plain_nd : ∀ d : D, d.plain = true → d.py.hasDict = false
  | .non, _ => rfl
  | .bl _, _ => rfl
  | .int _, _ => rfl
  | .str _, _ => rfl
  | .lst ds, h => plains_nd ds h
  | .tup ds, h => plains_nd ds h
  | .dik _, hp => absurd (show false = true from hp) Bool.false_ne_true
  | .dit _, hp => absurd (show false = true from hp) Bool.false_ne_true
  | .ins _ _, hp => absurd (show false = true from hp) Bool.false_ne_true
  | .scr _, hp => absurd (show false = true from hp) Bool.false_ne_true
  | .oth _, hp => absurd (show false = true from hp) Bool.false_ne_true
theorem plains_nd : ∀ ds : List D, D.plains ds = true → PyData.hasDictAll (D.pys ds) = false
  | [], _ => rfl
  | d :: ds, h => by
    obtain ⟨p1, p2⟩ := Bool.and_eq_true_iff.mp (show (d.plain && D.plains ds) = true from h)
    show (d.py.hasDict || PyData.hasDictAll (D.pys ds)) = false
    rw [plain_nd d p1, plains_nd ds p2]
    rfl
end
mutual
theorem plain_Z : ∀ d : D, d.plain = true → d.plZ = true ∧ d.pyZ = d.py
  | .non, _ => ⟨rfl, rfl⟩
  | .bl _, _ => ⟨rfl, rfl⟩
  | .int _, _ => ⟨rfl, rfl⟩
  | .str _, _ => ⟨rfl, rfl⟩
  | .lst ds, h => ⟨(plains_Z ds h).1, congrArg PyData.list (plains_Z ds h).2⟩
  | .tup ds, h => ⟨(plains_Z ds h).1, congrArg PyData.tuple (plains_Z ds h).2⟩
  | .dik _, hp => absurd (show false = true from hp) Bool.false_ne_true
  | .dit _, hp => absurd (show false = true from hp) Bool.false_ne_true
  | .ins _ _, hp => absurd (show false = true from hp) Bool.false_ne_true
  | .scr _, hp => absurd (show false = true from hp) Bool.false_ne_true
  | .oth _, hp => absurd (show false = true from hp) Bool.false_ne_true
theorem plains_Z : ∀ ds : List D, D.plains ds = true → D.plZs ds = true ∧ D.pyZs ds = D.pys ds
  | [], _ => ⟨rfl, rfl⟩
  | d :: ds, h => by
    obtain ⟨p1, p2⟩ := Bool.and_eq_true_iff.mp (show (d.plain && D.plains ds) = true from h)
    refine ⟨?_, ?_⟩
    · show (d.plZ && D.plZs ds) = true
      rw [(plain_Z d p1).1, (plains_Z ds p2).1]
      rfl
    · show d.pyZ :: D.pyZs ds = d.py :: D.pys ds
      rw [(plain_Z d p1).2, (plains_Z ds p2).2]
end
theorem RepK.dpK {c : Cn} {H : Hp} : ∀ (kvs : List (Key × D)) (ks : List (Key × V)), RepK c H kvs ks → plKs kvs = true → DpK c.K H ks (pyKs kvs) ∧ PyData.hasDictAll ((pyKs kvs).map (·.2)) = false
  | [], ks, h, _ => by
    have e : ks = [] := h
    rw [e]
    exact ⟨.nil, rfl⟩
  | (k, d) :: r, ks, h, hp => by
    obtain ⟨v, r', e, h1, h2⟩ := h
    obtain ⟨p1, p2⟩ := Bool.and_eq_true_iff.mp (show (d.plain && plKs r) = true from hp)
    obtain ⟨q1, q2⟩ := RepK.dpK r r' h2 p2
    rw [e]
    refine ⟨.cons (h1.dp p1) q1, ?_⟩
    show (d.py.hasDict || PyData.hasDictAll ((pyKs r).map (·.2))) = false
    rw [plain_nd d p1, q2]
    rfl
mutual
theorem Rep.dpE {c : Cn} {H : Hp} : ∀ (d : D) (v : V), Rep c H d v → d.plZ = true → DpE c.K H v d.pyZ
  | .non, v, h, _ => .pl (Rep.dp (d := .non) h rfl) rfl
  | .bl b, v, h, _ => .pl (Rep.dp (d := .bl b) h rfl) rfl
  | .int i, v, h, _ => .pl (Rep.dp (d := .int i) h rfl) rfl
  | .str x, v, h, _ => .pl (Rep.dp (d := .str x) h rfl) rfl
  | .lst ds, v, h, hp => by
    obtain ⟨a, vs, e, h1, h2⟩ := h
    rw [e]
    exact .li (SqL.of h1) (Reps.dpEs ds vs h2 hp)
  | .tup ds, v, h, hp => by
    obtain ⟨a, vs, e, h1, h2⟩ := h
    rw [e]
    exact .tu (SqT.of h1) (Reps.dpEs ds vs h2 hp)
  | .dik kvs, v, h, hp => by
    obtain ⟨a, ks, e, h1, h2⟩ := h
    rw [e]
    obtain ⟨q1, q2⟩ := RepK.dpK kvs ks h2 hp
    exact .dc h1 q1 q2
  | .dit _, _, _, hp => absurd (show false = true from hp) Bool.false_ne_true
  | .ins _ _, _, _, hp => absurd (show false = true from hp) Bool.false_ne_true
  | .scr _, _, _, hp => absurd (show false = true from hp) Bool.false_ne_true
  | .oth _, _, _, hp => absurd (show false = true from hp) Bool.false_ne_true
theorem Reps.dpEs {c : Cn} {H : Hp} : ∀ (ds : List D) (vs : List V), Reps c H ds vs → D.plZs ds = true → DpEs c.K H vs (D.pyZs ds)
  | [], vs, h, _ => by
    have e : vs = [] := h
    rw [e]
    exact .nil
  | d :: ds, vs, h, hp => by
    obtain ⟨v, r, e, h1, h2⟩ := h
    obtain ⟨p1, p2⟩ := Bool.and_eq_true_iff.mp (show (d.plZ && D.plZs ds) = true from hp)
    rw [e]
    exact .cons (Rep.dpE d v h1 p1) (Reps.dpEs ds r h2 p2)
end
/-- data that repr shows, dicts of plain things among it -/
structure D.okZ (d : D) : Prop where
  pl : d.plZ = true
  sh : d.pyZ.showable = true
  dp : d.pyZ.depth ≤ 100
  ln : d.pyZ.shown.length ≤ sizeLine
theorem D.ok.Z {d : D} (h : d.ok) : d.okZ := by
  obtain ⟨h1, h2, h3, h4, h5⟩ := h
  obtain ⟨e1, e2⟩ := plain_Z d h1
  exact ⟨e1, by rw [e2]; exact h2, by rw [e2]; exact h4, by rw [e2]; exact h5⟩
section
variable {A : Amb} {env : Env} {Post : T → Env → Prop}
theorem wc_reprZ {a : Ar} {d : D} (h : arD env a = some d) (hd : d.okZ) (q : Post (S d.pyZ.shown) env) : WC A (rReprZ A.c.K) [a] env Post :=
  wc_one (f := fun _ _ _ => True) (d' := .str d.pyZ.shown) h (fun _ => rfl) (fun H x e Q q => ⟨x, d.pyZ, rfl, Rep.dpE d x e hd.pl, hd.sh, hd.dp, hd.ln, q⟩) q
theorem fi_reprZ {t : T} {d : D} (e : t.data = d) (hd : d.okZ) (q : Post (S d.pyZ.shown) env) : WC A (rReprZ A.c.K) [.t t] env Post := wc_reprZ (by subst e; rfl) hd q
end
/-- enumerate(list) of things told by a function -/
theorem wi_enumF {A : Amb} {env : Env} {tr : TA} {Post : Nat → (Nat → D) → Env → Prop} (h : WA A tr env fun as e => ∃ t n f, as = [.t t] ∧ t.data = .lst ((List.range n).map f) ∧ Post n (fun i => .tup [.int i, f i]) e) : WI A (iEnum A.c.K tr) env Post :=
  wi_cg (wi_enum (wa_imp h fun as e ⟨t, n, f, e0, e1, p⟩ => ⟨t, _, e0, e1, fun i => .tup [.int i, f i], fun i hi => by
    show D.tup [D.int i, ((List.range n).map f).getD i D.non] = D.tup [D.int i, f i]
    rw [getD_map (by simpa using hi)], by rw [List.length_map, List.length_range]; exact p⟩))
end TL
namespace TL
open PySem PySem.Spec PyProof.Rows L2
/-! one step at the level of trees; hK : A.keep = .. -/
local macro_rules | `(tactic| walk_at "pre") => `(tactic| first | assumption | omega | walk_at "ok" | exact ⟨_, rfl⟩ | exact box_mk (by omega) (by omega) (by omega) (by omega) (by omega) | exact box_up (by assumption) (by omega) | exact congrArg D.lst (datas_I _) | exact gT_data | rfl | walk_at "len" | (with_unfolding_all decide))
local macro_rules | `(tactic| walk_at "ff") => `(tactic| first
  | (show ffX _ _ _ _ _; dsimp only [ffX, backT, List.set])
  | (show ffM _ _ _ _ (FO.ret _ _); refine ⟨rfl, _, _, rfl, ?_⟩; dsimp only [backT, List.set])
  | (show ffM _ _ _ _ _; dsimp only [ffM, backT, List.set, List.tail])
  | (refine ⟨_, _, rfl, ?_⟩; try dsimp only [backT, List.set])
  | skip)
local macro_rules | `(tactic| walk_at "xx") => `(tactic| first
  | (refine wsx_raise1 (by assumption) (by with_unfolding_all decide) (by with_unfolding_all decide) (by assumption) ?_)
  | (refine wsx_raise2 (by assumption) (by with_unfolding_all decide) (by with_unfolding_all decide) (by with_unfolding_all decide) (by with_unfolding_all decide) (by assumption) ?_))
local macro_rules | `(tactic| walk_at "xt") => `(tactic| first
  | (refine wsx_tryAs0 (by assumption) (by with_unfolding_all decide) ?_; intro _ _ _ _ _)
  | (refine wsx_tryAs (by assumption) (by assumption) (by with_unfolding_all decide) ?_; intro _ _ _ _ _)
  | (refine wsx_tryAsE0 (by assumption) (by with_unfolding_all decide) ?_; intro _ _ _ _ _)
  | (refine wsx_tryAsE (by assumption) (by assumption) (by with_unfolding_all decide) ?_; intro _ _ _ _ _))
local macro_rules | `(tactic| walk_at "xa") => `(tactic| first
  | (refine xAs_yes (by assumption) (by with_unfolding_all decide) (by with_unfolding_all rfl) ?_; intro _ _ _ _ _ _ _ _; dsimp only [List.set])
  | (refine xAs_no (by assumption) (by with_unfolding_all decide) ?_))
local macro_rules | `(tactic| walk_at "slen") => `(tactic| fail)
local macro_rules | `(tactic| walk_at "ok") => `(tactic| assumption)
local macro_rules | `(tactic| walk_at "typ") => `(tactic| first | assumption | exact ⟨_, rfl⟩)
local macro_rules | `(tactic| walk_at "br") => `(tactic| first
  | (refine br_dec (fun h_ => ?_) (fun h_ => ?_) <;> try (with_reducible exact absurd rfl h_))
  | (refine br_ndec (fun h_ => ?_) (fun h_ => ?_) <;> try (with_reducible exact absurd rfl h_))
  | (refine br_decF (fun h_ => ?_) (fun h_ => ?_) <;> try (with_reducible exact absurd rfl h_))
  | (refine br_ndecF (fun h_ => ?_) (fun h_ => ?_) <;> try (with_reducible exact absurd rfl h_))
  | (refine br_nndec (fun h_ => ?_) (fun h_ => ?_) <;> try (with_reducible exact absurd rfl h_))
  | (refine br_T ?_) | (refine br_F ?_) | (refine br_T' ?_) | (refine br_F' ?_)
  | (refine br_nT ?_) | (refine br_nF ?_) | (refine br_nT' ?_) | (refine br_nF' ?_)
  | (refine br_n (fun h_ => ?_) (fun h_ => ?_) <;> try (with_unfolding_all (cases h_; done)))
  | (refine br_nn (fun h_ => ?_) (fun h_ => ?_) <;> try (with_unfolding_all (cases h_; done)))
  | (refine ⟨fun h_ => ?_, fun h_ => ?_⟩ <;> try (with_unfolding_all (cases h_; done))))
local macro_rules | `(tactic| walk_at "ws") => `(tactic| first
  | (refine ws_fldN (by with_unfolding_all rfl) (by with_unfolding_all rfl) (by walk_at "len") (by assumption) (by decide) (by with_unfolding_all decide) ?_)
  | refine ws_seq ?_ | refine ws_asg ?_ | refine ws_if ?_ | refine ws_ret ?_ | refine ws_drop ?_
  | refine ws_next ?_ | refine ws_retN ?_ | refine ws_break ?_ | refine ws_cont ?_)
local macro_rules | `(tactic| walk_at "vw") => `(tactic| simp only [List.map_cons, List.map_nil, vw, T.data, T.datas, datas_I, datas_F, datas_rg])
local macro_rules | `(tactic| walk_at "rst") => `(tactic| (dsimp only [wipeE, restore, List.set]; try simp only [List.getElem?_cons_succ, List.getElem?_cons_zero, frzO]))
local macro_rules | `(tactic| walk_at "clean") => `(tactic| first | with_unfolding_all rfl | (simp only [T.clean, T.cleans, cleans_I, Bool.and_self, Bool.true_and, Bool.and_true]; done))
local macro_rules | `(tactic| walk_at "len") => `(tactic| ((try simp only [List.length_map, List.length_append, List.length_cons, List.length_nil, List.length_range, List.length_set, two_len, rowL_len, colL_len]) <;> omega))
local macro_rules | `(tactic| walk_at "wt") => `(tactic| first
  | refine wt_test ?_ | refine wt_B ?_ | refine wt_not ?_ | refine wt_and ?_ | refine wt_or ?_ | refine wt_yes ?_)
local macro_rules | `(tactic| walk_at "wo") => `(tactic| first
  | (refine wo_e (we_var (by with_unfolding_all rfl) ?_)) | (refine wo_slot ⟨_, by with_unfolding_all rfl⟩ ?_) | refine wo_e ?_)
local macro_rules | `(tactic| walk_at "we") => `(tactic| first
  | refine we_int ?_ | refine we_bl ?_ | refine we_str ?_ | refine we_non ?_ | refine we_oth ?_
  | (refine we_var (by with_unfolding_all rfl) ?_)
  | refine we_op ?_ | refine we_un ?_ | refine we_cb ?_ | refine we_not ?_ | refine we_and ?_ | refine we_or ?_ | refine we_if ?_ | refine we_chain ?_
  | refine we_call ?_ | refine we_callN ?_ | refine we_callX (by assumption) ?_ | refine we_methX (by assumption) ?_ | refine we_makeX (by assumption) ?_ | refine we_meth ?_ | refine we_mk0 ?_ | refine we_makeF ?_
  | (refine we_fldV (by with_unfolding_all rfl) (by with_unfolding_all rfl) (by assumption) (by decide) (by with_unfolding_all decide) ?_)
  | (refine we_fldT (by with_unfolding_all rfl) (by with_unfolding_all rfl) (by assumption) (by decide) (by with_unfolding_all decide) ?_)
  | refine we_lst ?_ | refine we_tup3 ?_ | refine we_dictK ?_
  | (refine we_appendI (by with_unfolding_all rfl) ?_) | (refine we_append (by with_unfolding_all rfl) ?_) | (refine we_extend (by with_unfolding_all rfl) ?_)
  | (refine we_appendX (by with_unfolding_all rfl) (by decide) (by with_unfolding_all rfl) (by walk_at "len") ?_; dsimp only [List.set, setT, Int.reduceToNat])
  | (refine we_clear (by with_unfolding_all rfl) ?_; dsimp only [List.set])
  | (refine we_clearX (by with_unfolding_all rfl) (by decide) (by with_unfolding_all rfl) ?_; dsimp only [List.set, setT, Int.reduceToNat])
  | refine we_rev ?_ | refine we_even ?_ | refine we_odd ?_ | refine we_sl ?_ | (refine we_fix (by with_unfolding_all rfl) ?_; dsimp only [T.data]; try simp only [datas_I, datas_F]))
local macro_rules | `(tactic| walk_at "wa") => `(tactic| first | refine wa_nil ?_ | refine wa_cons ?_)
local macro_rules | `(tactic| walk_at "wr") => `(tactic| first
  | refine wr_and1 ?_ | refine wr_I0 ?_ | refine wr_Ib ?_ | refine wr_add_int ?_
  | (refine wr_eqI (by first | with_unfolding_all exact congrArg some (congrArg D.lst (datas_I _)) | with_unfolding_all rfl) (by first | with_unfolding_all exact congrArg some (congrArg D.lst (datas_I _)) | with_unfolding_all rfl) ?_)
  | refine wr_ne_nil ?_ | refine wr_eq_int ?_ | refine wr_ne_int ?_ | refine wr_eq_bl ?_ | refine wr_ne_bl ?_ | refine wr_eq_str ?_ | refine wr_ne_str ?_
  | (refine wr_mod (by omega) ?_; intro r_ hr_ hr0_ hr1_)
  | (refine wr_div (cdivw (by omega) (by omega)) ?_)
  | (refine wr_mul (by first | exact cmul1 (by omega) (by omega) | exact cmul2 (by omega) (by omega)) ?_)
  | (refine wr_pow (cpow (by omega) (by omega) (by omega) (by omega)) rfl ?_; try dsimp only [Int.reduceToNat, Int.reducePow])
  | (refine wr_ix_slot (by with_unfolding_all rfl) (by with_unfolding_all rfl) ?_)
  | (refine wr_ix_slotI (by with_unfolding_all rfl) (by omega) (by walk_at "len") ?_; try dsimp only [Int.reduceToNat])
  | (refine wr_ix_slotL (by with_unfolding_all rfl) (by with_unfolding_all rfl) (by first | assumption | exact ne_len (by walk_at "len") | simp) ?_; try simp only [gi_last])
  | (refine wr_ix_frzI (by omega) (by walk_at "len") ?_; try dsimp only [Int.reduceToNat])
  | (refine wr_ix_frzM (by omega) (by walk_at "len") ?_; try dsimp only [Int.reduceToNat])
  | (refine wr_ix_frzML (by with_unfolding_all rfl) (by walk_at "len") ?_)
  | (refine wr_isN (by with_unfolding_all rfl) (by with_unfolding_all rfl) ?_) | (refine wr_notN (by with_unfolding_all rfl) (by with_unfolding_all rfl) ?_)
  | (refine wr_repR (by assumption) (by assumption) ?_) | (refine wr_ix_pick (by assumption) (by assumption) ?_) | (refine wr_add_str (by first | omega | walk_at "slen") ?_)
  | (refine wr_nePr ?_) | (refine wr_eqPr ?_) | (refine wr_ix_sgn (by omega) (by walk_at "len") (by omega) ?_)
  | refine wr_inRB ?_ | refine wr_inPB ?_ | refine wr_niRPB ?_
  | (refine wr_ix_frzL (by with_unfolding_all rfl) (by first | assumption | exact ne_len (by walk_at "len") | simp) ?_)
  | (refine wr_ix_tmpIx (by omega) (by walk_at "len") ?_; try dsimp only [Int.reduceToNat])
  | (refine wr_ix_tmpT (by with_unfolding_all rfl) ?_)
  | (refine wr_catX (by with_unfolding_all rfl) (by first | with_unfolding_all exact congrArg D.lst (datas_I _) | with_unfolding_all rfl | exact congrArg D.lst (intsD_eq (by with_unfolding_all rfl))) (by with_unfolding_all rfl) (by first | with_unfolding_all exact congrArg D.lst (datas_I _) | with_unfolding_all rfl | exact congrArg D.lst (intsD_eq (by with_unfolding_all rfl))) (by walk_at "len") ?_)
  | (refine wr_catL (by with_unfolding_all rfl) (by first | with_unfolding_all exact congrArg D.lst (datas_I _) | with_unfolding_all rfl) (by repeat (first | exact int_n | apply int_c)) (by walk_at "len") ?_)
  | (refine wr_catM (by repeat (first | exact int_n | apply int_c)) (by with_unfolding_all rfl) (by first | with_unfolding_all exact congrArg D.lst (datas_I _) | with_unfolding_all rfl) (by walk_at "len") ?_)
  | (refine wr_niS (by with_unfolding_all rfl) (by with_unfolding_all (first | exact Or.inl (congrArg D.lst (strsD_eq (by repeat (first | exact str_n | apply str_c)))) | exact Or.inr (congrArg D.tup (strsD_eq (by repeat (first | exact str_n | apply str_c)))))) ?_)
  | (refine wr_inS (by with_unfolding_all rfl) (by with_unfolding_all (first | exact Or.inl (congrArg D.lst (strsD_eq (by repeat (first | exact str_n | apply str_c)))) | exact Or.inr (congrArg D.tup (strsD_eq (by repeat (first | exact str_n | apply str_c)))))) ?_)
  | (refine wr_inT (by with_unfolding_all rfl) ?_)
  | (refine wr_ix_frz (by with_unfolding_all rfl) ?_)
  | (refine wr_ix_tup (by with_unfolding_all rfl) ?_)
  | (refine wr_ix_scrI (by omega) (by omega) ?_; intro n_ hn_)
  | (refine wr_ix_tmpI (by with_unfolding_all rfl) (by omega) (by simp only [List.length_cons, List.length_nil] <;> omega) ?_; intro n_ hn_; simp only [List.mem_cons, List.mem_nil_iff, or_false] at hn_)
  | (refine wr_ix_tmpD (by omega) (by simp only [List.length_cons, List.length_nil] <;> omega) ?_; intro d_ hd_))
local macro_rules | `(tactic| walk_at "wc") => `(tactic| first
  | (refine fi_int (by walk_at "typ") ?_) | (refine fi_bool (by walk_at "typ") ?_) | (refine fi_str (by walk_at "typ") ?_) | (refine fi_list (by walk_at "typ") ?_) | (refine fi_tuple (by walk_at "typ") ?_)
  | (refine fi_reprT gT_data (by walk_at "ok") ?_)
  | refine fl_lstI ?_ | (refine fl_slotI (by with_unfolding_all rfl) ?_) | refine fl_tmpI ?_ | (refine fl_lst ?_; try simp only [datas_len]) | refine fl_tup ?_ | refine fl_scr ?_ | refine fl_tmp ?_ | (refine fl_tmpT ?_; simp only [List.length_cons, List.length_nil]) | (refine fl_slot (by with_unfolding_all rfl) ?_) | (refine fl_slotT (by with_unfolding_all rfl) ?_; simp only [List.length_cons, List.length_nil]) | (refine fs_ll (by with_unfolding_all rfl) ?_) | (refine fs_tt (by with_unfolding_all rfl) ?_) | (refine fl_str (by walk_at "pre") ?_)
  | (refine wcx_plain (by walk_at "typ") (by assumption) (by with_unfolding_all decide) ?_)
  | (refine fi_own (bo := true) (by assumption) (by decide) (by decide) (by with_unfolding_all decide) ?_) | (refine fi_own (bo := false) (by assumption) (by decide) (by decide) (by with_unfolding_all decide) ?_)
  | (refine wc_maxR ?_; intro r_ hr1_ hr2_ hr3_) | (refine wc_minR ?_; intro r_ hr1_ hr2_ hr3_) | refine wc_abs ?_ | refine wc_int_int ?_ | (refine wc_intR ?_; intro r_ hr1_ hr2_)
  | (refine wc_str_int (log2_lt (by omega) (by omega)) ?_)
  | (refine fi_reprX (by simp only [T.data, T.datas, datas_I, datas_F]; walk_at "ok") ?_; simp only [T.data, T.datas, datas_I, datas_F])
  | refine wc_list_frzI ?_ | (refine wc_list_slotI (by with_unfolding_all rfl) ?_) | refine wc_list_frz ?_ | refine wc_list_tup ?_ | refine wc_tup_frz ?_ | (refine fi_repr (by walk_at "ok") ?_))
local macro_rules | `(tactic| walk_at "tl1") => `(tactic| first
  | (show WE _ (tBM _ _ (rCntB _) (tVar _) _) _ _; first | (refine we_cntBn (m := 1) (bs := [_, _, _, _]) (by with_unfolding_all rfl) (by decide) ?_) | (refine we_cntBn (m := 0) (bs := [_, _, _, _]) (by with_unfolding_all rfl) (by decide) ?_) | refine we_cntB (by with_unfolding_all rfl) ?_)
  | (show WS _ (tRet (tVar _)) _ _ _ _ _; with_reducible first | refine ws_ret (we_var (by with_unfolding_all rfl) ?_) | (refine ws_ret (we_move (by with_unfolding_all rfl) ?_); dsimp only [List.set]))
  | (show WS _ (tRaise _ _ _ _) _ _ _ _ _; walk_at "xx")
  | (show WS _ (tTryAs _ _ _ _ _ _) _ _ _ _ _; walk_at "xt")
  | (show WS _ (tTryAsE _ _ _ _ _ _ _) _ _ _ _ _; walk_at "xt")
  | (show WS _ (tTryR _ _ _ _ _ _ _ _) _ _ _ _ _; refine wsx_tryR0 (by assumption) (by with_unfolding_all decide) ?_; intro _ _ _ _ _)
  | (show xAsR _ _ _ _ _ _ _ _ _ _ _ _ _; refine xAsR_yes (by assumption) (by with_unfolding_all decide) (by with_unfolding_all rfl) ?_; intro _ _ _ _ _ _ _ _; dsimp only [List.set])
  | (show xAs _ _ _ _ _ _ _ _ _ _ _ _; walk_at "xa")
  | (show ∃ o d, _ = [Ar.t (T.frz o d)] ∧ _; refine ⟨_, _, rfl, ?_⟩)
  | (show ∃ o d o2 d2, _ = [Ar.t (T.frz o d), Ar.t (T.frz o2 d2)] ∧ _; refine ⟨_, _, _, _, rfl, ?_⟩)
  | (show (∃ o, _ = T.frz o (D.oth _)) ∧ _; refine ⟨⟨_, rfl⟩, ?_⟩)
  | (show WC _ (rIsX _ _ _ _) _ _ _; first | (refine wcx_is (b := true) (by assumption) (by assumption) (by with_unfolding_all decide) (by with_unfolding_all decide) ?_) | (refine wcx_is (b := false) (by assumption) (by assumption) (by with_unfolding_all decide) (by with_unfolding_all decide) ?_) | (refine wcx_ve (by assumption) (by assumption) (by with_unfolding_all decide) ?_))
  | (show WE _ (tXf _ _ _ _ _ _) _ _; refine wex_f (by assumption) (by assumption) (by with_unfolding_all rfl) ?_)
  | (show WS _ _ _ _ _ _ _; with_reducible walk_at "ws")
  | (show WE _ (tCB (rRepr _) _) _ _; refine we_view fun _ _ => ?_; walk_at "vw"; refine we_cb ?_)
  | (show WE _ (tCB (rReprZ _) _) _ _; refine we_view fun _ _ => ?_; walk_at "vw"; refine we_cb ?_)
  | (show WE _ (tOrE (tMeth _ _ _ _ _ _ _) _) _ _; walk_at "any")
  | (show WE _ (tOrE (tMeth _ _ _ _ _ _ _) _) _ _; refine we_meth4 (by assumption) ?_)
  | (show WE _ (tCall _ _ _ _) _ _; walk_at "view")
  | (show WE _ (tMeth _ _ _ _ _ _ _) _ _; walk_at "view")
  | (show WE _ _ _ _; with_reducible walk_at "we")
  | (show WO _ _ _ _; with_reducible walk_at "wo")
  | (show WA _ (tCons (tVar _) _) _ fun as e => ∃ ts t, tmps _ = some ts ∧ _ ∧ mkTup ts = t ∧ _; with_reducible refine wa_cons ?_; with_reducible first | (refine wo_e (we_var (by with_unfolding_all rfl) ?_)) | (refine wo_e (we_move (by with_unfolding_all rfl) ?_); dsimp only [List.set]))
  | (show WA _ _ _ _; with_reducible walk_at "wa")
  | (show WT _ _ _ _; with_reducible walk_at "wt")
  | (show WR _ _ _ _ _ _; with_reducible walk_at "wr")
  | (show WC _ _ _ _ _; with_reducible walk_at "wc")
  | (show WU _ _ _ _ _; with_reducible refine wu_I ?_)
  | (show WG _ _ _ _ _ _; with_reducible first | (refine wg_nameK (by with_unfolding_all rfl) (by assumption) (by with_unfolding_all decide) ?_; dsimp only [List.set]) | (refine wg_subI ?_ (by with_unfolding_all rfl)) | (refine wg_sub ?_ ⟨_, by with_unfolding_all rfl⟩) | (refine wg_tup (by with_unfolding_all rfl) ?_) | (refine wg_tupO (by with_unfolding_all rfl) ?_))
  | (show WGs _ _ _ _ _ _; with_reducible first | refine wgs_nil ?_ | refine wgs_cons ?_)
  | (show WGT _ _ _ _ _ _; with_reducible first | refine wgt_nil ?_ | refine wgt_cons ?_)
  | (show WE _ (tSl _ _ _ _) _ _; with_reducible refine we_sl ?_)
  | (show WP _ _ _ _; with_reducible first | refine wp_no ?_ | refine wp_part ?_)
  | (show instO _ _ _ _ ∧ _; refine ⟨by with_unfolding_all exact ⟨rfl, rfl⟩, ?_⟩)
  | (show _[_]? = some (some (T.ins _ _)) ∧ _; refine ⟨by with_unfolding_all rfl, ?_⟩; dsimp only [List.set, List.cons_append, List.nil_append])
  | (show ∃ ns : List Int, _[_]? = some (some (T.lst (List.map I ns))) ∧ _; refine ⟨_, by with_unfolding_all rfl, ?_⟩)
  | (show T.clean _ = true ∧ _; refine ⟨by walk_at "clean", ?_⟩)
  | (show ∃ b, _ = B b ∧ _; with_reducible refine ⟨_, rfl, ?_⟩)
  | (show (_ → _) ∧ (_ → _); with_reducible walk_at "br")
  | (show ∃ ov d, Ar.t _ = Ar.t (T.frz ov d) ∧ _; refine ⟨_, _, rfl, ?_⟩)
  | (show ∃ ts, argT _ _ = some ts ∧ _; walk_at "call")
  | (show ∃ ts t, tmps _ = some ts ∧ _ ∧ mkTup ts = t ∧ _; refine ⟨_, _, by repeat (first | exact tmps_n | apply tmps_c), by simp only [List.length_cons, List.length_nil] <;> omega, by first | exact mk_o (by with_unfolding_all rfl) | exact mk_f (by repeat (first | exact frz_n | apply frz_c)), ?_⟩)
  | (show ∃ o x, _ = [Ar.t (T.frz o (D.int x))] ∧ ∃ ns : List Int, _; refine ⟨_, _, rfl, _, by with_unfolding_all rfl, by walk_at "len", ?_⟩; dsimp only [List.set])
  | (show ∃ t ts, _ = [Ar.t t] ∧ _ = some (some (T.lst ts)) ∧ _ ≤ _ ∧ _; refine ⟨_, _, rfl, by with_unfolding_all rfl, by walk_at "len", ?_⟩; dsimp only [List.set])
  | (show ∃ us ts, _ = [Ar.t (T.lst us)] ∧ _ = some (some (T.lst ts)) ∧ _ ≤ _ ∧ _; refine ⟨_, _, rfl, by with_unfolding_all rfl, by walk_at "len", ?_⟩; dsimp only [List.set])
  | (show ∃ o ns, _ = T.frz o (D.lst (List.map D.int ns)) ∧ _; refine ⟨_, _, rfl, ?_⟩)
  | (show ∃ o ds, _ = T.frz o (D.lst ds) ∧ _; refine ⟨_, _, rfl, ?_⟩; try simp only [cutI])
  | (show ∃ ts, tmps _ = some ts ∧ _; refine ⟨_, by repeat (first | exact tmps_n | apply tmps_c), by simp only [List.length_cons, List.length_nil] <;> omega, ?_⟩; try dsimp only [T.datas, T.data])
  | (show ∃ o k, _ = T.frz o (D.int k) ∧ ∃ ts j, _; first | (refine ⟨_, _, rfl, _, _, by with_unfolding_all rfl, by with_unfolding_all rfl, ?_⟩; dsimp only [List.set, Int.reduceToNat]) | (refine ⟨_, _, rfl, _, _, by with_unfolding_all rfl, ixN_ok (by omega) (by walk_at "len"), ?_⟩; dsimp only [List.set, Int.reduceToNat]) | (refine ⟨_, _, rfl, _, _, by with_unfolding_all rfl, ixN_last (by walk_at "len"), ?_⟩; dsimp only [List.set, Int.reduceToNat]))
  | (show ∃ o i, _ = T.frz o (D.int i) ∧ _; refine ⟨_, _, rfl, ?_⟩)
  | fail)
local macro_rules | `(tactic| walk_at "tl") => `(tactic| repeat' walk_at "tl1")
local macro_rules | `(tactic| walk_at "rb") => `(tactic| refine ret_B (by assumption) ?_ (by with_unfolding_all rfl))
abbrev CEL (c : Cn) : Prop := CE c [41] [(41, "found")] [(41, 40, true)] [(41, 41, true), (41, 45, false)] [0]
abbrev CFL (c : Cn) : Prop := CF c [0] [(0, "lines")] [0] [(0, 0, true)]
/- law_take: 0 _law_box_here 1 _law_many 2 _law_far 3 _law_number_here 4 _law_digit -/
def S_law_take : FS := fun ts Post => ∃ m : Nat, ∃ t : T, ∃ k : Int, ts = [t, I k] ∧ (Box m t) ∧ (m ≤ 1000000000) ∧ (0 < k) ∧ (k < 10 ^ 60) ∧ (∀ (r : Int), ∀ (t1 : T), (0 ≤ r) → (r < k) → (Box (m + 1) t1) → Post (.ret (I r) [some (t1), some (I k)]))
theorem c_law_take {m : Nat} {t : T} {k : Int} {Post : FO → Prop} (h0 : Box m t) (h1 : m ≤ 1000000000) (h2 : 0 < k) (h3 : k < 10 ^ 60) (hp : ∀ (r : Int), ∀ (t1 : T), (0 ≤ r) → (r < k) → (Box (m + 1) t1) → Post (.ret (I r) [some (t1), some (I k)])) : S_law_take [t, I k] Post := ⟨_, _, _, rfl, h0, h1, h2, h3, hp⟩
local macro_rules | `(tactic| walk_at "call") => `(tactic| (refine ⟨_, by with_unfolding_all rfl, by rfl, of_decide_eq_true (by with_unfolding_all rfl), c_law_take (by walk_at "pre") (by walk_at "pre") (by walk_at "pre") (by walk_at "pre") ?_⟩; intro r t1 g_0 g_1 g_2; refine ⟨_, _, rfl, ?_⟩; try dsimp only [backT, List.set]))
def t_law_take (c : Cn) : TS :=
  (tSeq (tIfS (tTest (tOp (rI0 fun i j => .bl (decide (j < i))) (tOp (rIxA c.K) (tVar 0) (tC (.int 0))) (tC (.int 0)))) (tSeq (tAsg (tOp (rI (fun _ j => 0 < j) fun i j => .int (i % j)) (tOp (rIxA c.K) (tVar 0) (tC (.int 0))) (tVar 1)) (gName 4))
    (tSeq (tAsg (tOp (rI CDivW fun i j => .int (i / j)) (tOp (rIxA c.K) (tVar 0) (tC (.int 0))) (tVar 1)) (gSub (tVar 0) (tC (.int 0)) rSetL))
    (tRet (tVar 4)))) tNext)
    (tSeq (tAsg (tOp (rAddA c.K) (tOp (rIxA c.K) (tVar 0) (tC (.int 2))) (tC (.int 1))) (gSub (tVar 0) (tC (.int 2)) rSetL))
    (tSeq (tAsg (tOp (rAddA c.K) (tOp (rAddA c.K) (tOp rMulA (tOp (rIxA c.K) (tVar 0) (tC (.int 1))) (tOp (rAddA c.K) (tC (.int 48271)) (tOp rMulA (tC (.int 2)) (tOp (rIxA c.K) (tVar 0) (tC (.int 2)))))) (tOp rMulA (tC (.int 7919)) (tOp (rIxA c.K) (tVar 0) (tC (.int 2))))) (tC (.int 11))) (gName 2))
    (tSeq (tAsg (tOp (rI (fun _ j => 0 < j) fun i j => .int (i % j)) (tOp (rI CPow fun i j => .int (i ^ j.toNat)) (tVar 2) (tC (.int 5))) (tC (.int 2147483629))) (gName 3))
    (tSeq (tAsg (tOp (rI (fun _ j => 0 < j) fun i j => .int (i % j)) (tOp rMulA (tOp (rAddA c.K) (tVar 3) (tOp rMulA (tC (.int 16807)) (tOp (rIxA c.K) (tVar 0) (tC (.int 2))))) (tOp (rAddA c.K) (tVar 3) (tC (.int 3)))) (tC (.int 2147483587))) (gName 3))
    (tRet (tOp (rI (fun _ j => 0 < j) fun i j => .int (i % j)) (tOp (rI CDivW fun i j => .int (i / j)) (tVar 3) (tC (.int 8))) (tVar 1))))))))
theorem w_law_take {c : Cn} (hC : CFL c) (hE : CEL c) : Wk c 2 3 [0, 1] S_law_take (t_law_take c) := by
  rintro ts Post ⟨m, t, k, rfl, h0, h1, h2, h3, hp⟩ - A rfl hK
  show WS A _ [some (t), some (I k), none, none, none] _ _ _ _
  unfold t_law_take
  obtain ⟨a, b, c0, rfl, ha, hb1, hb2, hc1, hc2⟩ := h0
  have hf : 0 ≤ b * (48271 + 2 * (c0 + 1)) ∧ b * (48271 + 2 * (c0 + 1)) ≤ 2147483647 * 2000100000 := ⟨Int.mul_nonneg hb1 (by omega), Int.mul_le_mul (by omega) (by omega) (by omega) (by omega)⟩
  have hq : 0 ≤ a / k := Int.ediv_nonneg ha (by omega)
  walk_at "tl"
  all_goals (exact hp _ _ (by walk_at "pre") (by walk_at "pre") (by walk_at "pre"))
def isWhole : D → Int → Int → Bool
  | .int n, lo, hi => decide (lo ≤ n) && decide (n ≤ hi)
  | _, _, _ => false
def isRow : D → Int → Bool
  | .lst ds, least => decide (least ≤ ds.length) && decide ((ds.length : Int) ≤ 64) && ds.all fun x => isWhole x (-999999999999999) 999999999999999
  | _, _ => false
/- is_whole: 0 thing 1 low 2 high -/
def S_is_whole : FS := fun ts Post => ∃ o : Option V, ∃ d : D, ∃ lo : Int, ∃ hi : Int, ts = [.frz o d, I lo, I hi] ∧ (d.typ) ∧ (Post (.ret (B (isWhole d lo hi)) [some (.frz o d), some (I lo), some (I hi)]))
theorem c_is_whole {o : Option V} {d : D} {lo : Int} {hi : Int} {Post : FO → Prop} (h0 : d.typ) (hp : Post (.ret (B (isWhole d lo hi)) [some (.frz o d), some (I lo), some (I hi)])) : S_is_whole [.frz o d, I lo, I hi] Post := ⟨_, _, _, _, rfl, h0, hp⟩
local macro_rules | `(tactic| walk_at "call") => `(tactic| (refine ⟨_, by with_unfolding_all rfl, by rfl, of_decide_eq_true (by with_unfolding_all rfl), c_is_whole (by walk_at "pre") ?_⟩; refine ⟨_, _, rfl, ?_⟩; try dsimp only [backT, List.set]))
def t_is_whole (c : Cn) : TS :=
  (tSeq (tIfS (tOr (tNot (tB (tCB (rIsi c.K) (tCons (tVar 0) (tCons (tC (.ty "int")) tNil))))) (tB (tCB (rIsi c.K) (tCons (tVar 0) (tCons (tC (.ty "bool")) tNil))))) (tRet (tC (.bl false))) tNext)
    (tRet (tChain (rI0 fun i j => .bl (decide (i ≤ j))) (rI0 fun i j => .bl (decide (i ≤ j))) (tVar 1) (tVar 0) (tVar 2))))
theorem w_is_whole {c : Cn} (hC : CFL c) (hE : CEL c) : Wk c 3 0 [0, 1, 2] S_is_whole (t_is_whole c) := by
  rintro ts Post ⟨o, d, lo, hi, rfl, h0, hp⟩ - A rfl hK
  show WS A _ [some (.frz o d), some (I lo), some (I hi)] _ _ _ _
  unfold t_is_whole
  cases d <;> walk_at "tl"
  all_goals first | exact hp | (walk_at "rb"; simp only [isWhole]; first | (simp [*]; done) | (rw [Bool.eq_iff_iff]; simp; omega))
/- is_row: 0 thing 1 least 2 number -/
def S_is_row : FS := fun ts Post => ∃ o : Option V, ∃ d : D, ∃ least : Int, ts = [.frz o d, I least] ∧ (d.typ) ∧ (∀ ds, d = .lst ds → ∀ x, x ∈ ds → x.typ) ∧ (Post (.ret (B (isRow d least)) [some (.frz o d), some (I least)]))
theorem c_is_row {o : Option V} {d : D} {least : Int} {Post : FO → Prop} (h0 : d.typ) (h1 : ∀ ds, d = .lst ds → ∀ x, x ∈ ds → x.typ) (hp : Post (.ret (B (isRow d least)) [some (.frz o d), some (I least)])) : S_is_row [.frz o d, I least] Post := ⟨_, _, _, rfl, h0, h1, hp⟩
local macro_rules | `(tactic| walk_at "call") => `(tactic| (refine ⟨_, by with_unfolding_all rfl, by rfl, of_decide_eq_true (by with_unfolding_all rfl), c_is_row (by walk_at "pre") (by walk_at "pre") ?_⟩; refine ⟨_, _, rfl, ?_⟩; try dsimp only [backT, List.set]))
def t_is_row (c : Cn) : TS :=
  (tSeq (tIfS (tOr (tNot (tB (tCB (rIsi c.K) (tCons (tVar 0) (tCons (tC (.ty "list")) tNil))))) (tNot (tTest (tChain (rI0 fun i j => .bl (decide (i ≤ j))) (rI0 fun i j => .bl (decide (i ≤ j))) (tVar 1) (tCB (rLenA c.K) (tCons (tVar 0) tNil)) (tC (.int 64)))))) (tRet (tC (.bl false))) tNext)
    (tSeq (tFor (iList c.K (tVar 0)) (gName 2) (tIfS (tNot (tB (tCall (spOf c 3 S_is_whole) [] E0 (tCons (tVar 2) (tCons (tUn (rU fun i => .int (-i)) (tC (.int 999999999999999))) (tCons (tC (.int 999999999999999)) tNil)))))) (tRet (tC (.bl false))) tNext))
    (tRet (tC (.bl true)))))
theorem w_is_row {c : Cn} (hC : CFL c) (hE : CEL c) : Wk c 2 1 [0, 1] S_is_row (t_is_row c) := by
  rintro ts Post ⟨o, d, least, rfl, h0, h1, hp⟩ - A rfl hK
  show WS A _ [some (.frz o d), some (I least), none] _ _ _ _
  unfold t_is_row
  cases d <;> walk_at "tl"
  all_goals first | exact hp | (walk_at "rb"; simp only [isRow]; first | (simp [*]; done) | (simp; omega)) | skip
  rename_i ds hl1 hl2 hl3
  refine ws_for_list (we_var (by with_unfolding_all rfl) ⟨_, rfl, loop_list (fun e0 i e => (∀ x, x ∈ ds.take i → isWhole x (-999999999999999) 999999999999999 = true) ∧ SetsE [2] e0 e) ⟨by simp, _, rfl⟩ ?_ ?_⟩)
  · rintro i x e hx ⟨ha, y, rfl⟩
    have hm := List.mem_of_getElem? hx
    have ht := h1 _ rfl x hm
    dsimp only [List.set]
    walk_at "tl"
    · rename_i h_
      walk_at "rb"
      simp only [isRow]
      rw [all_no hm h_, Bool.and_false]
    · rename_i h_
      exact ⟨take_step hx ha h_, _, rfl⟩
  · rintro e ⟨ha, y, rfl⟩
    walk_at "tl"
    walk_at "rb"
    simp only [isRow]
    rw [all_yes (take_all ha)]
    simp; omega
/- law_cell: 0 _law_script 1 _law_k -/
def S_law_cell : FS := fun ts Post => ∃ ns : List Int, ∃ k : Int, ts = [F (.scr ns), I k] ∧ (0 ≤ k) ∧ (k ≤ 1000) ∧ (∀ (r : Int), Post (.ret (I r) [some (F (.scr ns)), some (I k)]))
theorem c_law_cell {ns : List Int} {k : Int} {Post : FO → Prop} (h0 : 0 ≤ k) (h1 : k ≤ 1000) (hp : ∀ (r : Int), Post (.ret (I r) [some (F (.scr ns)), some (I k)])) : S_law_cell [F (.scr ns), I k] Post := ⟨_, _, rfl, h0, h1, hp⟩
local macro_rules | `(tactic| walk_at "call") => `(tactic| (refine ⟨_, by with_unfolding_all rfl, by rfl, of_decide_eq_true (by with_unfolding_all rfl), c_law_cell (by walk_at "pre") (by walk_at "pre") ?_⟩; intro r; refine ⟨_, _, rfl, ?_⟩; try dsimp only [backT, List.set]))
def t_law_cell (c : Cn) : TS :=
  (tSeq (tIfS (tTest (tOp (rI0 fun i j => .bl (decide (i < j))) (tVar 1) (tCB (rLenA c.K) (tCons (tVar 0) tNil)))) (tRet (tOp (rIxA c.K) (tVar 0) (tVar 1))) tNext)
    (tRet (tOp (rAddA c.K) (tOp rMulA (tC (.int 7919)) (tVar 1)) (tC (.int 31)))))
theorem w_law_cell {c : Cn} (hC : CFL c) (hE : CEL c) : Wk c 2 0 [0, 1] S_law_cell (t_law_cell c) := by
  rintro ts Post ⟨ns, k, rfl, h0, h1, hp⟩ - A rfl hK
  show WS A _ [some (F (.scr ns)), some (I k)] _ _ _ _
  unfold t_law_cell
  walk_at "tl"
  all_goals (exact hp _)
/- law_box: 0 _law_cell_here -/
def S_law_box : FS := fun ts Post => ∃ k : Int, ts = [I k] ∧ (∀ (t : T), (Box 0 t) → Post (.ret (t) [some (I k)]))
theorem c_law_box {k : Int} {Post : FO → Prop}  (hp : ∀ (t : T), (Box 0 t) → Post (.ret (t) [some (I k)])) : S_law_box [I k] Post := ⟨_, rfl, hp⟩
local macro_rules | `(tactic| walk_at "call") => `(tactic| (refine ⟨_, by with_unfolding_all rfl, by rfl, of_decide_eq_true (by with_unfolding_all rfl), c_law_box  ?_⟩; intro t g_0; refine ⟨_, _, rfl, ?_⟩; try dsimp only [backT, List.set]))
def t_law_box (c : Cn) : TS :=
  (tRet (tLst (tCons (tCB rMax2 (tCons (tC (.int 0)) (tCons (tOp (rI0 fun i j => .int (i - j)) (tVar 0) (tOp (rI CPow fun i j => .int (i ^ j.toNat)) (tC (.int 10)) (tC (.int 18)))) tNil))) (tCons (tOp (rI (fun _ j => 0 < j) fun i j => .int (i % j)) (tVar 0) (tC (.int 2147483647))) (tCons (tC (.int 0)) tNil)))))
theorem w_law_box {c : Cn} (hC : CFL c) (hE : CEL c) : Wk c 1 0 [0] S_law_box (t_law_box c) := by
  rintro ts Post ⟨k, rfl, hp⟩ - A rfl hK
  show WS A _ [some (I k)] _ _ _ _
  unfold t_law_box
  walk_at "tl"
  all_goals (exact hp _ (by walk_at "pre"))
/- law_number: 0 _law_box_here 1 _law_way 2 _law_far -/
def S_law_number : FS := fun ts Post => ∃ m : Nat, ∃ t : T, ts = [t] ∧ (Box m t) ∧ (m ≤ 900000000) ∧ (∀ (r : Int), ∀ (t1 : T), (-1000000000000000 < r) → (r < 1000000000000000) → (Box (m + 4) t1) → Post (.ret (I r) [some (t1)]))
theorem c_law_number {m : Nat} {t : T} {Post : FO → Prop} (h0 : Box m t) (h1 : m ≤ 900000000) (hp : ∀ (r : Int), ∀ (t1 : T), (-1000000000000000 < r) → (r < 1000000000000000) → (Box (m + 4) t1) → Post (.ret (I r) [some (t1)])) : S_law_number [t] Post := ⟨_, _, rfl, h0, h1, hp⟩
local macro_rules | `(tactic| walk_at "call") => `(tactic| (refine ⟨_, by with_unfolding_all rfl, by rfl, of_decide_eq_true (by with_unfolding_all rfl), c_law_number (by walk_at "pre") (by walk_at "pre") ?_⟩; intro r t1 g_0 g_1 g_2; refine ⟨_, _, rfl, ?_⟩; try dsimp only [backT, List.set]))
def t_law_number (c : Cn) : TS :=
  (tSeq (tAsg (tCall (spOf c 2 S_law_take) [] E0 (tCons (tVar 0) (tCons (tC (.int 5)) tNil))) (gName 1))
    (tSeq (tIfS (tTest (tOp (rEqA c.K) (tVar 1) (tC (.int 0)))) (tRet (tOp (rI0 fun i j => .int (i - j)) (tCall (spOf c 2 S_law_take) [] E0 (tCons (tVar 0) (tCons (tC (.int 21)) tNil))) (tC (.int 10)))) tNext)
    (tSeq (tIfS (tTest (tOp (rEqA c.K) (tVar 1) (tC (.int 1)))) (tRet (tOp (rIxA c.K) (tLst (tCons (tOp (rI0 fun i j => .int (i - j)) (tOp (rI CPow fun i j => .int (i ^ j.toNat)) (tC (.int 10)) (tC (.int 15))) (tC (.int 1))) (tCons (tOp (rI0 fun i j => .int (i - j)) (tC (.int 1)) (tOp (rI CPow fun i j => .int (i ^ j.toNat)) (tC (.int 10)) (tC (.int 15)))) (tCons (tC (.int 0)) (tCons (tUn (rU fun i => .int (-i)) (tC (.int 1))) tNil))))) (tCall (spOf c 2 S_law_take) [] E0 (tCons (tVar 0) (tCons (tC (.int 4)) tNil))))) tNext)
    (tSeq (tIfS (tTest (tOp (rEqA c.K) (tVar 1) (tC (.int 2)))) (tSeq (tAsg (tOp (rAddA c.K) (tOp rMulA (tCall (spOf c 2 S_law_take) [] E0 (tCons (tVar 0) (tCons (tOp (rI CPow fun i j => .int (i ^ j.toNat)) (tC (.int 10)) (tC (.int 8))) tNil))) (tOp (rI CPow fun i j => .int (i ^ j.toNat)) (tC (.int 10)) (tC (.int 7)))) (tCall (spOf c 2 S_law_take) [] E0 (tCons (tVar 0) (tCons (tOp (rI CPow fun i j => .int (i ^ j.toNat)) (tC (.int 10)) (tC (.int 7))) tNil)))) (gName 2))
    (tRet (tOp (rIxA c.K) (tLst (tCons (tVar 2) (tCons (tOp (rI0 fun i j => .int (i - j)) (tC (.int 0)) (tVar 2)) tNil))) (tCall (spOf c 2 S_law_take) [] E0 (tCons (tVar 0) (tCons (tC (.int 2)) tNil)))))) tNext)
    (tRet (tOp (rI0 fun i j => .int (i - j)) (tCall (spOf c 2 S_law_take) [] E0 (tCons (tVar 0) (tCons (tC (.int 200001)) tNil))) (tC (.int 100000))))))))
theorem w_law_number {c : Cn} (hC : CFL c) (hE : CEL c) : Wk c 1 2 [0] S_law_number (t_law_number c) := by
  rintro ts Post ⟨m, t, rfl, h0, h1, hp⟩ - A rfl hK
  show WS A _ [some (t), none, none] _ _ _ _
  unfold t_law_number
  walk_at "tl"
  all_goals (exact hp _ _ (by walk_at "pre") (by walk_at "pre") (by walk_at "pre"))
theorem isRow_ok {lo : Nat} {ns : List Int} {l : Int} (h : Rw lo ns) (hl : l = lo) : isRow (.lst (ns.map D.int)) l = true := by
  subst hl
  obtain ⟨h1, h2, h3⟩ := h
  simp only [isRow, List.length_map]
  rw [all_yes (p := fun x => isWhole x (-999999999999999) 999999999999999)]
  · simp; omega
  · intro x hx
    obtain ⟨n, hn, rfl⟩ := List.mem_map.mp hx
    have := h3 n hn
    simp only [isWhole]
    simp; omega
theorem c_is_rowI {o : Option V} {ns : List Int} {l : Int} {lo : Nat} {Post : FO → Prop} (h : Rw lo ns) (hl : l = lo) (hp : Post (.ret (B true) [some (.frz o (.lst (ns.map D.int))), some (I l)])) : S_is_row [.frz o (.lst (ns.map D.int)), I l] Post :=
  ⟨o, _, l, rfl, ⟨_, rfl⟩, fun ds e x hx => by cases e; exact ints_typ hx, by rw [isRow_ok h hl]; exact hp⟩
local macro_rules | `(tactic| walk_at "call") => `(tactic| (refine ⟨_, by with_unfolding_all rfl, by rfl, of_decide_eq_true (by with_unfolding_all rfl), c_is_rowI (by assumption) (by rfl) ?_⟩; refine ⟨_, _, rfl, ?_⟩; try dsimp only [backT, List.set]))
def tl1 (ns : List Int) (f : Int → Int) : List Int := if ns.length % 2 = 1 then [f (gi ns (ns.length - 1))] else []
def prs (ns : List Int) : List T := (List.range (ns.length / 2)).map fun k => F (.tup [.int (gi ns (2 * k)), .int (gi ns (2 * k + 1))])
theorem prs_data (ns : List Int) : T.datas (prs ns) = (List.range (ns.length / 2)).map fun k => .tup [.int (gi ns (2 * k)), .int (gi ns (2 * k + 1))] := datas_rg
def rulK (w : Str) (k : Nat) : Prop := (w = "sum" ∧ k = 2) ∨ (w = "half" ∧ k = 3) ∨ (w = "guess" ∧ k = 4) ∨ (w = "lean" ∧ k = 5)
def nxw (c : Nat) (w : Int) : Int := if c = 114 ∨ c = 98 then (w + 1) / 2 else w
def nxh (c : Nat) (h : Int) : Int := if c = 112 ∨ c = 98 then (h + 1) / 2 else h
def cnh (h : Int) (s : Str) : Nat → Int
  | 0 => h
  | i + 1 => nxh (si s i) (cnh h s i)
def cnw (w : Int) (s : Str) : Nat → Int
  | 0 => w
  | i + 1 => nxw (si s i) (cnw w s i)
abbrev crD (h w : Int) (s : Str) (i : Nat) : D := .tup [.int (cnh h s i), .int (cnw w s i)]
abbrev crs (h w : Int) (s : Str) : D := .lst ((List.range (s.length + 1)).map (crD h w s))
structure WayOk (h w : Int) (s : Str) : Prop where
  len : s.length ≤ 20
  ltr : ∀ i, i < s.length → si s i = 114 ∨ si s i = 112 ∨ si s i = 98
  wide : ∀ i, i < s.length → (si s i = 114 ∨ si s i = 98) → 2 ≤ cnw w s i
  high : ∀ i, i < s.length → (si s i = 112 ∨ si s i = 98) → 2 ≤ cnh h s i
structure SizeOk (h w : Int) : Prop where
  h1 : 1 ≤ h
  h2 : h ≤ 64
  w1 : 1 ≤ w
  w2 : w ≤ 64
  hw : h * w ≤ 512
abbrev planD (k : Nat) (h w : Int) (s : Str) : D := .ins 1 [("ruled", .ins k []), ("letters", .str s), ("corners", crs h w s)]
theorem cn_bd {h w : Int} {s : Str} (hz : SizeOk h w) (hs : WayOk h w s) : ∀ {i : Nat}, i ≤ s.length → (1 ≤ cnh h s i ∧ cnh h s i ≤ h) ∧ (1 ≤ cnw w s i ∧ cnw w s i ≤ w)
  | 0, _ => ⟨⟨hz.h1, Int.le_refl _⟩, hz.w1, Int.le_refl _⟩
  | i + 1, hi => by
    have ih := cn_bd hz hs (i := i) (by omega)
    show (1 ≤ nxh (si s i) (cnh h s i) ∧ nxh (si s i) (cnh h s i) ≤ h) ∧ (1 ≤ nxw (si s i) (cnw w s i) ∧ nxw (si s i) (cnw w s i) ≤ w)
    unfold nxh nxw
    constructor
    · split <;> omega
    · split <;> omega
theorem is_p {c : Nat} : (sgn c = Str.ofString "p") = (c = 112) := by rw [show Str.ofString "p" = sgn 112 from sgn_p]; exact sgn_eq
theorem is_r {c : Nat} : (sgn c = Str.ofString "r") = (c = 114) := by rw [show Str.ofString "r" = sgn 114 from sgn_r]; exact sgn_eq
theorem is_b {c : Nat} : (sgn c = Str.ofString "b") = (c = 98) := by rw [show Str.ofString "b" = sgn 98 from sgn_b]; exact sgn_eq
theorem map_rgS {α : Type} {f : Nat → α} {i : Nat} {x : α} (h : x = f i) : (List.range i).map f ++ [x] = (List.range (i + 1)).map f := by rw [List.range_succ, List.map_append, h]; rfl
abbrev fldD (h w : Nat) (f : Gr) : D := .ins 0 [("lines", gD h w f)]
/-- a field's rows -/
structure FdOk (h w : Nat) (f : Gr) : Prop where
  h1 : 1 ≤ h
  h2 : h ≤ 64
  w1 : 1 ≤ w
  w2 : w ≤ 64
  hw : h * w ≤ 512
  b : ∀ y x, y < h → x < w → -999999999999999 ≤ f y x ∧ f y x ≤ 999999999999999
theorem rowL_rw {h w y : Nat} {f : Gr} (hf : FdOk h w f) (hy : y < h) : Rw 1 (rowL f w y) := ⟨by rw [rowL_len]; exact hf.w1, by rw [rowL_len]; exact hf.w2, fun x hx => by
  obtain ⟨i, hi, rfl⟩ := mem_rg hx
  have := hf.b y i hy hi
  omega⟩
/- are_rows: 0 thing 1 row -/
def S_are_rows : FS := fun ts Post => ∃ h : Nat, ∃ w : Nat, ∃ f : Gr, ∃ o : Option V, ts = [.frz o (gD h w f)] ∧ (FdOk h w f) ∧ (Post (.ret (B true) [some (.frz o (gD h w f))]))
theorem c_are_rows {h : Nat} {w : Nat} {f : Gr} {o : Option V} {Post : FO → Prop} (h0 : FdOk h w f) (hp : Post (.ret (B true) [some (.frz o (gD h w f))])) : S_are_rows [.frz o (gD h w f)] Post := ⟨_, _, _, _, rfl, h0, hp⟩
local macro_rules | `(tactic| walk_at "call") => `(tactic| (refine ⟨_, by with_unfolding_all rfl, by rfl, of_decide_eq_true (by with_unfolding_all rfl), c_are_rows (by walk_at "pre") ?_⟩; refine ⟨_, _, rfl, ?_⟩; try dsimp only [backT, List.set]))
def t_are_rows (c : Cn) : TS :=
  (tSeq (tIfS (tOr (tNot (tB (tCB (rIsi c.K) (tCons (tVar 0) (tCons (tC (.ty "list")) tNil))))) (tNot (tTest (tChain (rI0 fun i j => .bl (decide (i ≤ j))) (rI0 fun i j => .bl (decide (i ≤ j))) (tC (.int 1)) (tCB (rLenA c.K) (tCons (tVar 0) tNil)) (tC (.int 64)))))) (tRet (tC (.bl false))) tNext)
    (tSeq (tFor (iList c.K (tVar 0)) (gName 1) (tIfS (tOr (tNot (tB (tCall (spOf c 2 S_is_row) [] E0 (tCons (tVar 1) (tCons (tC (.int 1)) tNil))))) (tTest (tOp (rNeA c.K) (tCB (rLenA c.K) (tCons (tVar 1) tNil)) (tCB (rLenA c.K) (tCons (tOp (rIxA c.K) (tVar 0) (tC (.int 0))) tNil))))) (tRet (tC (.bl false))) tNext))
    (tRet (tOp (rI0 fun i j => .bl (decide (i ≤ j))) (tOp rMulA (tCB (rLenA c.K) (tCons (tVar 0) tNil)) (tCB (rLenA c.K) (tCons (tOp (rIxA c.K) (tVar 0) (tC (.int 0))) tNil))) (tC (.int 512))))))
theorem w_are_rows {c : Cn} (hC : CFL c) (hE : CEL c) : Wk c 1 1 [0] S_are_rows (t_are_rows c) := by
  rintro ts Post ⟨h, w, f, o, rfl, h0, hp⟩ - A rfl hK
  show WS A _ [some (.frz o (gD h w f)), none] _ _ _ _
  unfold t_are_rows
  have q1 := h0.h1
  have q2 := h0.h2
  have q3 := h0.w1
  have q4 := h0.w2
  have q5 := h0.hw
  have q6 : (h : Int) * (w : Int) ≤ 512 := by exact_mod_cast q5
  have hr0 := rowL_rw h0 (y := 0) (by omega)
  walk_at "tl"
  all_goals simp only [List.length_map, List.length_range] at *
  · exfalso; omega
  · exfalso; omega
  refine ws_for (wi_listF ?_)
  walk_at "tl"
  refine ⟨_, _, rfl, ?_⟩
  refine loop_n (fun e0 i e => SetsE [1] e0 e) ⟨_, rfl⟩ ?_ ?_
  · rintro i e hi ⟨x1, rfl⟩
    have hr := rowL_rw h0 hi
    dsimp only [List.set]
    walk_at "tl"
    all_goals simp only [List.length_map, rowL_len] at *
    · rename_i h_; exact absurd trivial h_
    · exact ⟨_, rfl⟩
  · rintro e ⟨x1, rfl⟩
    walk_at "tl"
    all_goals simp only [List.length_map, List.length_range, rowL_len]
    walk_at "tl"
    rw [decide_eq_true q6]
    (exact hp)
/- Field_init: 0 self 1 rows 2 row -/
def S_Field_init : FS := fun ts Post => ∃ h : Nat, ∃ w : Nat, ∃ f : Gr, ∃ t : T, ts = [.ins 0 [], t] ∧ (t.data = gD h w f) ∧ (FdOk h w f) ∧ (Post (.ret (N_) [some (.ins 0 [("lines", F (gD h w f))]), some (F (gD h w f))]))
theorem c_Field_init {h : Nat} {w : Nat} {f : Gr} {t : T} {Post : FO → Prop} (h0 : t.data = gD h w f) (h1 : FdOk h w f) (hp : Post (.ret (N_) [some (.ins 0 [("lines", F (gD h w f))]), some (F (gD h w f))])) : S_Field_init [.ins 0 [], t] Post := ⟨_, _, _, _, rfl, h0, h1, hp⟩
local macro_rules | `(tactic| walk_at "call") => `(tactic| (refine ⟨_, by with_unfolding_all rfl, by rfl, of_decide_eq_true (by with_unfolding_all rfl), c_Field_init (by walk_at "pre") (by walk_at "pre") ?_⟩; refine ⟨_, _, rfl, ?_⟩; try dsimp only [backT, List.set]))
def t_Field_init (c : Cn) : TS :=
  (tSeq (tIfS (tNot (tB (tCall (spOf c 1 S_are_rows) [] E0 (tCons (tVar 1) tNil)))) tNever tNext)
    (sFld c.K (tVar 0) (tLc (iList c.K (tVar 1)) (gName 2) tYes (tCB (rListOf c.K) (tCons (tVar 2) tNil)) [2]) "lines"))
theorem w_Field_init {c : Cn} (hC : CFL c) (hE : CEL c) : Wk c 2 1 [0, 1] S_Field_init (t_Field_init c) := by
  rintro ts Post ⟨h, w, f, t, rfl, h0, h1, hp⟩ - A rfl hK
  show WS A _ [some (.ins 0 []), some (t), none] _ _ _ _
  unfold t_Field_init
  have q2 := h1.h2
  have q4 := h1.w2
  refine ws_fix (i := 1) (by with_unfolding_all rfl) ?_
  rw [h0]
  dsimp only [List.set]
  walk_at "tl"
  refine we_frz ?_
  refine we_lc (by rw [hK]; rfl) (wi_listF ?_)
  walk_at "tl"
  refine ⟨_, _, rfl, lc_n (by omega) (fun y => T.lst ((rowL f w y).map I)) (fun i hi => ?_) ?_⟩
  · walk_at "rst"
    walk_at "tl"
    exact ⟨rfl, rfl⟩
  · walk_at "rst"
    rw [gT_data]
    exact ⟨trivial, hp⟩
/- Field_height: 0 self -/
def S_Field_height : FS := fun ts Post => ∃ h : Nat, ∃ w : Nat, ∃ f : Gr, ∃ o : Option V, ts = [.frz o (fldD h w f)] ∧ (Post (.ret (I h) [some (.frz o (fldD h w f))]))
theorem c_Field_height {h : Nat} {w : Nat} {f : Gr} {o : Option V} {Post : FO → Prop}  (hp : Post (.ret (I h) [some (.frz o (fldD h w f))])) : S_Field_height [.frz o (fldD h w f)] Post := ⟨_, _, _, _, rfl, hp⟩
local macro_rules | `(tactic| walk_at "call") => `(tactic| (refine ⟨_, by with_unfolding_all rfl, by rfl, of_decide_eq_true (by with_unfolding_all rfl), c_Field_height  ?_⟩; refine ⟨_, _, rfl, ?_⟩; try dsimp only [backT, List.set]))
def t_Field_height (c : Cn) : TS :=
  (tRet (tCB (rLenA c.K) (tCons (tFld c.K (tVar 0) "lines") tNil)))
theorem w_Field_height {c : Cn} (hC : CFL c) (hE : CEL c) : Wk c 1 0 [0] S_Field_height (t_Field_height c) := by
  rintro ts Post ⟨h, w, f, o, rfl, hp⟩ - A rfl hK
  show WS A _ [some (.frz o (fldD h w f))] _ _ _ _
  unfold t_Field_height
  walk_at "tl"
  rw [List.length_map, List.length_range]
  (exact hp)
/- Field_width: 0 self -/
def S_Field_width : FS := fun ts Post => ∃ h : Nat, ∃ w : Nat, ∃ f : Gr, ∃ o : Option V, ts = [.frz o (fldD h w f)] ∧ (1 ≤ h) ∧ (Post (.ret (I w) [some (.frz o (fldD h w f))]))
theorem c_Field_width {h : Nat} {w : Nat} {f : Gr} {o : Option V} {Post : FO → Prop} (h0 : 1 ≤ h) (hp : Post (.ret (I w) [some (.frz o (fldD h w f))])) : S_Field_width [.frz o (fldD h w f)] Post := ⟨_, _, _, _, rfl, h0, hp⟩
local macro_rules | `(tactic| walk_at "call") => `(tactic| (refine ⟨_, by with_unfolding_all rfl, by rfl, of_decide_eq_true (by with_unfolding_all rfl), c_Field_width (by walk_at "pre") ?_⟩; refine ⟨_, _, rfl, ?_⟩; try dsimp only [backT, List.set]))
def t_Field_width (c : Cn) : TS :=
  (tRet (tCB (rLenA c.K) (tCons (tOp (rIxA c.K) (tFld c.K (tVar 0) "lines") (tC (.int 0))) tNil)))
theorem w_Field_width {c : Cn} (hC : CFL c) (hE : CEL c) : Wk c 1 0 [0] S_Field_width (t_Field_width c) := by
  rintro ts Post ⟨h, w, f, o, rfl, h0, hp⟩ - A rfl hK
  show WS A _ [some (.frz o (fldD h w f))] _ _ _ _
  unfold t_Field_width
  walk_at "tl"
  rw [rowL_len]
  (exact hp)
/- Field_rows: 0 self 1 row -/
def S_Field_rows : FS := fun ts Post => ∃ h : Nat, ∃ w : Nat, ∃ f : Gr, ∃ o : Option V, ts = [.frz o (fldD h w f)] ∧ (h ≤ 64) ∧ (w ≤ 64) ∧ (Post (.ret (gT h w f) [some (.frz o (fldD h w f))]))
theorem c_Field_rows {h : Nat} {w : Nat} {f : Gr} {o : Option V} {Post : FO → Prop} (h0 : h ≤ 64) (h1 : w ≤ 64) (hp : Post (.ret (gT h w f) [some (.frz o (fldD h w f))])) : S_Field_rows [.frz o (fldD h w f)] Post := ⟨_, _, _, _, rfl, h0, h1, hp⟩
local macro_rules | `(tactic| walk_at "call") => `(tactic| (refine ⟨_, by with_unfolding_all rfl, by rfl, of_decide_eq_true (by with_unfolding_all rfl), c_Field_rows (by walk_at "pre") (by walk_at "pre") ?_⟩; refine ⟨_, _, rfl, ?_⟩; try dsimp only [backT, List.set]))
def t_Field_rows (c : Cn) : TS :=
  (tRet (tLc (iList c.K (tFld c.K (tVar 0) "lines")) (gName 1) tYes (tCB (rListOf c.K) (tCons (tVar 1) tNil)) [1]))
theorem w_Field_rows {c : Cn} (hC : CFL c) (hE : CEL c) : Wk c 1 1 [0] S_Field_rows (t_Field_rows c) := by
  rintro ts Post ⟨h, w, f, o, rfl, h0, h1, hp⟩ - A rfl hK
  show WS A _ [some (.frz o (fldD h w f)), none] _ _ _ _
  unfold t_Field_rows
  walk_at "tl"
  refine we_lc (by rw [hK]; rfl) (wi_listF ?_)
  walk_at "tl"
  refine ⟨_, _, rfl, lc_n (by omega) (fun y => T.lst ((rowL f w y).map I)) (fun i hi => ?_) ?_⟩
  · walk_at "rst"
    walk_at "tl"
    exact ⟨rfl, rfl⟩
  · walk_at "rst"
    (exact hp)
def flatL (h w : Nat) (f : Gr) : List Int := (List.range h).flatMap (rowL f w)
theorem flatL_S {h w : Nat} {f : Gr} : flatL (h + 1) w f = flatL h w f ++ rowL f w h := by unfold flatL; rw [List.range_succ, List.flatMap_append]; simp
theorem flatL_len {h w : Nat} {f : Gr} : (flatL h w f).length = h * w := by
  induction h with
  | zero => simp [flatL]
  | succ h ih => rw [flatL_S, List.length_append, ih, rowL_len, Nat.succ_mul]
theorem flatL_mem {h w y x : Nat} {f : Gr} (hy : y < h) (hx : x < w) : f y x ∈ flatL h w f := List.mem_flatMap.mpr ⟨y, List.mem_range.mpr hy, List.mem_map.mpr ⟨x, List.mem_range.mpr hx, rfl⟩⟩
theorem flatL_sz {h w : Nat} {f : Gr} (hh : h ≤ 64) (hw : w ≤ 64) : (flatL h w f).length ≤ 4096 := by rw [flatL_len]; exact Nat.mul_le_mul hh hw
def plL (h w : Nat) : List (Nat × Nat) := (List.range h).flatMap fun y => (List.range w).map fun x => (y, x)
theorem plL_S {h w : Nat} : plL (h + 1) w = plL h w ++ (List.range w).map fun x => (h, x) := by unfold plL; rw [List.range_succ, List.flatMap_append]; simp
theorem plL_len {h w : Nat} : (plL h w).length = h * w := by
  induction h with
  | zero => simp [plL]
  | succ h ih => rw [plL_S, List.length_append, ih, List.length_map, List.length_range, Nat.succ_mul]
theorem plL_sz {h w : Nat} (hh : h ≤ 64) (hw : w ≤ 64) : (plL h w).length ≤ 4096 := by rw [plL_len]; exact Nat.mul_le_mul hh hw
theorem plL_mem {h w : Nat} {p : Nat × Nat} (hp : p ∈ plL h w) : p.1 < h ∧ p.2 < w := by
  obtain ⟨y, hy, hq⟩ := List.mem_flatMap.mp hp
  obtain ⟨x, hx, rfl⟩ := List.mem_map.mp hq
  exact ⟨List.mem_range.mp hy, List.mem_range.mp hx⟩
abbrev plD (p : Nat × Nat) : D := .tup [.int (p.1 : Int), .int (p.2 : Int)]
/- Field_is_place: 0 self 1 thing -/
def S_Field_is_place : FS := fun ts Post => ∃ h : Nat, ∃ w : Nat, ∃ y : Nat, ∃ x : Nat, ∃ f : Gr, ∃ o : Option V, ∃ o2 : Option V, ts = [.frz o (fldD h w f), .frz o2 (.tup [.int (y : Int), .int (x : Int)])] ∧ (y < h) ∧ (x < w) ∧ (Post (.ret (B true) [some (.frz o (fldD h w f)), some (.frz o2 (.tup [.int (y : Int), .int (x : Int)]))]))
theorem c_Field_is_place {h : Nat} {w : Nat} {y : Nat} {x : Nat} {f : Gr} {o : Option V} {o2 : Option V} {Post : FO → Prop} (h0 : y < h) (h1 : x < w) (hp : Post (.ret (B true) [some (.frz o (fldD h w f)), some (.frz o2 (.tup [.int (y : Int), .int (x : Int)]))])) : S_Field_is_place [.frz o (fldD h w f), .frz o2 (.tup [.int (y : Int), .int (x : Int)])] Post := ⟨_, _, _, _, _, _, _, rfl, h0, h1, hp⟩
local macro_rules | `(tactic| walk_at "call") => `(tactic| (refine ⟨_, by with_unfolding_all rfl, by rfl, of_decide_eq_true (by with_unfolding_all rfl), c_Field_is_place (by walk_at "pre") (by walk_at "pre") ?_⟩; refine ⟨_, _, rfl, ?_⟩; try dsimp only [backT, List.set]))
def t_Field_is_place (c : Cn) : TS :=
  (tSeq (tIfS (tOr (tNot (tB (tCB (rIsi c.K) (tCons (tVar 1) (tCons (tC (.ty "tuple")) tNil))))) (tTest (tOp (rNeA c.K) (tCB (rLenA c.K) (tCons (tVar 1) tNil)) (tC (.int 2))))) (tRet (tC (.bl false))) tNext)
    (tRet (tAndV (tCall (spOf c 3 S_is_whole) [] E0 (tCons (tOp (rIxA c.K) (tVar 1) (tC (.int 0))) (tCons (tC (.int 0)) (tCons (tOp (rI0 fun i j => .int (i - j)) (tMeth (c.cls 0) "height" (spOf c 1 S_Field_height) [] E0 (tVar 0) tNil) (tC (.int 1))) tNil)))) (tCall (spOf c 3 S_is_whole) [] E0 (tCons (tOp (rIxA c.K) (tVar 1) (tC (.int 1))) (tCons (tC (.int 0)) (tCons (tOp (rI0 fun i j => .int (i - j)) (tMeth (c.cls 0) "width" (spOf c 1 S_Field_width) [] E0 (tVar 0) tNil) (tC (.int 1))) tNil)))))))
theorem w_Field_is_place {c : Cn} (hC : CFL c) (hE : CEL c) : Wk c 2 0 [0, 1] S_Field_is_place (t_Field_is_place c) := by
  rintro ts Post ⟨h, w, y, x, f, o, o2, rfl, h0, h1, hp⟩ - A rfl hK
  show WS A _ [some (.frz o (fldD h w f)), some (.frz o2 (.tup [.int (y : Int), .int (x : Int)]))] _ _ _ _
  unfold t_Field_is_place
  have e1 : isWhole (.int (y : Int)) 0 ((h : Int) - 1) = true := by simp only [isWhole]; simp; omega
  have e2 : isWhole (.int (x : Int)) 0 ((w : Int) - 1) = true := by simp only [isWhole]; simp; omega
  walk_at "tl"
  · rw [e2]; (exact hp)
  · rename_i h_; rw [e1] at h_; cases h_
/- Field_at: 0 self 1 place -/
def S_Field_at : FS := fun ts Post => ∃ h : Nat, ∃ w : Nat, ∃ y : Nat, ∃ x : Nat, ∃ f : Gr, ∃ o : Option V, ∃ o2 : Option V, ts = [.frz o (fldD h w f), .frz o2 (.tup [.int (y : Int), .int (x : Int)])] ∧ (y < h) ∧ (x < w) ∧ (Post (.ret (I (f y x)) [some (.frz o (fldD h w f)), some (.frz o2 (.tup [.int (y : Int), .int (x : Int)]))]))
theorem c_Field_at {h : Nat} {w : Nat} {y : Nat} {x : Nat} {f : Gr} {o : Option V} {o2 : Option V} {Post : FO → Prop} (h0 : y < h) (h1 : x < w) (hp : Post (.ret (I (f y x)) [some (.frz o (fldD h w f)), some (.frz o2 (.tup [.int (y : Int), .int (x : Int)]))])) : S_Field_at [.frz o (fldD h w f), .frz o2 (.tup [.int (y : Int), .int (x : Int)])] Post := ⟨_, _, _, _, _, _, _, rfl, h0, h1, hp⟩
local macro_rules | `(tactic| walk_at "call") => `(tactic| (refine ⟨_, by with_unfolding_all rfl, by rfl, of_decide_eq_true (by with_unfolding_all rfl), c_Field_at (by walk_at "pre") (by walk_at "pre") ?_⟩; refine ⟨_, _, rfl, ?_⟩; try dsimp only [backT, List.set]))
def t_Field_at (c : Cn) : TS :=
  (tSeq (tIfS (tNot (tB (tMeth (c.cls 0) "is_place" (spOf c 2 S_Field_is_place) [] E0 (tVar 0) (tCons (tVar 1) tNil)))) tNever tNext)
    (tRet (tOp (rIxA c.K) (tOp (rIxA c.K) (tFld c.K (tVar 0) "lines") (tOp (rIxA c.K) (tVar 1) (tC (.int 0)))) (tOp (rIxA c.K) (tVar 1) (tC (.int 1))))))
theorem w_Field_at {c : Cn} (hC : CFL c) (hE : CEL c) : Wk c 2 0 [0, 1] S_Field_at (t_Field_at c) := by
  rintro ts Post ⟨h, w, y, x, f, o, o2, rfl, h0, h1, hp⟩ - A rfl hK
  show WS A _ [some (.frz o (fldD h w f)), some (.frz o2 (.tup [.int (y : Int), .int (x : Int)]))] _ _ _ _
  unfold t_Field_at
  walk_at "tl"
  simp only [Int.toNat_natCast]
  rw [rowL_gi (by omega)]
  (exact hp)
theorem div512 {a : Int} (h0 : 1 ≤ a) (h1 : a ≤ 64) : 8 ≤ 512 / a ∧ a * (512 / a) ≤ 512 := by
  constructor
  · rw [Int.le_ediv_iff_mul_le (by omega)]; omega
  · have := Int.ediv_mul_le 512 (show a ≠ 0 by omega)
    rw [Int.mul_comm]; omega
theorem sgn_len {c : Nat} : (sgn c).length = 1 := rfl
def someS (a b : Bool) : Str := ((bif a then ("r" : Str) else Str.empty) ++ (bif b then ("p" : Str) else Str.empty)) ++ (bif a && b then ("b" : Str) else Str.empty)
theorem some_l1 : ∀ a b : Bool, (bif a then ("r" : Str) else Str.empty).length + (bif b then ("p" : Str) else Str.empty).length ≤ 1000000 := by decide +kernel
theorem some_l2 : ∀ a b c : Bool, ((bif a then ("r" : Str) else Str.empty) ++ (bif b then ("p" : Str) else Str.empty)).length + (bif c then ("b" : Str) else Str.empty).length ≤ 1000000 := by decide +kernel
local macro_rules | `(tactic| walk_at "slen") => `(tactic| first | (rw [sgn_len]; omega) | with_reducible exact some_l1 _ _ | with_reducible exact some_l2 _ _ _)
theorem someS_ltr : ∀ a b : Bool, (someS a b).length ≤ 3 ∧ ∀ i, i < (someS a b).length → (si (someS a b) i = 114 ∧ a = true) ∨ (si (someS a b) i = 112 ∧ b = true) ∨ (si (someS a b) i = 98 ∧ a = true ∧ b = true) := by decide +kernel
theorem someS_ne : ∀ a b : Bool, someS a b ≠ Str.ofString "" → 1 ≤ (someS a b).length := by decide +kernel
theorem cn_app {h w : Int} {s : Str} {c : Nat} : ∀ {i : Nat}, i ≤ s.length → cnh h (s ++ sgn c) i = cnh h s i ∧ cnw w (s ++ sgn c) i = cnw w s i
  | 0, _ => ⟨rfl, rfl⟩
  | i + 1, hi => by
    have ih := cn_app (h := h) (w := w) (s := s) (c := c) (i := i) (by omega)
    have e : si (s ++ sgn c) i = si s i := by rw [si_app, if_pos (by omega)]
    show nxh (si (s ++ sgn c) i) (cnh h (s ++ sgn c) i) = nxh (si s i) (cnh h s i) ∧ nxw (si (s ++ sgn c) i) (cnw w (s ++ sgn c) i) = nxw (si s i) (cnw w s i)
    rw [e, ih.1, ih.2]
    exact ⟨rfl, rfl⟩
theorem cn_last {h w : Int} {s : Str} {c : Nat} : cnh h (s ++ sgn c) (s ++ sgn c).length = nxh c (cnh h s s.length) ∧ cnw w (s ++ sgn c) (s ++ sgn c).length = nxw c (cnw w s s.length) := by
  have e := cn_app (h := h) (w := w) (s := s) (c := c) (Nat.le_refl _)
  have e2 : si (s ++ sgn c) s.length = c := by rw [si_app, if_neg (by omega), if_pos rfl]
  rw [str_app_len, show (sgn c).length = 1 from rfl]
  show nxh (si (s ++ sgn c) s.length) (cnh h (s ++ sgn c) s.length) = _ ∧ nxw (si (s ++ sgn c) s.length) (cnw w (s ++ sgn c) s.length) = _
  rw [e2, e.1, e.2]
  exact ⟨rfl, rfl⟩
theorem way_S {h w : Int} {s : Str} {c : Nat} (hs : WayOk h w s) (hl : s.length ≤ 15) (hc : (c = 114 ∧ 2 ≤ cnw w s s.length) ∨ (c = 112 ∧ 2 ≤ cnh h s s.length) ∨ (c = 98 ∧ 2 ≤ cnw w s s.length ∧ 2 ≤ cnh h s s.length)) : WayOk h w (s ++ sgn c) := by
  have hlen : (s ++ sgn c).length = s.length + 1 := by rw [str_app_len]; rfl
  have e : ∀ i, i < s.length → si (s ++ sgn c) i = si s i := fun i hi => by rw [si_app, if_pos hi]
  have e2 : si (s ++ sgn c) s.length = c := by rw [si_app, if_neg (by omega), if_pos rfl]
  refine ⟨by omega, fun i hi => ?_, fun i hi q => ?_, fun i hi q => ?_⟩
  · by_cases h1 : i < s.length
    · rw [e i h1]; exact hs.ltr i h1
    · rw [show i = s.length by omega, e2]; omega
  · rw [(cn_app (h := h) (w := w) (by omega)).2]
    by_cases h1 : i < s.length
    · rw [e i h1] at q; exact hs.wide i h1 q
    · rw [show i = s.length by omega] at q ⊢
      rw [e2] at q
      omega
  · rw [(cn_app (h := h) (w := w) (by omega)).1]
    by_cases h1 : i < s.length
    · rw [e i h1] at q; exact hs.high i h1 q
    · rw [show i = s.length by omega] at q ⊢
      rw [e2] at q
      omega
theorem way_0 {h w : Int} : WayOk h w (Str.ofString "") := by
  have e : (Str.ofString "").length = 0 := by decide +kernel
  exact ⟨by omega, fun i hi => by omega, fun i hi => by omega, fun i hi => by omega⟩
theorem someS_1 : ∀ a b : Bool, a = true → ((bif a then (Str.ofString "r") else Str.empty) ++ (bif b then (Str.ofString "p") else Str.empty)) ++ (bif b then (Str.ofString "b") else Str.empty) = someS a b := by rintro a b rfl; rfl
theorem someS_0 : ∀ a b : Bool, a = false → ((bif a then (Str.ofString "r") else Str.empty) ++ (bif b then (Str.ofString "p") else Str.empty)) ++ (bif false then (Str.ofString "b") else Str.empty) = someS a b := by rintro a b rfl; rfl
theorem pick_w {c : Nat} {x : Int} (hc : c = 114 ∨ c = 112 ∨ c = 98) : (bif !decide (sgn c = Str.ofString "p") then (x + 1) / 2 else x) = nxw c x := by
  rw [show Str.ofString "p" = sgn 112 from sgn_p]
  simp only [sgn_eq]
  unfold nxw
  rcases hc with rfl | rfl | rfl <;> rfl
theorem pick_h {c : Nat} {x : Int} (hc : c = 114 ∨ c = 112 ∨ c = 98) : (bif !decide (sgn c = Str.ofString "r") then (x + 1) / 2 else x) = nxh c x := by
  rw [show Str.ofString "r" = sgn 114 from sgn_r]
  simp only [sgn_eq]
  unfold nxh
  rcases hc with rfl | rfl | rfl <;> rfl
/- law_size: 0 _law_box_here 1 _law_way 2 _law_high -/
def S_law_size : FS := fun ts Post => ∃ m : Nat, ∃ t : T, ts = [t] ∧ (Box m t) ∧ (m ≤ 100000000) ∧ (∀ (h : Int), ∀ (w : Int), ∀ (t1 : T), (SizeOk h w) → (Box (m + 5) t1) → Post (.ret (F (.tup [.int h, .int w])) [some (t1)]))
theorem c_law_size {m : Nat} {t : T} {Post : FO → Prop} (h0 : Box m t) (h1 : m ≤ 100000000) (hp : ∀ (h : Int), ∀ (w : Int), ∀ (t1 : T), (SizeOk h w) → (Box (m + 5) t1) → Post (.ret (F (.tup [.int h, .int w])) [some (t1)])) : S_law_size [t] Post := ⟨_, _, rfl, h0, h1, hp⟩
local macro_rules | `(tactic| walk_at "call") => `(tactic| (refine ⟨_, by with_unfolding_all rfl, by rfl, of_decide_eq_true (by with_unfolding_all rfl), c_law_size (by walk_at "pre") (by walk_at "pre") ?_⟩; intro h w t1 g_0 g_1; refine ⟨_, _, rfl, ?_⟩; try dsimp only [backT, List.set]))
def t_law_size (c : Cn) : TS :=
  (tSeq (tAsg (tCall (spOf c 2 S_law_take) [] E0 (tCons (tVar 0) (tCons (tC (.int 12)) tNil))) (gName 1))
    (tSeq (tIfS (tTest (tOp (rI0 fun i j => .bl (decide (i < j))) (tVar 1) (tC (.int 6)))) (tRet (tOp (rIxA c.K) (tLst (tCons (tTup (tCons (tC (.int 64)) (tCons (tC (.int 8)) tNil))) (tCons (tTup (tCons (tC (.int 8)) (tCons (tC (.int 64)) tNil))) (tCons (tTup (tCons (tC (.int 1)) (tCons (tC (.int 64)) tNil))) (tCons (tTup (tCons (tC (.int 64)) (tCons (tC (.int 1)) tNil))) (tCons (tTup (tCons (tC (.int 22)) (tCons (tC (.int 23)) tNil))) (tCons (tTup (tCons (tC (.int 17)) (tCons (tC (.int 30)) tNil))) tNil))))))) (tVar 1))) tNext)
    (tSeq (tIfS (tTest (tOp (rEqA c.K) (tVar 1) (tC (.int 6)))) (tSeq (tAsg (tOp (rAddA c.K) (tC (.int 1)) (tCall (spOf c 2 S_law_take) [] E0 (tCons (tVar 0) (tCons (tC (.int 64)) tNil)))) (gName 2))
    (tRet (tTup (tCons (tVar 2) (tCons (tOp (rAddA c.K) (tC (.int 1)) (tCall (spOf c 2 S_law_take) [] E0 (tCons (tVar 0) (tCons (tCB rMin2 (tCons (tC (.int 64)) (tCons (tOp (rI CDivW fun i j => .int (i / j)) (tC (.int 512)) (tVar 2)) tNil))) tNil)))) tNil))))) tNext)
    (tRet (tTup (tCons (tOp (rAddA c.K) (tC (.int 1)) (tCall (spOf c 2 S_law_take) [] E0 (tCons (tVar 0) (tCons (tC (.int 9)) tNil)))) (tCons (tOp (rAddA c.K) (tC (.int 1)) (tCall (spOf c 2 S_law_take) [] E0 (tCons (tVar 0) (tCons (tC (.int 9)) tNil)))) tNil)))))))
theorem w_law_size {c : Cn} (hC : CFL c) (hE : CEL c) : Wk c 1 2 [0] S_law_size (t_law_size c) := by
  rintro ts Post ⟨m, t, rfl, h0, h1, hp⟩ - A rfl hK
  show WS A _ [some (t), none, none] _ _ _ _
  unfold t_law_size
  walk_at "tl"
  · rename_i d hd
    have e : ∃ a b : Int, d = .tup [.int a, .int b] ∧ SizeOk a b := by
      simp only [T.datas, T.data, List.mem_cons, List.not_mem_nil, or_false] at hd
      rcases hd with rfl | rfl | rfl | rfl | rfl | rfl <;> exact ⟨_, _, rfl, by decide, by decide, by decide, by decide, by decide⟩
    obtain ⟨a, b, rfl, hz⟩ := e
    exact hp _ _ _ hz (by walk_at "pre")
  · rename_i r tb hr0 hr1 hb mn q1 q2 q3
    have hd := div512 (a := 1 + r) (by omega) (by omega)
    walk_at "tl"
    rename_i r3 tb3 hs0 hs1 hb3
    refine hp _ _ _ ⟨by omega, by omega, by omega, by omega, ?_⟩ (by walk_at "pre")
    have := Int.mul_le_mul_of_nonneg_left (show 1 + r3 ≤ 512 / (1 + r) by omega) (show 0 ≤ 1 + r by omega)
    omega
  · rename_i r tb hr0 hr1 hb r3 tb3 hs0 hs1 hb3
    refine hp _ _ _ ⟨by omega, by omega, by omega, by omega, ?_⟩ (by walk_at "pre")
    have := Int.mul_le_mul (show 1 + r ≤ 9 by omega) (show 1 + r3 ≤ 9 by omega) (by omega) (by omega)
    omega
abbrev wT (n : Int) : Str := Str.ofString (toString n)
def rowTx (ns : List Int) : Str := Txt.join (Str.ofString " ") (ns.map wT)
def fldTx (h w : Nat) (f : Gr) : Str := Txt.join (Str.ofString "; ") ((List.range h).map fun y => rowTx (rowL f w y))
def Big (n : Int) : Prop := -1000000000000000 < n ∧ n < 1000000000000000
theorem tl_wT (n : Int) : (wT n).cps.toList = numI n := rfl
theorem numL_hd {n : Nat} (h : 0 < n) : ∃ d r, numL n = d :: r ∧ d ≠ 48 := by
  induction n using Nat.strongRecOn with
  | ind n ih =>
    by_cases h10 : n < 10
    · exact ⟨48 + n, [], numL_lt h10, by omega⟩
    · obtain ⟨d, r, e, hd⟩ := ih (n / 10) (by omega) (by omega)
      exact ⟨d, r ++ [48 + n % 10], by rw [numL_step (by omega), e]; rfl, hd⟩
theorem numL_l15 {n : Nat} (h : n < 1000000000000000) : (numL n).length ≤ 15 := numL_len (by decide) h
theorem len_wT {n : Int} : (wT n).length = (numI n).length := by rw [← tl_wT, Array.length_toList]; rfl
theorem len_wTp {n : Int} (h0 : 0 ≤ n) (h : n < 1000000000000000) : 1 ≤ (wT n).length ∧ (wT n).length ≤ 15 := by
  rw [len_wT, numI_pos h0]
  have a := numL_l15 (n := n.toNat) (by omega)
  have b := numL_ne n.toNat
  have c : (numL n.toNat).length ≠ 0 := fun e => b (List.length_eq_zero_iff.mp e)
  omega
theorem len_wT16 {n : Int} (h : Big n) : (wT n).length ≤ 16 := by
  by_cases h0 : 0 ≤ n
  · have := (len_wTp h0 h.2).2
    omega
  · rw [len_wT, numI_neg (by omega), List.length_cons]
    have a := (len_wTp (n := 0 - n) (by omega) (by have := h.1; omega)).2
    rw [len_wT] at a
    omega
theorem si_wT {n : Int} {i : Nat} : si (wT n) i = (numI n).getD i 0 := rfl
theorem sgn_mi : Str.ofString "-" = sgn 45 := by decide +kernel
theorem sgn_nul : Str.ofString "0" = sgn 48 := by decide +kernel
theorem starts_mi {n : Int} (h : Big n) : Txt.startswith (wT n) (Str.ofString "-") = decide (n < 0) := by
  rw [sgn_mi]
  have hl : 0 < (wT n).length := by
    by_cases h0 : 0 ≤ n
    · have := (len_wTp h0 h.2).1; omega
    · rw [len_wT, numI_neg (by omega)]; exact Nat.succ_pos _
  have e : Builtin.Str.subAt (wT n) (sgn 45) 0 = decide (n < 0) := by
    rw [Bool.eq_iff_iff, sub_sgn hl, decide_eq_true_eq, si_wT]
    by_cases h0 : 0 ≤ n
    · refine ⟨fun q => ?_, fun q => by omega⟩
      rw [numI_pos h0] at q
      have hne := numL_ne n.toNat
      cases e : numL n.toNat with
      | nil => exact absurd e hne
      | cons d r =>
        rw [e] at q
        have := numL_digits n.toNat d (by rw [e]; exact List.mem_cons_self)
        have q : d = 45 := q
        omega
    · exact ⟨fun _ => by omega, fun _ => by rw [numI_neg (by omega)]; rfl⟩
  unfold Txt.startswith
  rw [e, show (sgn 45).length = 1 from rfl, decide_eq_true (show 0 + 1 ≤ (wT n).length by omega), Bool.true_and]
theorem cut_mi {n : Int} (h : n < 0) : cutS (wT n) (some 1) none = wT (0 - n) := by
  refine Str.ext' (Array.toList_inj.mp ?_)
  show (cutS (wT n) (some ((1 : Nat) : Int)) none).cps.toList = numI (0 - n)
  have hl : 1 ≤ (wT n).length := by rw [len_wT, numI_neg h]; exact Nat.succ_pos _
  show (((wT n).cps.toList.drop (HT.sIx (wT n).length 0 (some ((1 : Nat) : Int)))).take (HT.sIx (wT n).length (wT n).length none - HT.sIx (wT n).length 0 (some ((1 : Nat) : Int)))) = _
  rw [HT.sIx_none, HT.sIx_nat, Nat.min_eq_left hl, List.take_of_length_le (by rw [List.length_drop, Array.length_toList]; exact Nat.le_refl _), tl_wT, numI_neg h]
  rfl
theorem wT_z {n : Int} : (wT n = Str.ofString "-0") = False := by
  refine eq_false fun e => ?_
  have e1 : numI n = [45, 48] := by
    rw [← tl_wT, e]
    decide +kernel
  by_cases h0 : 0 ≤ n
  · rw [numI_pos h0] at e1
    have := numL_digits n.toNat 45 (by rw [e1]; exact List.mem_cons_self)
    omega
  · rw [numI_neg (by omega), numI_pos (by omega)] at e1
    obtain ⟨d, r, e2, hd⟩ := numL_hd (n := (0 - n).toNat) (by omega)
    rw [e2] at e1
    simp only [List.cons.injEq] at e1
    exact hd e1.2.1
theorem dg_in {c : Nat} (h : 48 ≤ c ∧ c ≤ 57) : c ∈ (Str.ofString "0123456789").cps.toList := by
  rw [show (Str.ofString "0123456789").cps.toList = [48, 49, 50, 51, 52, 53, 54, 55, 56, 57] by decide +kernel]
  simp only [List.mem_cons, List.not_mem_nil, or_false]
  omega
theorem wT_dg {n : Int} (h0 : 0 ≤ n) {i : Nat} (hi : i < (wT n).length) : 48 ≤ si (wT n) i ∧ si (wT n) i ≤ 57 := by
  rw [len_wT] at hi
  rw [si_wT, List.getD_eq_getElem?_getD, List.getElem?_eq_getElem hi]
  have hm : (numI n)[i] ∈ numI n := List.getElem_mem hi
  show 48 ≤ (numI n)[i] ∧ (numI n)[i] ≤ 57
  generalize (numI n)[i] = c at hm
  rw [numI_pos h0] at hm
  have := numL_digits n.toNat c hm
  omega
theorem wT_first {n : Int} (h0 : 0 < n) : (si (wT n) 0 = 48) = False := by
  refine eq_false fun e => ?_
  rw [si_wT, numI_pos (by omega)] at e
  obtain ⟨d, r, e2, hd⟩ := numL_hd (n := n.toNat) (by omega)
  rw [e2] at e
  exact hd e
theorem int_wT {n : Int} (h : Big n) : PySem.intText? (wT n) = some n := by
  have hl := len_wT16 h
  by_cases h0 : 0 ≤ n
  · obtain ⟨m, rfl⟩ := Int.eq_ofNat_of_zero_le h0
    exact int_num (by have := numL_l15 (n := m) (by have := h.2; omega); omega)
  · obtain ⟨m, hm⟩ := Int.eq_ofNat_of_zero_le (show 0 ≤ 0 - n by omega)
    rw [PySem.intText_neg (cs := numL m) (by rw [tl_wT, numI_neg (by omega), hm, numI_pos (by omega)]; rfl) (numL_digits m) (numL_ne m) (by omega), numL_val]
    congr 1
    omega
theorem row_big {h w y : Nat} {f : Gr} (hf : FdOk h w f) (hy : y < h) : ∀ n, n ∈ rowL f w y → Big n := fun n hn => by
  obtain ⟨i, hi, rfl⟩ := mem_rg hn
  have := hf.b y i hy hi
  exact ⟨by omega, by omega⟩
theorem sum_le {b : Nat} : ∀ {xs : List Nat}, (∀ x, x ∈ xs → x ≤ b) → xs.sum ≤ xs.length * b
  | [], _ => Nat.zero_le _
  | x :: xs, h => by
    have e := sum_le (xs := xs) fun y hy => h y (List.mem_cons_of_mem _ hy)
    have e2 := h x List.mem_cons_self
    rw [List.sum_cons, List.length_cons, Nat.succ_mul]
    omega
theorem joined_len {y : Str} {ps : List Str} {b : Nat} (h : ∀ p, p ∈ ps → p.length ≤ b) : (ps.map (·.length)).sum + ps.length * y.length ≤ ps.length * (b + y.length) ∧ (Txt.join y ps).length ≤ ps.length * (b + y.length) := by
  have e : (ps.map (·.length)).sum ≤ ps.length * b := by
    have e := sum_le (xs := ps.map (·.length)) (b := b) fun x hx => by
      obtain ⟨p, hp, rfl⟩ := List.mem_map.mp hx
      exact h p hp
    rwa [List.length_map] at e
  have e2 : (ps.map (·.length)).sum + ps.length * y.length ≤ ps.length * (b + y.length) := by
    rw [Nat.mul_add]
    omega
  refine ⟨e2, Nat.le_trans ?_ e2⟩
  rw [join_eq]
  exact StrLaws.join_length_le y ps
theorem rowTx_sum {ns : List Int} (h : ns.length ≤ 64) (hb : ∀ n, n ∈ ns → Big n) : ((ns.map wT).map (·.length)).sum + (ns.map wT).length * (Str.ofString " ").length ≤ 1088 ∧ (rowTx ns).length ≤ 1088 := by
  have e := joined_len (y := Str.ofString " ") (ps := ns.map wT) (b := 16) fun p hp => by
    obtain ⟨n, hn, rfl⟩ := List.mem_map.mp hp
    exact len_wT16 (hb n hn)
  rw [List.length_map, show (Str.ofString " ").length = 1 by decide +kernel] at e ⊢
  have := Nat.mul_le_mul_right 17 h
  rw [show 16 + 1 = 17 from rfl] at e
  unfold rowTx
  omega
theorem rowTx_len {ns : List Int} (h : ns.length ≤ 64) (hb : ∀ n, n ∈ ns → Big n) : (rowTx ns).length ≤ 1088 := (rowTx_sum h hb).2
theorem mem_wT {n : Int} {c : Nat} (h : c ∈ (wT n).cps.toList) : c = 45 ∨ (48 ≤ c ∧ c ≤ 57) := by
  rw [tl_wT] at h
  by_cases h0 : 0 ≤ n
  · rw [numI_pos h0] at h
    exact .inr (numL_digits _ _ h)
  · rw [numI_neg (by omega)] at h
    rcases List.mem_cons.mp h with q | q
    · exact .inl q
    · rw [numI_pos (by omega)] at q
      exact .inr (numL_digits _ _ q)
theorem mem_joinL {S : List Nat} {c : Nat} : ∀ {ps : List (List Nat)}, c ∈ joinL S ps → c ∈ S ∨ ∃ p, p ∈ ps ∧ c ∈ p
  | [], h => absurd h List.not_mem_nil
  | [p], h => .inr ⟨p, List.mem_cons_self, h⟩
  | p :: q :: r, h => by
    rcases List.mem_append.mp (show c ∈ p ++ (S ++ joinL S (q :: r)) from h) with h | h
    · exact .inr ⟨p, List.mem_cons_self, h⟩
    · rcases List.mem_append.mp h with h | h
      · exact .inl h
      · rcases mem_joinL h with h | ⟨z, hz, hc⟩
        · exact .inl h
        · exact .inr ⟨z, List.mem_cons_of_mem _ hz, hc⟩
theorem mem_rowTx {ns : List Int} {c : Nat} (h : c ∈ (rowTx ns).cps.toList) : c = 32 ∨ c = 45 ∨ (48 ≤ c ∧ c ≤ 57) := by
  have e : (rowTx ns).cps.toList = joinL (tl (Str.ofString " ")) ((ns.map wT).map tl) := by
    rw [← tl_join, ← join_eq]
    rfl
  rw [e] at h
  rcases mem_joinL h with h | ⟨p, hp, hc⟩
  · rw [show tl (Str.ofString " ") = [32] by decide +kernel] at h
    exact .inl (List.mem_singleton.mp h)
  · obtain ⟨q, hq, rfl⟩ := List.mem_map.mp hp
    obtain ⟨n, hn, rfl⟩ := List.mem_map.mp hq
    exact .inr (mem_wT hc)
theorem rowTx_split {ns : List Int} (h : ns ≠ []) : Txt.split (rowTx ns) (Str.ofString " ") = ns.map wT :=
  split_join (s := 32) (S := []) (by decide +kernel) (by decide +kernel) (fun e => h (List.map_eq_nil_iff.mp e)) fun p hp hc => by
    obtain ⟨n, hn, rfl⟩ := List.mem_map.mp hp
    have := mem_wT hc
    omega
theorem fldTx_sum {h w : Nat} {f : Gr} (hf : FdOk h w f) : ((((List.range h).map fun y => rowTx (rowL f w y))).map (·.length)).sum + ((List.range h).map fun y => rowTx (rowL f w y)).length * (Str.ofString "; ").length ≤ 69760 ∧ (fldTx h w f).length ≤ 69760 := by
  have e := joined_len (y := Str.ofString "; ") (ps := (List.range h).map fun y => rowTx (rowL f w y)) (b := 1088) fun p hp => by
    obtain ⟨y, hy, rfl⟩ := List.mem_map.mp hp
    exact rowTx_len (by rw [rowL_len]; exact hf.w2) (row_big hf (List.mem_range.mp hy))
  rw [List.length_map, List.length_range, show (Str.ofString "; ").length = 2 by decide +kernel] at e ⊢
  have := Nat.mul_le_mul_right 1090 hf.h2
  unfold fldTx
  omega
theorem fldTx_split {h w : Nat} {f : Gr} (hf : FdOk h w f) : Txt.split (fldTx h w f) (Str.ofString "; ") = (List.range h).map fun y => rowTx (rowL f w y) :=
  split_join (s := 59) (S := [32]) (by decide +kernel) (by decide +kernel) (fun e => by
    have e := List.map_eq_nil_iff.mp e
    have := hf.h1
    have : h = 0 := by rw [← List.length_range (n := h), e]; rfl
    omega) fun p hp hc => by
    obtain ⟨y, hy, rfl⟩ := List.mem_map.mp hp
    have := mem_rowTx hc
    omega
theorem gi_rng {α : Type} {ns : List Int} {u : Int → α} : ((List.range ns.length).map fun i => u (gi ns i)) = ns.map u := by
  apply List.ext_getElem
  · rw [List.length_map, List.length_map, List.length_range]
  · intro i h1 h2
    rw [List.length_map] at h2
    have e := gi_at h2
    rw [List.getElem?_eq_getElem h2] at e
    injection e with e
    rw [List.getElem_map, List.getElem_map, List.getElem_range, e]
theorem wTs_data {ns : List Int} : T.datas ((ns.map wT).map S) = (List.range ns.length).map fun i => D.str (wT (gi ns i)) := by
  rw [datas_map, List.map_map, List.map_map, gi_rng (u := fun n => D.str (wT n))]
  rfl
theorem rTs_data {h w : Nat} {f : Gr} : T.datas (((List.range h).map fun y => rowTx (rowL f w y)).map S) = (List.range h).map fun y => D.str (rowTx (rowL f w y)) := by
  rw [datas_map, List.map_map, List.map_map]
  rfl
local macro_rules | `(tactic| walk_at "we") => `(tactic| first
  | (show WE _ (tBM _ "str" (rSJoin _) _ _) _ _; refine we_sjoin ?_)
  | (show WE _ (tBM _ "str" rSSplit _ _) _ _; refine we_ssplit ?_)
  | (show WE _ (tBM _ "str" rSPart _ _) _ _; refine we_spart ?_)
  | (show WE _ (tBM _ "str" rSStarts _ _) _ _; refine we_sstarts ?_))
local macro_rules | `(tactic| walk_at "tl1") => `(tactic| (show WE _ (tSl _ (tVar 0) _ _) _ _; refine we_slS ?_))
/- is_plain: 0 word 1 figures 2 sign -/
def S_is_plain : FS := fun ts Post => ∃ o : Option V, ∃ n : Int, ts = [.frz o (.str (wT n))] ∧ (Big n) ∧ (Post (.ret (B true) [some (.frz o (.str (wT n)))]))
theorem c_is_plain {o : Option V} {n : Int} {Post : FO → Prop} (h0 : Big n) (hp : Post (.ret (B true) [some (.frz o (.str (wT n)))])) : S_is_plain [.frz o (.str (wT n))] Post := ⟨_, _, rfl, h0, hp⟩
local macro_rules | `(tactic| walk_at "call") => `(tactic| (refine ⟨_, by with_unfolding_all rfl, by rfl, of_decide_eq_true (by with_unfolding_all rfl), c_is_plain (by walk_at "pre") ?_⟩; refine ⟨_, _, rfl, ?_⟩; try dsimp only [backT, List.set]))
def t_is_plain (c : Cn) : TS :=
  (tSeq (tAsg (tVar 0) (gName 1))
    (tSeq (tIfS (tB (tBM c.K "str" rSStarts (tVar 0) (tCons (tC (.str "-")) tNil))) (tAsg (tSl (rSlA c.K) (tVar 0) (tPart (tC (.int 1))) tNoPart) (gName 1)) tNext)
    (tSeq (tIfS (tOr (tNot (tTest (tChain (rI0 fun i j => .bl (decide (i ≤ j))) (rI0 fun i j => .bl (decide (i ≤ j))) (tC (.int 1)) (tCB (rLenA c.K) (tCons (tVar 1) tNil)) (tC (.int 15))))) (tTest (tOp (rEqA c.K) (tVar 0) (tC (.str "-0"))))) (tRet (tC (.bl false))) tNext)
    (tSeq (tIfS (tTest (tOp (rNeA c.K) (tLc (iStr (tVar 1)) (gName 2) (tTest (tOp (rNiA c.K) (tVar 2) (tC (.str "0123456789")))) (tVar 2) [2]) (tLst tNil))) (tRet (tC (.bl false))) tNext)
    (tRet (tOrV (tOp (rEqA c.K) (tVar 1) (tC (.str "0"))) (tOp (rNeA c.K) (tOp (rIxA c.K) (tVar 1) (tC (.int 0))) (tC (.str "0")))))))))
theorem w_is_plain {c : Cn} (hC : CFL c) (hE : CEL c) : Wk c 1 2 [0] S_is_plain (t_is_plain c) := by
  rintro ts Post ⟨o, n, rfl, h0, hp⟩ - A rfl hK
  show WS A _ [some (.frz o (.str (wT n))), none, none] _ _ _ _
  unfold t_is_plain
  have hl16 := len_wT16 h0
  iterate 5 walk_at "tl1"
  refine ws_imp (nx' := fun e => ∃ (o2 : Option V) (m : Int), 0 ≤ m ∧ m < 1000000000000000 ∧ e = [some (.frz o (.str (wT n))), some (.frz o2 (.str (wT m))), none]) ?_ ?_
  · walk_at "tl"
    refine ⟨_, _, rfl, ?_⟩
    walk_at "tl"
    refine ⟨_, _, rfl, ?_⟩
    rw [starts_mi h0]
    refine ⟨_, rfl, fun hb => ?_, fun hb => ?_⟩
    · have hb := of_decide_eq_true hb
      walk_at "tl"
      refine ⟨_, _, rfl, by omega, ?_⟩
      walk_at "tl"
      rw [cut_mi hb]
      exact ⟨none, 0 - n, by omega, by have := h0.1; omega, rfl⟩
    · have hb := of_decide_eq_false hb
      walk_at "tl"
      exact ⟨o, n, by omega, h0.2, rfl⟩
  · rintro e ⟨o2, m, m0, m1, rfl⟩
    have hl := len_wTp m0 m1
    walk_at "tl"
    all_goals first
      | (exfalso; omega)
      | (exfalso; rename_i q; rw [wT_z] at q; exact q)
      | skip
    refine we_lc (by rw [hK]; rfl) (wi_sgn ?_)
    walk_at "tl"
    refine ⟨_, _, rfl, lc_none (by omega) (fun i hi => ?_) ?_⟩
    · have hd := wT_dg m0 hi
      walk_at "rst"
      walk_at "tl"
      refine wr_niC ?_
      rw [decide_eq_true (dg_in hd)]
      walk_at "tl"
      exact ⟨rfl, rfl⟩
    · walk_at "rst"
      walk_at "tl"
      rotate_left 1
      · (exact hp)
      rename_i hz
      have m2 : 0 < m := by
        rcases Int.lt_or_eq_of_le m0 with q | q
        · exact q
        · subst q
          exact absurd rfl hz
      rw [sgn_nul, decide_eq_false (show ¬ sgn (si (wT m) (0 : Int).toNat) = sgn 48 from fun e => (wT_first m2).mp (sgn_eq.mp e))]
      walk_at "tl"
      (exact hp)
/- read_row: 0 piece 1 words 2 word -/
def S_read_row : FS := fun ts Post => ∃ o : Option V, ∃ ns : List Int, ts = [.frz o (.str (rowTx ns))] ∧ (ns ≠ []) ∧ (ns.length ≤ 64) ∧ (∀ n, n ∈ ns → Big n) ∧ (Post (.ret (.lst (ns.map I)) [some (.frz o (.str (rowTx ns)))]))
theorem c_read_row {o : Option V} {ns : List Int} {Post : FO → Prop} (h0 : ns ≠ []) (h1 : ns.length ≤ 64) (h2 : ∀ n, n ∈ ns → Big n) (hp : Post (.ret (.lst (ns.map I)) [some (.frz o (.str (rowTx ns)))])) : S_read_row [.frz o (.str (rowTx ns))] Post := ⟨_, _, rfl, h0, h1, h2, hp⟩
local macro_rules | `(tactic| walk_at "call") => `(tactic| (refine ⟨_, by with_unfolding_all rfl, by rfl, of_decide_eq_true (by with_unfolding_all rfl), c_read_row (by walk_at "pre") (by walk_at "pre") (by walk_at "pre") ?_⟩; refine ⟨_, _, rfl, ?_⟩; try dsimp only [backT, List.set]))
def t_read_row (c : Cn) : TS :=
  (tSeq (tAsg (tBM c.K "str" rSSplit (tVar 0) (tCons (tC (.str " ")) tNil)) (gName 1))
    (tSeq (tIfS (tTest (tOp (rNeA c.K) (tLc (iList c.K (tVar 1)) (gName 2) (tNot (tB (tCall (spOf c 1 S_is_plain) [] E0 (tCons (tVar 2) tNil)))) (tVar 2) [2]) (tLst tNil))) (tRet (tC .non)) tNext)
    (tRet (tLc (iList c.K (tVar 1)) (gName 2) tYes (tCB rIntA (tCons (tVar 2) tNil)) [2]))))
theorem w_read_row {c : Cn} (hC : CFL c) (hE : CEL c) : Wk c 1 2 [0] S_read_row (t_read_row c) := by
  rintro ts Post ⟨o, ns, rfl, h0, h1, h2, hp⟩ - A rfl hK
  show WS A _ [some (.frz o (.str (rowTx ns))), none, none] _ _ _ _
  unfold t_read_row
  have hl := rowTx_len h1 h2
  have hsp := rowTx_split (ns := ns) h0
  walk_at "tl"
  refine ⟨_, _, rfl, by omega, ?_⟩
  walk_at "tl"
  refine ⟨_, _, rfl, by decide +kernel, ?_⟩
  rw [hsp]
  walk_at "tl"
  refine we_lc (by rw [hK]; rfl) (wi_listF ?_)
  walk_at "tl"
  refine ⟨_, _, congrArg D.lst wTs_data, ?_⟩
  refine lc_none (by omega) (fun i hi => ?_) ?_
  · have hbi := h2 (gi ns i) (gi_mem hi)
    walk_at "rst"
    walk_at "tl"
    exact ⟨rfl, rfl⟩
  walk_at "rst"
  walk_at "tl"
  refine we_lc (by rw [hK]; rfl) (wi_listF ?_)
  walk_at "tl"
  refine ⟨_, _, congrArg D.lst wTs_data, ?_⟩
  refine lc_n (by omega) (fun i => I (gi ns i)) (fun i hi => ?_) ?_
  · have hbi := h2 (gi ns i) (gi_mem hi)
    have hli := len_wT16 hbi
    walk_at "rst"
    walk_at "tl"
    refine wc_int_text (int_wT hbi) (by omega) ?_
    exact ⟨rfl, rfl⟩
  walk_at "rst"
  rw [gi_rng (u := I)]
  (exact hp)
/- read_field: 0 text 1 rows 2 piece -/
def S_read_field : FS := fun ts Post => ∃ o : Option V, ∃ h : Nat, ∃ w : Nat, ∃ f : Gr, ts = [.frz o (.str (fldTx h w f))] ∧ (FdOk h w f) ∧ (Post (.ret (F (fldD h w f)) [some (.frz o (.str (fldTx h w f)))]))
theorem c_read_field {o : Option V} {h : Nat} {w : Nat} {f : Gr} {Post : FO → Prop} (h0 : FdOk h w f) (hp : Post (.ret (F (fldD h w f)) [some (.frz o (.str (fldTx h w f)))])) : S_read_field [.frz o (.str (fldTx h w f))] Post := ⟨_, _, _, _, rfl, h0, hp⟩
local macro_rules | `(tactic| walk_at "call") => `(tactic| (refine ⟨_, by with_unfolding_all rfl, by rfl, of_decide_eq_true (by with_unfolding_all rfl), c_read_field (by walk_at "pre") ?_⟩; refine ⟨_, _, rfl, ?_⟩; try dsimp only [backT, List.set]))
def t_read_field (c : Cn) : TS :=
  (tSeq (tIfS (tNot (tB (tCB (rIsi c.K) (tCons (tVar 0) (tCons (tC (.ty "str")) tNil))))) tNever tNext)
    (tSeq (tAsg (tLc (iList c.K (tBM c.K "str" rSSplit (tVar 0) (tCons (tC (.str "; ")) tNil))) (gName 2) tYes (tCall (spOf c 1 S_read_row) [] E0 (tCons (tVar 2) tNil)) [2]) (gName 1))
    (tSeq (tIfS (tNot (tB (tCall (spOf c 1 S_are_rows) [] E0 (tCons (tVar 1) tNil)))) tNever tNext)
    (tRet (tMake (c.cls 0) (spOf c 2 S_Field_init) [] E0 (tCons (tVar 1) tNil))))))
theorem w_read_field {c : Cn} (hC : CFL c) (hE : CEL c) : Wk c 1 2 [0] S_read_field (t_read_field c) := by
  rintro ts Post ⟨o, h, w, f, rfl, h0, hp⟩ - A rfl hK
  show WS A _ [some (.frz o (.str (fldTx h w f))), none, none] _ _ _ _
  unfold t_read_field
  have hl := (fldTx_sum h0).2
  have hsp := fldTx_split h0
  have z1 := h0.h1
  have z2 := h0.h2
  have z3 := h0.w1
  have z4 := h0.w2
  walk_at "tl"
  refine we_lc (by rw [hK]; rfl) (wi_listF ?_)
  walk_at "tl"
  refine ⟨_, _, rfl, by omega, ?_⟩
  walk_at "tl"
  refine ⟨_, _, rfl, by decide +kernel, ?_⟩
  rw [hsp]
  refine ⟨_, _, congrArg D.lst rTs_data, ?_⟩
  refine lc_n (by omega) (fun y => T.lst ((rowL f w y).map I)) (fun i hi => ?_) ?_
  · have hb := row_big h0 hi
    have hn : rowL f w i ≠ [] := fun e => by
      have e2 := congrArg List.length e
      rw [rowL_len] at e2
      simp at e2
      omega
    have hw : (rowL f w i).length ≤ 64 := by rw [rowL_len]; exact z4
    walk_at "rst"
    walk_at "tl"
    exact ⟨rfl, rfl⟩
  walk_at "rst"
  walk_at "tl1"
  refine ws_fix (i := 1) (by with_unfolding_all rfl) ?_
  rw [show (T.lst ((List.range h).map fun y => T.lst ((rowL f w y).map I))).data = gD h w f from gT_data]
  dsimp only [List.set]
  walk_at "tl"
  (exact hp)
inductive FtR : D → Option Str → Prop where
  | ok {h w : Nat} {f : Gr} (hf : FdOk h w f) : FtR (fldD h w f) (some (fldTx h w f))
  | no {d : D} (hd : d.typ) : FtR d none
/- field_text: 0 field 1 row 2 number -/
def S_field_text : FS := fun ts Post => ∃ d : D, ∃ o : Option V, ∃ r : Option Str, ts = [.frz o d] ∧ (FtR d r) ∧ (∀ (x : Str), (r = some x) → Post (.ret (S x) [some (.frz o d)])) ∧ (∀ (x : Str), (r = none) → Post (.exc 41 [("found", d)] [some (.frz o d)]))
theorem c_field_text {d : D} {o : Option V} {r : Option Str} {Post : FO → Prop} (h0 : FtR d r) (q0 : ∀ (x : Str), (r = some x) → Post (.ret (S x) [some (.frz o d)])) (q1 : ∀ (x : Str), (r = none) → Post (.exc 41 [("found", d)] [some (.frz o d)])) : S_field_text [.frz o d] Post := ⟨_, _, _, rfl, h0, q0, q1⟩
local macro_rules | `(tactic| walk_at "call") => `(tactic| (refine ⟨_, by with_unfolding_all rfl, by rfl, of_decide_eq_true (by with_unfolding_all rfl), c_field_text (by walk_at "pre") ?_ ?_⟩ <;> (intros; walk_at "ff")))
def t_field_text (c : Cn) (W : WX) : TS :=
  (tSeq (tIfS (tNot (tB (tCB (rIsi c.K) (tCons (tVar 0) (tCons (tC (.ref (c.cls 0))) tNil))))) (tRaise (c.cls 41) (spI1 c.K "found") W (tCons (tVar 0) tNil)) tNext)
    (tRet (tBM c.K "str" (rSJoin c.K) (tC (.str "; ")) (tCons (tLc (iList c.K (tMeth (c.cls 0) "rows" (spOf c 1 S_Field_rows) [] E0 (tVar 0) tNil)) (gName 1) tYes (tBM c.K "str" (rSJoin c.K) (tC (.str " ")) (tCons (tLc (iList c.K (tVar 1)) (gName 2) tYes (tCB rStr1 (tCons (tVar 2) tNil)) [2]) tNil)) [1]) tNil))))
theorem w_field_text {c : Cn} (hC : CFL c) (hE : CEL c) : WkX c 1 2 [0] S_field_text (t_field_text c) := by
  rintro ts Post ⟨d, o, r, rfl, h0, q0, q1⟩ - A rfl hK W hX
  show WS A _ [some (.frz o d), none, none] _ _ _ _
  unfold t_field_text
  cases h0 with
  | no hd =>
    walk_at "tl"
    exact q1 (Str.ofString "") rfl
  | @ok h w f hf =>
    have z1 := hf.h1
    have z2 := hf.h2
    have z3 := hf.w1
    have z4 := hf.w2
    walk_at "tl"
    refine ⟨_, _, rfl, ?_⟩
    walk_at "tl"
    refine we_lc (by rw [hK]; rfl) (wi_listF ?_)
    walk_at "tl"
    refine ⟨_, _, gT_data, ?_⟩
    refine lc_n (by omega) (fun y => S (rowTx (rowL f w y))) (fun i hi => ?_) ?_
    · have hrs := rowTx_sum (ns := rowL f w i) (by rw [rowL_len]; exact z4) (row_big hf hi)
      walk_at "rst"
      walk_at "tl"
      refine ⟨_, _, rfl, ?_⟩
      walk_at "tl"
      refine we_lc (by rw [hK]; rfl) (wi_listI ?_)
      walk_at "tl"
      refine ⟨_, rfl, lc_n (by rw [rowL_len]; omega) (fun x => S (wT (gi (rowL f w i) x))) (fun x hx => ?_) ?_⟩
      · have hb := row_big hf hi _ (gi_mem hx)
        walk_at "rst"
        walk_at "tl"
        refine wc_str_int (log2_lt (by have := hb.1; omega) (by have := hb.2; omega)) ?_
        exact ⟨rfl, rfl⟩
      walk_at "rst"
      rw [gi_rng (u := fun n => S (wT n))]
      walk_at "tl"
      refine ⟨_, (rowL f w i).map wT, rfl, by show D.lst (T.datas _) = _; rw [datas_map, List.map_map, List.map_map]; rfl, by have := hrs.1; omega, ?_⟩
      exact ⟨rfl, rfl⟩
    walk_at "rst"
    walk_at "tl"
    refine ⟨_, (List.range h).map fun y => rowTx (rowL f w y), rfl, by show D.lst (T.datas _) = _; rw [datas_map, List.map_map, List.map_map]; rfl, by have := (fldTx_sum hf).1; omega, ?_⟩
    exact q0 _ rfl
theorem dg_len : (Str.ofString "0123456789").length = 10 := by decide +kernel
theorem dg_all : ∀ j : Fin 10, si (Str.ofString "0123456789") j = 48 + j := by decide +kernel
theorem dg_si {j : Nat} (h : j < 10) : si (Str.ofString "0123456789") j = 48 + j := dg_all ⟨j, h⟩
/-- figures so far -/
structure Fig (N r : Nat) (s : Str) : Prop where
  e : numL N = (if r < 10 then [] else numL (r / 10)) ++ s.cps.toList
theorem Fig.len {N r : Nat} {s : Str} (h : Fig N r s) (hN : N < 1000000000000000) : s.length ≤ 15 := by
  have e := congrArg List.length h.e
  have e2 : s.cps.toList.length = s.length := Array.length_toList
  rw [List.length_append, e2] at e
  have := numL_l15 hN
  omega
theorem Fig.first {N : Nat} : Fig N N (sgn (48 + N % 10)) := ⟨by
  split
  · rename_i h
    rw [numL_lt h, Nat.mod_eq_of_lt h]
    rfl
  · rename_i h
    rw [numL_step (by omega)]
    rfl⟩
theorem Fig.step {N r : Nat} {s : Str} (h : Fig N r s) (hr : 9 < r) : Fig N (r / 10) (sgn (48 + r / 10 % 10) ++ s) := ⟨by
  have e := h.e
  rw [if_neg (by omega)] at e
  rw [e]
  show _ = _ ++ (sgn (48 + r / 10 % 10) ++ s).cps.toList
  rw [show (sgn (48 + r / 10 % 10) ++ s).cps = (sgn (48 + r / 10 % 10)).cps ++ s.cps from rfl, Array.toList_append, ← List.append_assoc]
  congr 1
  split
  · rename_i h1
    rw [numL_lt h1, Nat.mod_eq_of_lt h1]
    rfl
  · rename_i h1
    rw [numL_step (by omega)]
    rfl⟩
theorem Fig.last {N r : Nat} {s : Str} (h : Fig N r s) (hr : r < 10) : s.cps.toList = numL N := by
  have e := h.e
  rw [if_pos hr, List.nil_append] at e
  exact e.symm
/- law_written: 0 _law_number_here 1 _law_rest 2 _law_figures -/
def S_law_written : FS := fun ts Post => ∃ n : Int, ts = [I n] ∧ (Big n) ∧ (Post (.ret (S (wT n)) [some (I n)]))
theorem c_law_written {n : Int} {Post : FO → Prop} (h0 : Big n) (hp : Post (.ret (S (wT n)) [some (I n)])) : S_law_written [I n] Post := ⟨_, rfl, h0, hp⟩
local macro_rules | `(tactic| walk_at "call") => `(tactic| (refine ⟨_, by with_unfolding_all rfl, by rfl, of_decide_eq_true (by with_unfolding_all rfl), c_law_written (by walk_at "pre") ?_⟩; refine ⟨_, _, rfl, ?_⟩; try dsimp only [backT, List.set]))
def t_law_written (c : Cn) : TS :=
  (tSeq (tAsg (tCB rAbs (tCons (tVar 0) tNil)) (gName 1))
    (tSeq (tAsg (tOp (rIxA c.K) (tC (.str "0123456789")) (tOp (rI (fun _ j => 0 < j) fun i j => .int (i % j)) (tVar 1) (tC (.int 10)))) (gName 2))
    (tSeq (tWhile (tTest (tOp (rI0 fun i j => .bl (decide (j < i))) (tVar 1) (tC (.int 9)))) (tSeq (tAsg (tOp (rI CDivW fun i j => .int (i / j)) (tVar 1) (tC (.int 10))) (gName 1))
    (tAsg (tOp (rAddA c.K) (tOp (rIxA c.K) (tC (.str "0123456789")) (tOp (rI (fun _ j => 0 < j) fun i j => .int (i % j)) (tVar 1) (tC (.int 10)))) (tVar 2)) (gName 2))))
    (tRet (tOp (rAddA c.K) (tOp rMulA (tC (.str "-")) (tCB rIntA (tCons (tOp (rI0 fun i j => .bl (decide (i < j))) (tVar 0) (tC (.int 0))) tNil))) (tVar 2))))))
theorem w_law_written {c : Cn} (hC : CFL c) (hE : CEL c) : Wk c 1 2 [0] S_law_written (t_law_written c) := by
  rintro ts Post ⟨n, rfl, h0, hp⟩ - A rfl hK
  show WS A _ [some (I n), none, none] _ _ _ _
  unfold t_law_written
  walk_at "tl"
  have dl := dg_len
  have n1 := h0.1
  have n2 := h0.2
  walk_at "tl"
  rename_i r0 hr r1 r2
  obtain ⟨N, hN⟩ := Int.eq_ofNat_of_zero_le (show 0 ≤ (if n < 0 then -n else n) by split <;> omega)
  have hN2 : N < 1000000000000000 := by split at hN <;> omega
  rw [hN] at hr ⊢
  rw [dg_si (by omega), show r0.toNat = N % 10 by omega]
  refine ws_while (fun m e => ∃ (r : Nat) (s : Str), m = r ∧ r ≤ N ∧ Fig N r s ∧ e = [some (I n), some (I r), some (S s)]) ⟨N, N, _, rfl, Nat.le_refl _, Fig.first, rfl⟩ ?_
  rintro m e ⟨r, s, rfl, hle, hf, rfl⟩
  have hl := hf.len hN2
  walk_at "tl"
  · rename_i h9 rr e1 e2 e3
    rw [dg_si (by omega), show rr.toNat = 48 - 48 + m / 10 % 10 by omega, show 48 - 48 + m / 10 % 10 = m / 10 % 10 by omega]
    refine ⟨m / 10, by omega, m / 10, _, rfl, by omega, hf.step (by omega), ?_⟩
    rw [Int.natCast_ediv]
    rfl
  · rename_i h9 rr e1 e2
    have e := hf.last (by omega)
    by_cases hn : n < 0
    · rw [decide_eq_true hn]
      refine wr_add_str (by rw [show (bif true then Str.ofString "-" else Str.empty).length = 1 by decide +kernel]; omega) ?_
      rw [show (bif true then Str.ofString "-" else Str.empty) ++ s = wT n from ?_]
      · (exact hp)
      · refine Str.ext' (Array.toList_inj.mp ?_)
        show ((Str.ofString "-").cps ++ s.cps).toList = numI n
        rw [Array.toList_append, e, numI_neg hn, numI_pos (by omega), show (0 - n).toNat = N by rw [if_pos hn] at hN; omega]
        rfl
    · rw [decide_eq_false hn]
      refine wr_add_str (by rw [show (bif false then Str.ofString "-" else Str.empty).length = 0 by decide +kernel]; omega) ?_
      rw [show (bif false then Str.ofString "-" else Str.empty) ++ s = wT n from ?_]
      · (exact hp)
      · refine Str.ext' (Array.toList_inj.mp ?_)
        show (Str.empty.cps ++ s.cps).toList = numI n
        rw [Array.toList_append, e, numI_pos (by omega), show n.toNat = N by rw [if_neg hn] at hN; omega]
        rfl
theorem join_snoc {y p : Str} : ∀ {ps : List Str}, Str.join y (ps ++ [p]) = if ps = [] then p else Str.join y ps ++ y ++ p
  | [] => rfl
  | [a] => by rw [if_neg (by simp)]; rfl
  | a :: b :: r => by
    have e := join_snoc (y := y) (p := p) (ps := b :: r)
    rw [if_neg (by simp)] at e
    rw [if_neg (by simp)]
    show a ++ y ++ Str.join y ((b :: r) ++ [p]) = a ++ y ++ Str.join y (b :: r) ++ y ++ p
    rw [e]
    simp only [Str.append_assoc]
theorem str_app_e {x : Str} : x ++ Str.empty = x := Str.ext' (by show x.cps ++ Str.empty.cps = x.cps; rw [show Str.empty.cps = #[] from rfl, Array.append_empty])
/-- what stands ahead of the thing i -/
def ahead (y : Str) (i : Nat) : Str := if i = 0 then Str.empty else y
theorem joinR_S {y : Str} {u : Nat → Str} {i : Nat} : Txt.join y ((List.range (i + 1)).map u) = (Txt.join y ((List.range i).map u) ++ ahead y i) ++ u i := by
  rw [join_eq, join_eq, List.range_succ, List.map_append, List.map_singleton, join_snoc]
  unfold ahead
  cases i with
  | zero =>
    rw [if_pos (show List.map u (List.range 0) = [] from rfl), if_pos rfl]
    show u 0 = (Str.empty ++ Str.empty) ++ u 0
    exact Str.ext' (by show _ = (Str.empty.cps ++ Str.empty.cps) ++ (u 0).cps; rw [show Str.empty.cps = #[] from rfl, Array.empty_append, Array.empty_append])
  | succ i => rw [if_neg (by simp), if_neg (by omega)]
theorem row_tx {y : Nat} {f : Gr} {u : Nat} : rowTx (rowL f u y) = Txt.join (Str.ofString " ") ((List.range u).map fun x => wT (f y x)) := by
  unfold rowTx rowL
  rw [List.map_map]
  rfl
/- law_text: 0 _law_rows_here 1 _law_text_here 2 _law_y 3 _law_row 4 _law_x 5 _law_number_here -/
def S_law_text : FS := fun ts Post => ∃ h : Nat, ∃ w : Nat, ∃ f : Gr, ∃ o : Option V, ts = [.frz o (gD h w f)] ∧ (FdOk h w f) ∧ (Post (.ret (S (fldTx h w f)) [some (.frz o (gD h w f))]))
theorem c_law_text {h : Nat} {w : Nat} {f : Gr} {o : Option V} {Post : FO → Prop} (h0 : FdOk h w f) (hp : Post (.ret (S (fldTx h w f)) [some (.frz o (gD h w f))])) : S_law_text [.frz o (gD h w f)] Post := ⟨_, _, _, _, rfl, h0, hp⟩
local macro_rules | `(tactic| walk_at "call") => `(tactic| (refine ⟨_, by with_unfolding_all rfl, by rfl, of_decide_eq_true (by with_unfolding_all rfl), c_law_text (by walk_at "pre") ?_⟩; refine ⟨_, _, rfl, ?_⟩; try dsimp only [backT, List.set]))
def t_law_text (c : Cn) : TS :=
  (tSeq (tAsg (tC (.str "")) (gName 1))
    (tSeq (tFor (iEnum c.K (tCons (tVar 0) tNil)) (gTup c.K 2 (gCons (gName 2) (gCons (gName 3) gNil))) (tSeq (tIfS (tTest (tOp (rI0 fun i j => .bl (decide (j < i))) (tVar 2) (tC (.int 0)))) (tAsg (tOp (rAddA c.K) (tVar 1) (tC (.str "; "))) (gName 1)) tNext)
    (tFor (iEnum c.K (tCons (tVar 3) tNil)) (gTup c.K 2 (gCons (gName 4) (gCons (gName 5) gNil))) (tSeq (tIfS (tTest (tOp (rI0 fun i j => .bl (decide (j < i))) (tVar 4) (tC (.int 0)))) (tAsg (tOp (rAddA c.K) (tVar 1) (tC (.str " "))) (gName 1)) tNext)
    (tAsg (tOp (rAddA c.K) (tVar 1) (tCall (spOf c 1 S_law_written) [] E0 (tCons (tVar 5) tNil))) (gName 1))))))
    (tRet (tVar 1))))
theorem w_law_text {c : Cn} (hC : CFL c) (hE : CEL c) : Wk c 1 5 [0] S_law_text (t_law_text c) := by
  rintro ts Post ⟨h, w, f, o, rfl, h0, hp⟩ - A rfl hK
  show WS A _ [some (.frz o (gD h w f)), none, none, none, none, none] _ _ _ _
  unfold t_law_text
  have z1 := h0.h1
  have z2 := h0.h2
  have z3 := h0.w1
  have z4 := h0.w2
  walk_at "tl"
  refine ws_for (wi_enumF ?_)
  walk_at "tl"
  refine ⟨_, _, _, rfl, rfl, ?_⟩
  refine loop_n (fun _ i e => ∃ x2 x3 x4 x5 : Option T, e = [some (.frz o (gD h w f)), some (S (fldTx i w f)), x2, x3, x4, x5]) ?_ ?_ ?_
  · exact ⟨_, _, _, _, rfl⟩
  · rintro i e hi ⟨x2, x3, x4, x5, rfl⟩
    have hok : FdOk (i + 1) w f := ⟨by omega, by omega, z3, z4, Nat.le_trans (Nat.mul_le_mul_right w (show i + 1 ≤ h by omega)) h0.hw, fun y x hy hx => h0.b y x (by omega) hx⟩
    have hl := (fldTx_sum hok).2
    have eJ : fldTx (i + 1) w f = (fldTx i w f ++ ahead (Str.ofString "; ") i) ++ rowTx (rowL f w i) := joinR_S
    rw [eJ, str_app_len] at hl
    iterate 7 walk_at "tl1"
    refine ws_imp (nx' := fun e => ∃ y4 y5 : Option T, e = [some (.frz o (gD h w f)), some (S (fldTx i w f ++ ahead (Str.ofString "; ") i)), some (I i), some (.frz none (.lst ((rowL f w i).map D.int))), y4, y5]) ?_ ?_
    · rw [str_app_len] at hl
      have l2 : (Str.ofString "; ").length = 2 := by decide +kernel
      walk_at "tl"
      · rename_i hz
        rw [show ahead (Str.ofString "; ") i = Str.ofString "; " from if_neg (by omega)] at hl ⊢
        exact ⟨_, _, rfl⟩
      · rename_i hz
        rw [show ahead (Str.ofString "; ") i = Str.empty from if_pos (by omega), str_app_e]
        exact ⟨_, _, rfl⟩
    · rintro e ⟨y4, y5, rfl⟩
      generalize hT : fldTx i w f ++ ahead (Str.ofString "; ") i = T0 at *
      refine ws_for (wi_enumI ?_)
      walk_at "tl"
      refine ⟨_, rowL f w i, rfl, rfl, ?_⟩
      rw [rowL_len]
      refine loop_n (fun _ x e => ∃ z4 z5 : Option T, e = [some (.frz o (gD h w f)), some (S (T0 ++ rowTx (rowL f x i))), some (I i), some (.frz none (.lst ((rowL f w i).map D.int))), z4, z5]) ?_ ?_ ?_
      · exact ⟨_, _, rfl⟩
      · rintro x e hx ⟨z4, z5, rfl⟩
        have hb := row_big h0 hi _ (gi_mem (i := x) (by rw [rowL_len]; exact hx))
        have hlx := rowTx_len (ns := rowL f (x + 1) i) (by rw [rowL_len]; omega) (fun n hn => by
          obtain ⟨j, hj, rfl⟩ := mem_rg hn
          exact row_big h0 hi _ (List.mem_map.mpr ⟨j, List.mem_range.mpr (by omega), rfl⟩))
        have eX : rowTx (rowL f (x + 1) i) = (rowTx (rowL f x i) ++ ahead (Str.ofString " ") x) ++ wT (f i x) := by
          rw [row_tx, row_tx]
          exact joinR_S
        rw [eX, str_app_len, str_app_len] at hlx
        have hT2 : T0.length ≤ 69760 := by omega
        have eg : gi (rowL f w i) x = f i x := rowL_gi hx
        rw [eg] at hb
        iterate 7 walk_at "tl1"
        refine ws_imp (nx' := fun e => e = [some (.frz o (gD h w f)), some (S (T0 ++ (rowTx (rowL f x i) ++ ahead (Str.ofString " ") x))), some (I i), some (.frz none (.lst ((rowL f w i).map D.int))), some (I x), some (I (f i x))]) ?_ ?_
        · have l1 : (Str.ofString " ").length = 1 := by decide +kernel
          have l3 : (T0 ++ rowTx (rowL f x i)).length = T0.length + (rowTx (rowL f x i)).length := str_app_len
          rw [eg]
          walk_at "tl"
          · rename_i hz
            rw [show ahead (Str.ofString " ") x = Str.ofString " " from if_neg (by omega), Str.append_assoc]
          · rename_i hz
            rw [show ahead (Str.ofString " ") x = Str.empty from if_pos (by omega), str_app_e]
        · rintro e ⟨rfl⟩
          walk_at "tl"
          refine wr_add_str (by rw [str_app_len, str_app_len]; omega) ?_
          walk_at "tl"
          rw [Str.append_assoc, ← eX]
          exact ⟨_, _, rfl⟩
      · rintro e ⟨z4, z5, rfl⟩
        rw [← eJ]
        exact ⟨_, _, _, _, rfl⟩
  · rintro e ⟨x2, x3, x4, x5, rfl⟩
    walk_at "tl"
    (exact hp)
def seedX (sd : Int) (y x : Nat) : Int := (sd + 7919 * (64 * (y : Int) + x)) ^ 3 % 2147483629
def seedG (sd : Int) (wd : Int) : Gr := fun y x => if wd = 0 then seedX sd y x % 2001 - 1000 else (seedX sd y x - 1000000000) * 500009
local macro_rules | `(tactic| walk_at "tl1") => `(tactic| first | (show WR _ (rIxA _) (Ar.t (T.lst [_, _])) (Ar.t (T.frz _ (D.int 0))) _ _; refine wr_ix_tmpN (j := 0) rfl rfl ?_) | (show WR _ (rIxA _) (Ar.t (T.lst [_, _])) (Ar.t (T.frz _ (D.int 1))) _ _; refine wr_ix_tmpN (j := 1) rfl rfl ?_))
/- law_rows: 0 _law_box_here 1 _law_size_here 2 _law_seed 3 _law_wide 4 _law_rows_here 5 _law_y 6 _law_some 7 _law_x 8 _law_number_here -/
def S_law_rows : FS := fun ts Post => ∃ m : Nat, ∃ t : T, ∃ h : Nat, ∃ w : Nat, ∃ o : Option V, ts = [t, .frz o (.tup [.int (h : Int), .int (w : Int)])] ∧ (Box m t) ∧ (m ≤ 100000000) ∧ (SizeOk h w) ∧ (∀ (f : Gr), ∀ (t1 : T), (FdOk h w f) → (Box (m + 20000) t1) → Post (.ret (gT h w f) [some (t1), some (.frz o (.tup [.int (h : Int), .int (w : Int)]))]))
theorem c_law_rows {m : Nat} {t : T} {h : Nat} {w : Nat} {o : Option V} {Post : FO → Prop} (h0 : Box m t) (h1 : m ≤ 100000000) (h2 : SizeOk h w) (hp : ∀ (f : Gr), ∀ (t1 : T), (FdOk h w f) → (Box (m + 20000) t1) → Post (.ret (gT h w f) [some (t1), some (.frz o (.tup [.int (h : Int), .int (w : Int)]))])) : S_law_rows [t, .frz o (.tup [.int (h : Int), .int (w : Int)])] Post := ⟨_, _, _, _, _, rfl, h0, h1, h2, hp⟩
local macro_rules | `(tactic| walk_at "call") => `(tactic| (refine ⟨_, by with_unfolding_all rfl, by rfl, of_decide_eq_true (by with_unfolding_all rfl), c_law_rows (by walk_at "pre") (by walk_at "pre") (by walk_at "pre") ?_⟩; intro f t1 g_0 g_1; refine ⟨_, _, rfl, ?_⟩; try dsimp only [backT, List.set]))
def t_law_rows (c : Cn) : TS :=
  (tSeq (tIfS (tTest (tOp (rI0 fun i j => .bl (decide (j < i))) (tOp rMulA (tOp (rIxA c.K) (tVar 1) (tC (.int 0))) (tOp (rIxA c.K) (tVar 1) (tC (.int 1)))) (tC (.int 81)))) (tSeq (tAsg (tCall (spOf c 2 S_law_take) [] E0 (tCons (tVar 0) (tCons (tOp (rI CPow fun i j => .int (i ^ j.toNat)) (tC (.int 10)) (tC (.int 8))) tNil))) (gName 2))
    (tSeq (tAsg (tCall (spOf c 2 S_law_take) [] E0 (tCons (tVar 0) (tCons (tC (.int 2)) tNil))) (gName 3))
    (tSeq (tAsg (tLst tNil) (gName 4))
    (tSeq (tFor (iRng1 (tCons (tOp (rIxA c.K) (tVar 1) (tC (.int 0))) tNil)) (gName 5) (tSeq (tAsg (tLc (iRng1 (tCons (tOp (rIxA c.K) (tVar 1) (tC (.int 1))) tNil)) (gName 7) tYes (tOp (rI (fun _ j => 0 < j) fun i j => .int (i % j)) (tOp (rI CPow fun i j => .int (i ^ j.toNat)) (tOp (rAddA c.K) (tVar 2) (tOp rMulA (tC (.int 7919)) (tOp (rAddA c.K) (tOp rMulA (tC (.int 64)) (tVar 5)) (tVar 7)))) (tC (.int 3))) (tC (.int 2147483629))) [7]) (gName 6))
    (tDrop (tBM c.K "list" rAppend (tVar 4) (tCons (tLc (iList c.K (tVar 6)) (gName 8) tYes (tOp (rIxA c.K) (tLst (tCons (tOp (rI0 fun i j => .int (i - j)) (tOp (rI (fun _ j => 0 < j) fun i j => .int (i % j)) (tVar 8) (tC (.int 2001))) (tC (.int 1000))) (tCons (tOp rMulA (tOp (rI0 fun i j => .int (i - j)) (tVar 8) (tOp (rI CPow fun i j => .int (i ^ j.toNat)) (tC (.int 10)) (tC (.int 9)))) (tC (.int 500009))) tNil))) (tVar 3)) [8]) tNil)))))
    (tRet (tVar 4)))))) tNext)
    (tRet (tLc (iRng1 (tCons (tOp (rIxA c.K) (tVar 1) (tC (.int 0))) tNil)) (gName 5) tYes (tLc (iRng1 (tCons (tOp (rIxA c.K) (tVar 1) (tC (.int 1))) tNil)) (gName 7) tYes (tCall (spOf c 1 S_law_number) [] E0 (tCons (tVar 0) tNil)) [7]) [5])))
theorem w_law_rows {c : Cn} (hC : CFL c) (hE : CEL c) : Wk c 2 7 [0, 1] S_law_rows (t_law_rows c) := by
  rintro ts Post ⟨m, t, h, w, o, rfl, h0, h1, h2, hp⟩ - A rfl hK
  show WS A _ [some (t), some (.frz o (.tup [.int (h : Int), .int (w : Int)])), none, none, none, none, none, none, none] _ _ _ _
  unfold t_law_rows
  have z1 := h2.h1
  have z2 := h2.h2
  have z3 := h2.w1
  have z4 := h2.w2
  have z5 : h * w ≤ 512 := by have := h2.hw; exact_mod_cast this
  have fd : ∀ f : Gr, (∀ y x, y < h → x < w → -999999999999999 ≤ f y x ∧ f y x ≤ 999999999999999) → FdOk h w f := fun f hb => ⟨by omega, by omega, by omega, by omega, z5, hb⟩
  walk_at "tl"
  · rename_i sd tb1 hs0 hs1 hb1 wd tb2 wd0 wd1 hb2
    refine ws_for_rng1 ?_
    walk_at "tl"
    refine ⟨_, _, rfl, by omega, by omega, loop_rng (fun _ i e => ∃ x5 x6 x7 x8 : Option T, e = [some tb2, some (.frz o (.tup [.int (h : Int), .int (w : Int)])), some (I sd), some (I wd), some (gT i w (seedG sd wd)), x5, x6, x7, x8]) ?_ ?_ ?_⟩
    · exact ⟨_, _, _, _, rfl⟩
    · rintro i e hi ⟨x5, x6, x7, x8, rfl⟩
      walk_at "tl"
      refine we_lc_rng1 (by show (A.keep.all _) = true; rw [hK]; rfl) ?_
      walk_at "tl"
      refine ⟨_, _, rfl, by omega, by omega, lc_rng (fun x => I (seedX sd i x)) (fun j hj => ?_) ?_⟩
      · walk_at "rst"
        walk_at "tl"
        rename_i r hr _ _
        rw [hr]
        exact ⟨rfl, rfl⟩
      rw [mapI]
      walk_at "rst"
      walk_at "tl"
      refine we_fixS (i := 6) (by with_unfolding_all rfl) ?_
      have hl : ((List.range (w : Int).toNat).map fun x : Nat => seedX sd i x).length = w := by rw [List.length_map, List.length_range, Int.toNat_natCast]
      have hg : ∀ x, x < w → gi ((List.range (w : Int).toNat).map fun x : Nat => seedX sd i x) x = seedX sd i x := fun x hx => gi_map (by omega)
      have hgb : ∀ x, 0 ≤ seedX sd i x ∧ seedX sd i x < 2147483629 := fun x => ⟨Int.emod_nonneg _ (by decide), Int.emod_lt_of_pos _ (by decide)⟩
      generalize ((List.range (w : Int).toNat).map fun x : Nat => seedX sd i x) = L at hl hg ⊢
      rw [show (T.lst (L.map I)).data = .lst (L.map D.int) from congrArg D.lst (datas_I _)]
      dsimp only [List.set]
      refine we_lc (by show (A.keep.all _) = true; rw [hK]; rfl) (wi_listI ?_)
      walk_at "tl"
      refine ⟨_, rfl, lc_n (by omega) (fun x => I (seedG sd wd i x)) (fun j hj => ?_) ?_⟩
      · have e1 := hg j (by omega)
        have e2 := hgb j
        rw [← e1] at e2
        unfold seedG
        rw [← e1]
        rcases (show wd = 0 ∨ wd = 1 by omega) with rfl | rfl
        · walk_at "rst"
          walk_at "tl"
          rename_i r hr _ _
          exact ⟨by rw [hr]; rfl, rfl⟩
        · walk_at "rst"
          walk_at "tl"
          exact ⟨rfl, rfl⟩
      rw [mapI, show (List.range L.length).map (fun x => seedG sd wd i x) = rowL (seedG sd wd) w i from by rw [hl]; rfl]
      walk_at "rst"
      walk_at "tl"
      rw [← List.map_singleton (f := fun y => T.lst ((rowL (seedG sd wd) w y).map I)), ← List.map_append, ← List.range_succ]
      exact ⟨_, _, _, _, rfl⟩
    · rintro e ⟨x5, x6, x7, x8, rfl⟩
      walk_at "tl"
      rw [Int.toNat_natCast]
      refine hp _ _ (fd _ fun y x hy hx => ?_) (by walk_at "pre")
      have e2 : 0 ≤ seedX sd y x ∧ seedX sd y x < 2147483629 := ⟨Int.emod_nonneg _ (by decide), Int.emod_lt_of_pos _ (by decide)⟩
      unfold seedG
      generalize seedX sd y x = X at *
      split <;> omega
  · refine we_lc_rng1 (by show (A.keep.all _) = true; rw [hK]; rfl) ?_
    walk_at "tl"
    refine ⟨_, _, rfl, by omega, by omega, lc_boxR 0 m 256 w (-999999999999999) 999999999999999 ⟨_, rfl, by walk_at "pre"⟩ (fun i t2 hi hb => ?_) (fun f t2 hf hb => ?_)⟩
    · walk_at "rst"
      walk_at "tl"
      refine we_lc_rng1 (by show (A.keep.all _) = true; rw [hK]; rfl) ?_
      walk_at "tl"
      refine ⟨_, _, rfl, by omega, by omega, lc_box 0 (m + 256 * i) 4 (-999999999999999) 999999999999999 ⟨_, rfl, by walk_at "pre"⟩ (fun i2 t3 hi2 hb2 => ?_) (fun ns t3 hl hr hb2 => ?_)⟩
      · walk_at "rst"
        walk_at "tl"
        exact ⟨_, _, rfl, by omega, by walk_at "pre", rfl⟩
      · walk_at "rst"
        exact ⟨ns, _, rfl, by omega, hr, by walk_at "pre", rfl⟩
    · walk_at "rst"
      rw [Int.toNat_natCast] at *
      exact hp f _ (fd _ hf) (by walk_at "pre")
/- law_refused: 0 _law_thing 1 _law_told 2 e -/
def S_law_refused : FS := fun ts Post => ∃ d : D, ts = [F d] ∧ (d.typ) ∧ ((D.lst [d]).okZ) ∧ (Post (.ret (B true) [some (F d)]))
theorem c_law_refused {d : D} {Post : FO → Prop} (h0 : d.typ) (h1 : (D.lst [d]).okZ) (hp : Post (.ret (B true) [some (F d)])) : S_law_refused [F d] Post := ⟨_, rfl, h0, h1, hp⟩
local macro_rules | `(tactic| walk_at "call") => `(tactic| (refine ⟨_, by with_unfolding_all rfl, by rfl, of_decide_eq_true (by with_unfolding_all rfl), c_law_refused (by walk_at "pre") (by walk_at "pre") ?_⟩; refine ⟨_, _, rfl, ?_⟩; try dsimp only [backT, List.set]))
def t_law_refused (c : Cn) : TS :=
  (tSeq (tAsg (tC .non) (gName 1))
    (tSeq (tTryAs c.K (c.cls 40) 2 (fun W1 => (tDrop (tCallSD (spX c 1 S_field_text) [] (fun σ cls d H => W1 cls d σ H) (tCons (tVar 0) tNil)))) (fun a cls d => (tIfS (tAnd (tB (tCB (rIsX c.K a cls d) (tCons (tVar 2) (tCons (tC (.ref (c.cls 41))) tNil)))) (tNot (tB (tCB (rIsX c.K a cls d) (tCons (tVar 2) (tCons (tC (.ref (c.cls 45))) tNil)))))) (tAsg (tLst (tCons (tXf a cls d (c.cls 41) "found" (tVar 2)) tNil)) (gName 1)) tNext)) W0)
    (tRet (tAndV (tOp rNotN' (tVar 1) (tC .non)) (tOp (rEqA c.K) (tCB (rReprZ c.K) (tCons (tVar 1) tNil)) (tCB (rReprZ c.K) (tCons (tLst (tCons (tVar 0) tNil)) tNil)))))))
theorem w_law_refused {c : Cn} (hC : CFL c) (hE : CEL c) : Wk c 1 2 [0] S_law_refused (t_law_refused c) := by
  rintro ts Post ⟨d, rfl, h0, h1, hp⟩ - A rfl hK
  show WS A _ [some (F d), none, none] _ _ _ _
  unfold t_law_refused
  have h2 : FtR d none := .no h0
  walk_at "tl"
  · rename_i hx
    cases hx
  · refine wc_reprZ rfl h1 ?_
    walk_at "tl"
    refine wc_reprZ rfl h1 ?_
    walk_at "tl"
    rw [show decide ((D.lst [d]).pyZ.shown = (T.lst [T.frz none d]).data.pyZ.shown) = true from decide_eq_true rfl]
    exact hp
theorem sm1 {b w k : Nat} {d : D} (h : d.sm b w k) : (D.lst [d]).sm b (w + 1) (k + 1) := (sm_lst (b := b) (w := w) (k := k) fun x hx => by
  rw [List.mem_singleton.mp hx]
  exact h).up (by show 1 * (w + 1) ≤ w + 1; omega) (Nat.le_refl _)
theorem grid1_ok {h w : Nat} {f : Gr} (hf : FdOk h w f) : (gD h w f).ok ∧ (D.lst [gD h w f]).ok := by
  have s : (gD h w f).sm 40 (64 * (64 * 82 + 1)) 2 := (sm_lst (b := 40) (w := 64 * 82) (k := 1) fun d hd => by
    obtain ⟨y, hy, rfl⟩ := List.mem_map.mp hd
    have hy := List.mem_range.mp hy
    exact sm_big (fun x hx => by obtain ⟨i, hi, rfl⟩ := mem_rg hx; have := hf.b y i hy hi; omega) (by rw [rowL_len]; exact hf.w2)).up (by rw [List.length_map, List.length_range]; exact Nat.mul_le_mul_right _ hf.h2) (by decide)
  exact ⟨s.ok (by decide) (by decide) (by decide), (sm1 s).ok (by decide) (by decide) (by decide)⟩
theorem mem_fldTx {h w : Nat} {f : Gr} {c : Nat} (hc : c ∈ (fldTx h w f).cps.toList) : c ≤ 59 := by
  have e : (fldTx h w f).cps.toList = joinL (tl (Str.ofString "; ")) (((List.range h).map fun y => rowTx (rowL f w y)).map tl) := by
    rw [← tl_join, ← join_eq]
    rfl
  rw [e] at hc
  rcases mem_joinL hc with hc | ⟨p, hp, hc⟩
  · rw [show tl (Str.ofString "; ") = [59, 32] by decide +kernel] at hc
    simp at hc
    omega
  · obtain ⟨q, hq, rfl⟩ := List.mem_map.mp hp
    obtain ⟨n, hn, rfl⟩ := List.mem_map.mp hq
    have := mem_rowTx hc
    omega
theorem txt1_ok {h w : Nat} {f : Gr} (hf : FdOk h w f) : (D.lst [D.str (fldTx h w f)]).ok :=
  (sm1 (sm_str (b := 8) (w := 69760) (List.all_eq_true.mpr fun c hc => by
    have := mem_fldTx hc
    exact decide_eq_true (by omega)) (fldTx_sum hf).2)).ok (by decide) (by decide) (by decide)
theorem okZ_B {d : D} (h : (d.plZ && d.pyZ.showable && decide (d.pyZ.depth ≤ 100) && decide (d.pyZ.shown.length ≤ 100000)) = true) : d.okZ := by
  simp only [Bool.and_eq_true, decide_eq_true_eq] at h
  exact ⟨h.1.1.1, h.1.1.2, h.1.2, Nat.le_trans h.2 (by rw [sizeLine_eq]; decide)⟩
def smF : Gr := fun y x => if y = 0 then -7 else 0
theorem sm_tx : Str.ofString "-7; 0" = fldTx 2 1 smF := by decide +kernel
theorem sm_sh : (gD 2 1 smF).py.shown = Str.ofString "[[-7], [0]]" := by decide +kernel
theorem sm_ok : FdOk 2 1 smF := ⟨by decide, by decide, by decide, by decide, by decide, fun y x hy hx => by unfold smF; split <;> omega⟩
theorem c_ftext_ok {h w : Nat} {f : Gr} {o : Option V} {Post : FO → Prop} (hf : FdOk h w f) (hp : Post (.ret (S (fldTx h w f)) [some (.frz o (fldD h w f))])) : S_field_text [.frz o (fldD h w f)] Post :=
  c_field_text (.ok hf) (fun x e => by cases e; exact hp) (fun x e => by cases e)
local macro_rules | `(tactic| walk_at "call") => `(tactic| (refine ⟨_, by with_unfolding_all rfl, by rfl, of_decide_eq_true (by with_unfolding_all rfl), c_ftext_ok (by assumption) ?_⟩; refine ⟨_, _, rfl, ?_⟩; try dsimp only [backT, List.set]))
theorem fi_reprZf {A : Amb} {env : Env} {Post : T → Env → Prop} {d : D} {o : Option V} (hd : d.okZ) (q : Post (S d.pyZ.shown) env) : WC A (rReprZ A.c.K) [.t (.frz o d)] env Post := wc_reprZ rfl hd q
theorem fi_reprZg {A : Amb} {env : Env} {Post : T → Env → Prop} {h w : Nat} {f : Gr} (hd : (gD h w f).okZ) (q : Post (S (gD h w f).pyZ.shown) env) : WC A (rReprZ A.c.K) [.t (gT h w f)] env Post := fi_reprZ gT_data hd q
local macro_rules | `(tactic| walk_at "wc") => `(tactic| first | (refine fi_reprZf (by assumption) ?_) | (refine fi_reprZg (by assumption) ?_))
/- law: 0 _law_script 1 _law_k 2 _law_box_here 3 _law_size_here 4 _law_rows_here 5 _law_field 6 _law_due 7 _law_turn 8 _law_thing 9 _law_text_here 10 _law_other 11 _law_row -/
def S_law : FS := fun ts Post => ∃ ns : List Int, ts = [F (.scr ns)] ∧ (Post (.ret (B true) [some (F (.scr ns))]))
theorem c_law {ns : List Int} {Post : FO → Prop}  (hp : Post (.ret (B true) [some (F (.scr ns))])) : S_law [F (.scr ns)] Post := ⟨_, rfl, hp⟩
local macro_rules | `(tactic| walk_at "call") => `(tactic| (refine ⟨_, by with_unfolding_all rfl, by rfl, of_decide_eq_true (by with_unfolding_all rfl), c_law  ?_⟩; refine ⟨_, _, rfl, ?_⟩; try dsimp only [backT, List.set]))
def t_law (c : Cn) : TS :=
  (tSeq (tFor (iRng1 (tCons (tCB rMax2 (tCons (tC (.int 2)) (tCons (tCB rMin2 (tCons (tCB (rLenA c.K) (tCons (tVar 0) tNil)) (tCons (tC (.int 10)) tNil))) tNil))) tNil)) (gName 1) (tSeq (tAsg (tCall (spOf c 1 S_law_box) [] E0 (tCons (tCall (spOf c 2 S_law_cell) [] E0 (tCons (tVar 0) (tCons (tVar 1) tNil))) tNil)) (gName 2))
    (tSeq (tAsg (tCall (spOf c 1 S_law_size) [] E0 (tCons (tVar 2) tNil)) (gName 3))
    (tSeq (tAsg (tCall (spOf c 2 S_law_rows) [] E0 (tCons (tVar 2) (tCons (tVar 3) tNil))) (gName 4))
    (tSeq (tAsg (tMake (c.cls 0) (spOf c 2 S_Field_init) [] E0 (tCons (tLc (iList c.K (tVar 4)) (gName 11) tYes (tCB (rListOf c.K) (tCons (tVar 11) tNil)) [11]) tNil)) (gName 5))
    (tSeq (tAsg (tCall (spOf c 1 S_law_text) [] E0 (tCons (tVar 4) tNil)) (gName 6))
    (tSeq (tFor (iRng1 (tCons (tC (.int 2)) tNil)) (gName 7) (tSeq (tAsg (tCall (spX c 1 S_field_text) [] E0 (tCons (tVar 5) tNil)) (gName 9))
    (tSeq (tAsg (tCall (spOf c 1 S_read_field) [] E0 (tCons (tVar 9) tNil)) (gName 10))
    (tSeq (tIfS (tOr (tNot (tB (tCB (rIsi c.K) (tCons (tVar 9) (tCons (tC (.ty "str")) tNil))))) (tOr (tTest (tOp (rNeA c.K) (tVar 9) (tVar 6))) (tNot (tB (tCB (rIsi c.K) (tCons (tVar 10) (tCons (tC (.ref (c.cls 0))) tNil))))))) (tRet (tC (.bl false))) tNext)
    (tSeq (tIfS (tOr (tTest (tOp (rNeA c.K) (tCB (rReprZ c.K) (tCons (tMeth (c.cls 0) "rows" (spOf c 1 S_Field_rows) [] E0 (tVar 10) tNil) tNil)) (tCB (rReprZ c.K) (tCons (tVar 4) tNil)))) (tOr (tTest (tOp (rNeA c.K) (tCall (spX c 1 S_field_text) [] E0 (tCons (tVar 10) tNil)) (tVar 6))) (tTest (tOp (rNeA c.K) (tCB (rReprZ c.K) (tCons (tMeth (c.cls 0) "rows" (spOf c 1 S_Field_rows) [] E0 (tVar 5) tNil) tNil)) (tCB (rReprZ c.K) (tCons (tVar 4) tNil)))))) (tRet (tC (.bl false))) tNext)
    (tIfS (tTest (tOp (rNeA c.K) (tCB (rReprZ c.K) (tCons (tMeth (c.cls 0) "rows" (spOf c 1 S_Field_rows) [] E0 (tCall (spOf c 1 S_read_field) [] E0 (tCons (tC (.str "-7; 0")) tNil)) tNil) tNil)) (tC (.str "[[-7], [0]]")))) (tRet (tC (.bl false))) tNext))))))
    (tFor (iList c.K (tLst (tCons (tC .non) (tCons (tVar 4) (tCons (tVar 6) (tCons (tC (.int 0)) (tCons (tC (.bl true)) (tCons (tTup tNil) (tCons tDNewK tNil))))))))) (gName 8) (tIfS (tNot (tB (tCall (spOf c 1 S_law_refused) [] E0 (tCons (tVar 8) tNil)))) (tRet (tC (.bl false))) tNext)))))))))
    (tRet (tC (.bl true))))
theorem w_law {c : Cn} (hC : CFL c) (hE : CEL c) : Wk c 1 11 [0] S_law (t_law c) := by
  rintro ts Post ⟨ns, rfl, hp⟩ - A rfl hK
  show WS A _ [some (F (.scr ns)), none, none, none, none, none, none, none, none, none, none, none] _ _ _ _
  unfold t_law
  walk_at "tl"
  refine ws_for_rng1 ?_
  walk_at "tl"
  refine ⟨_, _, rfl, by omega, by omega, loop_rng (fun _ i e => ∃ x1 x2 x3 x4 x5 x6 x7 x8 x9 x10 x11 : Option T, e = [some (F (.scr ns)), x1, x2, x3, x4, x5, x6, x7, x8, x9, x10, x11]) ⟨_, _, _, _, _, _, _, _, _, _, _, rfl⟩ ?_ ?_⟩
  · rintro i e hi ⟨x1, x2, x3, x4, x5, x6, x7, x8, x9, x10, x11, rfl⟩
    walk_at "tl"
    rename_i r tb0 hb0 h0 w0 tb1 hz hb1
    obtain ⟨h, rfl⟩ := Int.eq_ofNat_of_zero_le (show 0 ≤ h0 by have := hz.h1; omega)
    obtain ⟨w, rfl⟩ := Int.eq_ofNat_of_zero_le (show 0 ≤ w0 by have := hz.w1; omega)
    walk_at "tl"
    rename_i f tb2 hf hb2
    have z1 := hf.h1
    have z2 := hf.h2
    have z3 := hf.w1
    have z4 := hf.w2
    refine we_fixS (i := 4) (by with_unfolding_all rfl) ?_
    rw [gT_data]
    dsimp only [List.set]
    refine we_lc (by show (A.keep.all _) = true; rw [hK]; rfl) (wi_listF ?_)
    walk_at "tl"
    refine ⟨_, _, rfl, ?_⟩
    refine lc_n (by omega) (fun y => T.lst ((rowL f w y).map I)) (fun y hy => ?_) ?_
    · walk_at "rst"
      walk_at "tl"
      exact ⟨rfl, rfl⟩
    walk_at "rst"
    walk_at "tl"
    refine ws_for_rng1 ?_
    walk_at "tl"
    refine ⟨_, _, rfl, by decide, by decide, loop_rng (fun _ j e => ∃ y7 y8 y9 y10 y11 : Option T, e = [some (F (.scr ns)), some (I (i : Int)), some tb2, some (F (.tup [.int (h : Int), .int (w : Int)])), some (F (gD h w f)), some (F (fldD h w f)), some (S (fldTx h w f)), y7, y8, y9, y10, y11]) ⟨_, _, _, _, _, rfl⟩ ?_ ?_⟩
    · rintro j e hj ⟨y7, y8, y9, y10, y11, rfl⟩
      have hg := (grid1_ok hf).1.Z
      have hg2 := (grid1_ok sm_ok).1.Z
      have hs2 := sm_ok
      rw [sm_tx]
      walk_at "tl"
      exact ⟨_, _, _, _, _, rfl⟩
    · rintro e ⟨y7, y8, y9, y10, y11, rfl⟩
      refine ws_for_list ?_
      walk_at "tl"
      refine ⟨_, rfl, loop_listP (p := fun d => d.typ ∧ (D.lst [d]).okZ) (fun _ j e => ∃ z7 z8 z9 z10 z11 : Option T, e = [some (F (.scr ns)), some (I (i : Int)), some tb2, some (F (.tup [.int (h : Int), .int (w : Int)])), some (F (gD h w f)), some (F (fldD h w f)), some (S (fldTx h w f)), z7, z8, z9, z10, z11]) ?_ ⟨_, _, _, _, _, rfl⟩ ?_ ?_⟩
      · intro d hd
        simp only [T.datas, T.data, List.mem_cons, List.not_mem_nil, or_false] at hd
        rcases hd with rfl | rfl | rfl | rfl | rfl | rfl | rfl
        · exact ⟨⟨_, rfl⟩, okZ_B (by decide +kernel)⟩
        · exact ⟨⟨_, rfl⟩, (grid1_ok hf).2.Z⟩
        · exact ⟨⟨_, rfl⟩, (txt1_ok hf).Z⟩
        · exact ⟨⟨_, rfl⟩, okZ_B (by decide +kernel)⟩
        · exact ⟨⟨_, rfl⟩, okZ_B (by decide +kernel)⟩
        · exact ⟨⟨_, rfl⟩, okZ_B (by decide +kernel)⟩
        · exact ⟨⟨_, rfl⟩, okZ_B (by decide +kernel)⟩
      · rintro j d e hd ⟨ht, hk⟩ ⟨z7, z8, z9, z10, z11, rfl⟩
        walk_at "tl"
        exact ⟨_, _, _, _, _, rfl⟩
      · rintro e ⟨z7, z8, z9, z10, z11, rfl⟩
        exact ⟨_, _, _, _, _, _, _, _, _, _, _, rfl⟩
  · rintro e ⟨x1, x2, x3, x4, x5, x6, x7, x8, x9, x10, x11, rfl⟩
    walk_at "tl"
    (exact hp)
def Tx (c : Cn) (mg : Str → Option Value) : Prop := (∃ h : Heap, c.K.In h ∧ h.Ns mainGlobals mg ∧ SaysZ faL fnL xsL c.K) ∧ c.cls = fun i => He.ga c.K (clsN i)
section
variable {c : Cn} {mg : Str → Option Value}
theorem fd_is_whole (T : Tx c mg) : ∃ f fd, mg "is_whole" = some (.ref f) ∧ FunD c.K "is_whole" "is_whole" (defArgs s_is_whole) (defBody s_is_whole) (defScope s_is_whole) [] [] f fd := by
  obtain ⟨⟨h, X, G, c⟩, _⟩ := T
  obtain ⟨fd, F⟩ := c.d.def_ 0 (d := d_is_whole) rfl
  exact ⟨_, fd, He.glo_ok X G (c.d.fact 0 (f := .glo "is_whole") rfl), F⟩
theorem fd_is_row (T : Tx c mg) : ∃ f fd, mg "is_row" = some (.ref f) ∧ FunD c.K "is_row" "is_row" (defArgs s_is_row) (defBody s_is_row) (defScope s_is_row) [] [] f fd := by
  obtain ⟨⟨h, X, G, c⟩, _⟩ := T
  obtain ⟨fd, F⟩ := c.d.def_ 1 (d := d_is_row) rfl
  exact ⟨_, fd, He.glo_ok X G (c.d.fact 1 (f := .glo "is_row") rfl), F⟩
theorem fd_are_rows (T : Tx c mg) : ∃ f fd, mg "are_rows" = some (.ref f) ∧ FunD c.K "are_rows" "are_rows" (defArgs s_are_rows) (defBody s_are_rows) (defScope s_are_rows) [] [] f fd := by
  obtain ⟨⟨h, X, G, c⟩, _⟩ := T
  obtain ⟨fd, F⟩ := c.d.def_ 2 (d := d_are_rows) rfl
  exact ⟨_, fd, He.glo_ok X G (c.d.fact 2 (f := .glo "are_rows") rfl), F⟩
theorem fd_field_text (T : Tx c mg) : ∃ f fd, mg "field_text" = some (.ref f) ∧ FunD c.K "field_text" "field_text" (defArgs s_field_text) (defBody s_field_text) (defScope s_field_text) [] [] f fd := by
  obtain ⟨⟨h, X, G, c⟩, _⟩ := T
  obtain ⟨fd, F⟩ := c.d.def_ 3 (d := d_field_text) rfl
  exact ⟨_, fd, He.glo_ok X G (c.d.fact 3 (f := .glo "field_text") rfl), F⟩
theorem fd_read_field (T : Tx c mg) : ∃ f fd, mg "read_field" = some (.ref f) ∧ FunD c.K "read_field" "read_field" (defArgs s_read_field) (defBody s_read_field) (defScope s_read_field) [] [] f fd := by
  obtain ⟨⟨h, X, G, c⟩, _⟩ := T
  obtain ⟨fd, F⟩ := c.d.def_ 4 (d := d_read_field) rfl
  exact ⟨_, fd, He.glo_ok X G (c.d.fact 4 (f := .glo "read_field") rfl), F⟩
theorem fd_read_row (T : Tx c mg) : ∃ f fd, mg "read_row" = some (.ref f) ∧ FunD c.K "read_row" "read_row" (defArgs s_read_row) (defBody s_read_row) (defScope s_read_row) [] [] f fd := by
  obtain ⟨⟨h, X, G, c⟩, _⟩ := T
  obtain ⟨fd, F⟩ := c.d.def_ 5 (d := d_read_row) rfl
  exact ⟨_, fd, He.glo_ok X G (c.d.fact 5 (f := .glo "read_row") rfl), F⟩
theorem fd_is_plain (T : Tx c mg) : ∃ f fd, mg "is_plain" = some (.ref f) ∧ FunD c.K "is_plain" "is_plain" (defArgs s_is_plain) (defBody s_is_plain) (defScope s_is_plain) [] [] f fd := by
  obtain ⟨⟨h, X, G, c⟩, _⟩ := T
  obtain ⟨fd, F⟩ := c.d.def_ 6 (d := d_is_plain) rfl
  exact ⟨_, fd, He.glo_ok X G (c.d.fact 6 (f := .glo "is_plain") rfl), F⟩
theorem fd_law_cell (T : Tx c mg) : ∃ f fd, mg "_law_cell" = some (.ref f) ∧ FunD c.K "_law_cell" "_law_cell" (defArgs s_law_cell) (defBody s_law_cell) (defScope s_law_cell) [] [] f fd := by
  obtain ⟨⟨h, X, G, c⟩, _⟩ := T
  obtain ⟨fd, F⟩ := c.d.def_ 7 (d := d_law_cell) rfl
  exact ⟨_, fd, He.glo_ok X G (c.d.fact 7 (f := .glo "_law_cell") rfl), F⟩
theorem fd_law_box (T : Tx c mg) : ∃ f fd, mg "_law_box" = some (.ref f) ∧ FunD c.K "_law_box" "_law_box" (defArgs s_law_box) (defBody s_law_box) (defScope s_law_box) [] [] f fd := by
  obtain ⟨⟨h, X, G, c⟩, _⟩ := T
  obtain ⟨fd, F⟩ := c.d.def_ 8 (d := d_law_box) rfl
  exact ⟨_, fd, He.glo_ok X G (c.d.fact 8 (f := .glo "_law_box") rfl), F⟩
theorem fd_law_take (T : Tx c mg) : ∃ f fd, mg "_law_take" = some (.ref f) ∧ FunD c.K "_law_take" "_law_take" (defArgs s_law_take) (defBody s_law_take) (defScope s_law_take) [] [] f fd := by
  obtain ⟨⟨h, X, G, c⟩, _⟩ := T
  obtain ⟨fd, F⟩ := c.d.def_ 9 (d := d_law_take) rfl
  exact ⟨_, fd, He.glo_ok X G (c.d.fact 9 (f := .glo "_law_take") rfl), F⟩
theorem fd_law_number (T : Tx c mg) : ∃ f fd, mg "_law_number" = some (.ref f) ∧ FunD c.K "_law_number" "_law_number" (defArgs s_law_number) (defBody s_law_number) (defScope s_law_number) [] [] f fd := by
  obtain ⟨⟨h, X, G, c⟩, _⟩ := T
  obtain ⟨fd, F⟩ := c.d.def_ 10 (d := d_law_number) rfl
  exact ⟨_, fd, He.glo_ok X G (c.d.fact 10 (f := .glo "_law_number") rfl), F⟩
theorem fd_law_size (T : Tx c mg) : ∃ f fd, mg "_law_size" = some (.ref f) ∧ FunD c.K "_law_size" "_law_size" (defArgs s_law_size) (defBody s_law_size) (defScope s_law_size) [] [] f fd := by
  obtain ⟨⟨h, X, G, c⟩, _⟩ := T
  obtain ⟨fd, F⟩ := c.d.def_ 11 (d := d_law_size) rfl
  exact ⟨_, fd, He.glo_ok X G (c.d.fact 11 (f := .glo "_law_size") rfl), F⟩
theorem fd_law_rows (T : Tx c mg) : ∃ f fd, mg "_law_rows" = some (.ref f) ∧ FunD c.K "_law_rows" "_law_rows" (defArgs s_law_rows) (defBody s_law_rows) (defScope s_law_rows) [] [] f fd := by
  obtain ⟨⟨h, X, G, c⟩, _⟩ := T
  obtain ⟨fd, F⟩ := c.d.def_ 12 (d := d_law_rows) rfl
  exact ⟨_, fd, He.glo_ok X G (c.d.fact 12 (f := .glo "_law_rows") rfl), F⟩
theorem fd_law_written (T : Tx c mg) : ∃ f fd, mg "_law_written" = some (.ref f) ∧ FunD c.K "_law_written" "_law_written" (defArgs s_law_written) (defBody s_law_written) (defScope s_law_written) [] [] f fd := by
  obtain ⟨⟨h, X, G, c⟩, _⟩ := T
  obtain ⟨fd, F⟩ := c.d.def_ 13 (d := d_law_written) rfl
  exact ⟨_, fd, He.glo_ok X G (c.d.fact 13 (f := .glo "_law_written") rfl), F⟩
theorem fd_law_text (T : Tx c mg) : ∃ f fd, mg "_law_text" = some (.ref f) ∧ FunD c.K "_law_text" "_law_text" (defArgs s_law_text) (defBody s_law_text) (defScope s_law_text) [] [] f fd := by
  obtain ⟨⟨h, X, G, c⟩, _⟩ := T
  obtain ⟨fd, F⟩ := c.d.def_ 14 (d := d_law_text) rfl
  exact ⟨_, fd, He.glo_ok X G (c.d.fact 14 (f := .glo "_law_text") rfl), F⟩
theorem fd_law_refused (T : Tx c mg) : ∃ f fd, mg "_law_refused" = some (.ref f) ∧ FunD c.K "_law_refused" "_law_refused" (defArgs s_law_refused) (defBody s_law_refused) (defScope s_law_refused) [] [] f fd := by
  obtain ⟨⟨h, X, G, c⟩, _⟩ := T
  obtain ⟨fd, F⟩ := c.d.def_ 15 (d := d_law_refused) rfl
  exact ⟨_, fd, He.glo_ok X G (c.d.fact 15 (f := .glo "_law_refused") rfl), F⟩
theorem fd_law (T : Tx c mg) : ∃ f fd, mg "law" = some (.ref f) ∧ FunD c.K "law" "law" (defArgs s_law) (defBody s_law) (defScope s_law) [] [] f fd := by
  obtain ⟨⟨h, X, G, c⟩, _⟩ := T
  obtain ⟨fd, F⟩ := c.d.def_ 16 (d := d_law) rfl
  exact ⟨_, fd, He.glo_ok X G (c.d.fact 16 (f := .glo "law") rfl), F⟩
theorem fr_bool (T : Tx c mg) : mg "bool" = none := let ⟨⟨_, X, G, c⟩, _⟩ := T; He.free_ok X G (c.d.fact 17 (f := .free "bool") rfl)
theorem fr_int (T : Tx c mg) : mg "int" = none := let ⟨⟨_, X, G, c⟩, _⟩ := T; He.free_ok X G (c.d.fact 18 (f := .free "int") rfl)
theorem fr_isinstance (T : Tx c mg) : mg "isinstance" = none := let ⟨⟨_, X, G, c⟩, _⟩ := T; He.free_ok X G (c.d.fact 19 (f := .free "isinstance") rfl)
theorem fr_len (T : Tx c mg) : mg "len" = none := let ⟨⟨_, X, G, c⟩, _⟩ := T; He.free_ok X G (c.d.fact 20 (f := .free "len") rfl)
theorem fr_list (T : Tx c mg) : mg "list" = none := let ⟨⟨_, X, G, c⟩, _⟩ := T; He.free_ok X G (c.d.fact 21 (f := .free "list") rfl)
theorem fr_str (T : Tx c mg) : mg "str" = none := let ⟨⟨_, X, G, c⟩, _⟩ := T; He.free_ok X G (c.d.fact 22 (f := .free "str") rfl)
theorem fr_max (T : Tx c mg) : mg "max" = none := let ⟨⟨_, X, G, c⟩, _⟩ := T; He.free_ok X G (c.d.fact 23 (f := .free "max") rfl)
theorem fr_min (T : Tx c mg) : mg "min" = none := let ⟨⟨_, X, G, c⟩, _⟩ := T; He.free_ok X G (c.d.fact 24 (f := .free "min") rfl)
theorem fr_range (T : Tx c mg) : mg "range" = none := let ⟨⟨_, X, G, c⟩, _⟩ := T; He.free_ok X G (c.d.fact 25 (f := .free "range") rfl)
theorem fr_abs (T : Tx c mg) : mg "abs" = none := let ⟨⟨_, X, G, c⟩, _⟩ := T; He.free_ok X G (c.d.fact 26 (f := .free "abs") rfl)
theorem fr_enumerate (T : Tx c mg) : mg "enumerate" = none := let ⟨⟨_, X, G, c⟩, _⟩ := T; He.free_ok X G (c.d.fact 27 (f := .free "enumerate") rfl)
theorem fr_repr (T : Tx c mg) : mg "repr" = none := let ⟨⟨_, X, G, c⟩, _⟩ := T; He.free_ok X G (c.d.fact 28 (f := .free "repr") rfl)
theorem gi_FIGURES (T : Tx c mg) : ∃ t, mg "FIGURES" = some (.int 999999999999999 t) := let ⟨⟨_, X, G, c⟩, _⟩ := T; He.int_ok X G (c.d.fact 29 (f := .int "FIGURES" 999999999999999) rfl)
theorem cn_Field (T : Tx c mg) : c.cls 0 = He.ga c.K "Field" := by rw [T.2]; rfl
theorem gl_Field (T : Tx c mg) : mg "Field" = some (.ref (c.cls 0)) := by
  rw [cn_Field T]
  obtain ⟨⟨h, X, G, c⟩, _⟩ := T
  exact He.glo_ok X G (c.d.fact 30 (f := .glo "Field") rfl)
theorem cl_Field (T : Tx c mg) : Cls c.K (c.cls 0) := by
  rw [cn_Field T]
  obtain ⟨⟨h, X, G, c⟩, _⟩ := T
  exact He.cls_ok (c.d.fact 31 (f := .cls "Field") rfl)
theorem cn_NoField (T : Tx c mg) : c.cls 41 = He.ga c.K "NoField" := by rw [T.2]; rfl
theorem gl_NoField (T : Tx c mg) : mg "NoField" = some (.ref (c.cls 41)) := by
  rw [cn_NoField T]
  obtain ⟨⟨h, X, G, c⟩, _⟩ := T
  exact He.glo_ok X G (c.d.fact 32 (f := .glo "NoField") rfl)
theorem cn_HalvedError (T : Tx c mg) : c.cls 40 = He.ga c.K "HalvedError" := by rw [T.2]; rfl
theorem gl_HalvedError (T : Tx c mg) : mg "HalvedError" = some (.ref (c.cls 40)) := by
  rw [cn_HalvedError T]
  obtain ⟨⟨h, X, G, c⟩, _⟩ := T
  exact He.glo_ok X G (c.d.fact 33 (f := .glo "HalvedError") rfl)
theorem cn_NoText (T : Tx c mg) : c.cls 45 = He.ga c.K "NoText" := by rw [T.2]; rfl
theorem gl_NoText (T : Tx c mg) : mg "NoText" = some (.ref (c.cls 45)) := by
  rw [cn_NoText T]
  obtain ⟨⟨h, X, G, c⟩, _⟩ := T
  exact He.glo_ok X G (c.d.fact 34 (f := .glo "NoText") rfl)
theorem na_Field_lines (T : Tx c mg) : NoAttr c.K (c.cls 0) "lines" := by
  rw [cn_Field T]
  obtain ⟨⟨h, X, G, c⟩, _⟩ := T
  exact He.noat_ok (c.d.fact 37 (f := .noat "Field" "lines") rfl)
theorem is_Field (T : Tx c mg) : Isi c.K (c.cls 0) := by
  rw [cn_Field T]
  obtain ⟨⟨h, X, G, c⟩, _⟩ := T
  exact isi_ok (c.x 0 (f := isiB "Field") rfl)
theorem kt_0 (T : Tx c mg) : PySem.W.kitOne c.K (.ref (c.cls 0)) (.ref (c.cls 0)) = some true := by
  rw [cn_Field T]
  obtain ⟨⟨h, X, G, c⟩, _⟩ := T
  exact kitK_ok (c.x 1 (f := kitK "Field" "Field" true) rfl)
theorem xk_NoField (T : Tx c mg) : XcC c.K (c.cls 41) := by
  rw [cn_NoField T]
  obtain ⟨⟨h, X, G, c⟩, _⟩ := T
  exact xcB_ok (c.x 2 (f := xcBx "NoField") rfl)
theorem xf_NoField (T : Tx c mg) : XfC c.K (c.cls 41) := (xk_NoField T).xf
theorem xv_NoField (T : Tx c mg) : PySem.W.kitOne c.K (.ref (c.cls 41)) (.type "ValueError") = some true := by
  rw [cn_NoField T]
  obtain ⟨⟨h, X, G, c⟩, _⟩ := T
  exact kveB_ok (c.x 3 (f := kveB "NoField") rfl)
theorem xn_NoField_found (T : Tx c mg) : PySem.W.findIn c.K (.ref (c.cls 41)) "found" = some none := by
  rw [cn_NoField T]
  obtain ⟨⟨h, X, G, c⟩, _⟩ := T
  exact xnB_ok (c.x 4 (f := xnBx "NoField" "found") rfl)
theorem xm_NoField_HalvedError (T : Tx c mg) : PySem.W.exmOne c.K (.ref (c.cls 41)) (.ref (c.cls 40)) = some true := by
  rw [cn_NoField T, cn_HalvedError T]
  obtain ⟨⟨h, X, G, c⟩, _⟩ := T
  exact exmB_ok (c.x 5 (f := exmBx "NoField" "HalvedError" true) rfl)
theorem xt_NoField_NoField (T : Tx c mg) : PySem.W.kitOne c.K (.ref (c.cls 41)) (.ref (c.cls 41)) = some true := by
  rw [cn_NoField T]
  obtain ⟨⟨h, X, G, c⟩, _⟩ := T
  exact kitK_ok (c.x 6 (f := kitK "NoField" "NoField" true) rfl)
theorem xt_NoField_NoText (T : Tx c mg) : PySem.W.kitOne c.K (.ref (c.cls 41)) (.ref (c.cls 45)) = some false := by
  rw [cn_NoField T, cn_NoText T]
  obtain ⟨⟨h, X, G, c⟩, _⟩ := T
  exact kitK_ok (c.x 7 (f := kitK "NoField" "NoText" false) rfl)
theorem ty_Field (T : Tx c mg) : ∀ n, n ∈ tyNames → PySem.W.kitOne c.K (.type n) (.ref (c.cls 0)) = some false := by
  rw [cn_Field T]
  obtain ⟨⟨h, X, G, c⟩, _⟩ := T
  exact kitTy_ok (c.x 8 (f := kitTy "Field") rfl)
theorem xi_HalvedError (T : Tx c mg) : XcI c.K (c.cls 40) := by
  rw [cn_HalvedError T]
  obtain ⟨⟨h, X, G, c⟩, _⟩ := T
  exact initB_ok (c.x 10 (f := initBx "HalvedError") rfl)
theorem ceT (T : Tx c mg) : CEL c := ⟨(fun _ h => by
    rcases List.mem_cons.mp h with rfl | h
    · exact xk_NoField T
    cases h)
, (fun _ h => by
    rcases List.mem_cons.mp h with rfl | h
    · exact xv_NoField T
    cases h)
, (fun _ h => by
    rcases List.mem_cons.mp h with rfl | h
    · exact xn_NoField_found T
    cases h)
, (fun _ h => by
    rcases List.mem_cons.mp h with rfl | h
    · exact xm_NoField_HalvedError T
    cases h)
, (fun _ h => by
    rcases List.mem_cons.mp h with rfl | h
    · exact xt_NoField_NoField T
    rcases List.mem_cons.mp h with rfl | h
    · exact xt_NoField_NoText T
    cases h)
, (fun _ h => by
    rcases List.mem_cons.mp h with rfl | h
    · exact ty_Field T
    cases h)
  ⟩
theorem cfT (T : Tx c mg) : CFL c := ⟨(fun _ h => by
    rcases List.mem_cons.mp h with rfl | h
    · exact cl_Field T
    cases h)
, (fun _ h => by
    rcases List.mem_cons.mp h with rfl | h
    · exact na_Field_lines T
    cases h)
, (fun _ h => by
    rcases List.mem_cons.mp h with rfl | h
    · exact is_Field T
    cases h)
, (fun _ h => by
    rcases List.mem_cons.mp h with rfl | h
    · exact kt_0 T
    cases h)
  ⟩
end
section
variable {P : Program} {w : World} {c : Cn} {mg : Str → Option Value} {base : Heap}
theorem sc_NoField_init : FnScope ["self", "found"] ["self", "found"] (defScope s_NoField_init) := ⟨rfl, rfl, rfl, by decide +kernel, rfl, by decide +kernel, by decide +kernel⟩
theorem xc_NoField (T : Tx c mg) : Fxc P w c.K mg base 1 "NoField" (c.cls 41) ["self", "found"] (spI1 c.K "found") := by
  have hg := gl_NoField T
  have hx := (xk_NoField T).ox
  have hn := cn_NoField T
  obtain ⟨⟨h, X, G, cc⟩, _⟩ := id T
  obtain ⟨fd, F⟩ := cc.d.def_ 19 (d := d_NoField__mk) rfl
  obtain ⟨i1, i2⟩ := ownInit_ok (cc.x 9 (f := ownInitB "NoField") rfl)
  rw [← hn] at i1
  exact ⟨_, fd, hg, hx, i1, i2, F.bindsN (fun _ _ _ _ _ _ us hl => match us, hl with | [_, _], _ => rfl), FunD.ok F sc_NoField_init (fun vs H Q E h => by obtain ⟨_, _, _, rfl, _⟩ := h; rfl) fun cdv A outer s H vs Q E hr hs =>
    ⟨tInit1 c.K "found" "no field", pss_cons (ps_expr (pe_xinit (xi_HalvedError T) (gl_HalvedError T) (pa_cons (pv 0) (pa_cons pe_str pa_nil)))) (pss_one (ps_ost (pv 0) (pv 1))), init1_ok rfl hs⟩⟩
theorem sc_is_whole : FnScope ["thing", "low", "high"] ["thing", "low", "high"] (defScope s_is_whole) := ⟨rfl, rfl, rfl, by decide +kernel, rfl, by decide +kernel, by decide +kernel⟩
theorem ok_is_whole (T : Tx c mg) : Fo P w c.K mg base 1 "is_whole" ["thing", "low", "high"] (spOf c 3 S_is_whole) := by
  obtain ⟨f, fd, hm, F⟩ := fd_is_whole T
  exact fo_of 0 3 0 [0, 1, 2] F hm rfl sc_is_whole (fun _ _ _ _ _ _ us hl => match us, hl with | [_, _, _], _ => rfl) rfl rfl (t_is_whole c) (fun cdv A outer s H E hr => (pss_cons (ps_if (PW.pt (pw_or (pt_not (pt_val (pe_callB call_isi rfl (fr_isinstance T) b_isinstance (pa_cons (pv 0) (pa_cons (pe_bltn (v := .ty "int") rfl (fr_int T) b_int rfl) pa_nil))))) (pw_or1 (pt_val (pe_callB call_isi rfl (fr_isinstance T) b_isinstance (pa_cons (pv 0) (pa_cons (pe_bltn (v := .ty "bool") rfl (fr_bool T) b_bool rfl) pa_nil))))))) (pss_one (ps_ret pe_bl)) pss_nil)
    (pss_one (ps_ret (pe_chain op_le op_le (pv 1) (pv 0) (pv 2)))))) (w_is_whole (cfT T) (ceT T))
theorem sc_Field_rows : FnScope ["self", "row"] ["self"] (defScope s_Field_rows) := ⟨rfl, rfl, rfl, by decide +kernel, rfl, by decide +kernel, by decide +kernel⟩
theorem ok_Field_rows (T : Tx c mg) {f : Addr} {fd : FuncData} (F : FunD c.K "rows" "Field.rows" (defArgs s_Field_rows) (defBody s_Field_rows) (defScope s_Field_rows) [] [] f fd) : FnOk P w c.K mg base CX0 1 f fd ["self"] (spOf c 1 S_Field_rows) :=
  F.ok sc_Field_rows (fun vs H Q E h => spOf_len vs H Q E h) fun cdv A outer s H vs Q E hr hs => ⟨t_Field_rows c, PSs.nox (pss_one (ps_ret (pe_lc (own := [("row", 1)]) rfl sc_Field_rows.nd (pi_list (pe_fld (pv 0) rfl)) (blkOk_by (N := ["self", "row"]) (sc := defScope s_Field_rows) (own := [("row", 1)]) (by decide +kernel)) (fun _ _ _ _ _ => (pg_name (i := 1) sc_Field_rows.nd rfl (by first | exact Or.inl rfl | exact Or.inr rfl))) (fun _ _ _ _ _ => pts_nil) (fun _ _ _ _ _ => (pe_callTy call_list_of rfl (fr_list T) b_list (pa_cons (pv 1) pa_nil)))))), fn_body (c := c) (n := 1) (m := 1) (S := S_Field_rows) (t := t_Field_rows c) [0] (by decide) rfl (w_Field_rows (cfT T) (ceT T)) vs H Q E hs⟩
theorem me_Field_rows (T : Tx c mg) : Fm P w c.K mg base 1 (c.cls 0) "rows" ["self"] (spOf c 1 S_Field_rows) := by
  have hc := cl_Field T
  have hn := cn_Field T
  obtain ⟨⟨h, X, G, cc⟩, _⟩ := id T
  obtain ⟨fd, F⟩ := cc.d.def_ 17 (d := d_Field__rows) rfl
  have hm := He.meth_ok (cc.d.fact 35 (f := .meth "Field" "rows") rfl)
  rw [← hn] at hm
  exact ⟨_, fd, hc, by rw [hn] at hm ⊢; exact hm, F.bindsN (fun _ _ _ _ _ _ us hl => match us, hl with | [_], _ => rfl), ok_Field_rows T F⟩
theorem sc_is_plain : FnScope ["word", "figures", "sign"] ["word"] (defScope s_is_plain) := ⟨rfl, rfl, rfl, by decide +kernel, rfl, by decide +kernel, by decide +kernel⟩
theorem ok_is_plain (T : Tx c mg) : Fo P w c.K mg base 1 "is_plain" ["word"] (spOf c 1 S_is_plain) := by
  obtain ⟨f, fd, hm, F⟩ := fd_is_plain T
  exact fo_of 0 1 2 [0] F hm rfl sc_is_plain (fun _ _ _ _ _ _ us hl => match us, hl with | [_], _ => rfl) rfl rfl (t_is_plain c) (fun cdv A outer s H E hr => (pss_cons (ps_set (i := 1) sc_is_plain.nd rfl (by first | exact Or.inl rfl | exact Or.inr rfl) (pv 0))
    (pss_cons (ps_if (pt_val (pe_bm PySem.F.plainAttrs_str PySem.F.slot_str_startswith PySem.F.type_str_startswith mt_sstartswith (pv 0) (pa_cons pe_str pa_nil))) (pss_one (ps_set (i := 1) sc_is_plain.nd rfl (by first | exact Or.inl rfl | exact Or.inr rfl) (pe_slice slA (pv 0) (po_some pe_int) po_none))) pss_nil)
    (pss_cons (ps_if (PW.pt (pw_or (pt_not (pt_chain op_le op_le pe_int (pe_callB call_len rfl (fr_len T) b_len (pa_cons (pv 1) pa_nil)) pe_int)) (pw_or1 (pt_cmpR (op_eqA hr.units) (pv 0) pe_str (nomark _))))) (pss_one (ps_ret pe_bl)) pss_nil)
    (pss_cons (ps_if (pt_cmpR (op_neA hr.units) (pe_lc (own := [("sign", 2)]) rfl sc_is_plain.nd (pi_str (pv 1)) (blkOk_by (N := ["word", "figures", "sign"]) (sc := defScope s_is_plain) (own := [("sign", 2)]) (by decide +kernel)) (fun _ _ _ _ _ => (pg_name (i := 2) sc_is_plain.nd rfl (by first | exact Or.inl rfl | exact Or.inr rfl))) (fun _ _ _ _ _ => (pts_one (pt_cmpR op_niA (pv 2) pe_str (by with_unfolding_all rfl)))) (fun _ _ _ _ _ => (pv 2))) (pe_lst pa_nil) (nomark _)) (pss_one (ps_ret pe_bl)) pss_nil)
    (pss_one (ps_ret (L2.pe_or (pe_cmpR (op_eqA hr.units) (pv 1) pe_str (nomark _)) (pe_one (pe_cmpR (op_neA hr.units) (pe_ix ixA (pv 1) pe_int (fun _ _ => rfl)) pe_str (nomark _))))))))))) (w_is_plain (cfT T) (ceT T))
theorem sc_law_cell : FnScope ["_law_script", "_law_k"] ["_law_script", "_law_k"] (defScope s_law_cell) := ⟨rfl, rfl, rfl, by decide +kernel, rfl, by decide +kernel, by decide +kernel⟩
theorem ok_law_cell (T : Tx c mg) : Fo P w c.K mg base 1 "_law_cell" ["_law_script", "_law_k"] (spOf c 2 S_law_cell) := by
  obtain ⟨f, fd, hm, F⟩ := fd_law_cell T
  exact fo_of 0 2 0 [0, 1] F hm rfl sc_law_cell (fun _ _ _ _ _ _ us hl => match us, hl with | [_, _], _ => rfl) rfl rfl (t_law_cell c) (fun cdv A outer s H E hr => (pss_cons (ps_if (pt_cmpR op_lt (pv 1) (pe_callB call_len rfl (fr_len T) b_len (pa_cons (pv 0) pa_nil)) (nomark _)) (pss_one (ps_ret (pe_ix ixA (pv 0) (pv 1) (fun _ _ => rfl)))) pss_nil)
    (pss_one (ps_ret (pe_op op_addA (pe_op op_mulA pe_int (pv 1)) pe_int))))) (w_law_cell (cfT T) (ceT T))
theorem sc_law_box : FnScope ["_law_cell_here"] ["_law_cell_here"] (defScope s_law_box) := ⟨rfl, rfl, rfl, by decide +kernel, rfl, by decide +kernel, by decide +kernel⟩
theorem ok_law_box (T : Tx c mg) : Fo P w c.K mg base 1 "_law_box" ["_law_cell_here"] (spOf c 1 S_law_box) := by
  obtain ⟨f, fd, hm, F⟩ := fd_law_box T
  exact fo_of 0 1 0 [0] F hm rfl sc_law_box (fun _ _ _ _ _ _ us hl => match us, hl with | [_], _ => rfl) rfl rfl (t_law_box c) (fun cdv A outer s H E hr => (pss_one (ps_ret (pe_lst (pa_cons (pe_callB (call_max2 rfl) rfl (fr_max T) b_max (pa_cons pe_int (pa_cons (pe_op op_sub (pv 0) (pe_op op_pow pe_int pe_int)) pa_nil))) (pa_cons (pe_op op_mod (pv 0) pe_int) (pa_cons pe_int pa_nil))))))) (w_law_box (cfT T) (ceT T))
theorem sc_law_take : FnScope ["_law_box_here", "_law_many", "_law_far", "_law_number_here", "_law_digit"] ["_law_box_here", "_law_many"] (defScope s_law_take) := ⟨rfl, rfl, rfl, by decide +kernel, rfl, by decide +kernel, by decide +kernel⟩
theorem ok_law_take (T : Tx c mg) : Fo P w c.K mg base 1 "_law_take" ["_law_box_here", "_law_many"] (spOf c 2 S_law_take) := by
  obtain ⟨f, fd, hm, F⟩ := fd_law_take T
  exact fo_of 0 2 3 [0, 1] F hm rfl sc_law_take (fun _ _ _ _ _ _ us hl => match us, hl with | [_, _], _ => rfl) rfl rfl (t_law_take c) (fun cdv A outer s H E hr => (pss_cons (ps_if (pt_cmpR op_gt (pe_ix ixA (pv 0) pe_int (fun _ _ => rfl)) pe_int (nomark _)) (pss_cons (ps_set (i := 4) sc_law_take.nd rfl (by first | exact Or.inl rfl | exact Or.inr rfl) (pe_op op_mod (pe_ix ixA (pv 0) pe_int (fun _ _ => rfl)) (pv 1)))
    (pss_cons (ps_asg (pe_op op_fdivW (pe_ix ixA (pv 0) pe_int (fun _ _ => rfl)) (pv 1)) (pg_sub (pv 0) pe_int set_list))
    (pss_one (ps_ret (pv 4))))) pss_nil)
    (pss_cons (ps_asg (pe_op op_addA (pe_ix ixA (pv 0) pe_int (fun _ _ => rfl)) pe_int) (pg_sub (pv 0) pe_int set_list))
    (pss_cons (ps_set (i := 2) sc_law_take.nd rfl (by first | exact Or.inl rfl | exact Or.inr rfl) (pe_op op_addA (pe_op op_addA (pe_op op_mulA (pe_ix ixA (pv 0) pe_int (fun _ _ => rfl)) (pe_op op_addA pe_int (pe_op op_mulA pe_int (pe_ix ixA (pv 0) pe_int (fun _ _ => rfl))))) (pe_op op_mulA pe_int (pe_ix ixA (pv 0) pe_int (fun _ _ => rfl)))) pe_int))
    (pss_cons (ps_set (i := 3) sc_law_take.nd rfl (by first | exact Or.inl rfl | exact Or.inr rfl) (pe_op op_mod (pe_op op_pow (pv 2) pe_int) pe_int))
    (pss_cons (ps_set (i := 3) sc_law_take.nd rfl (by first | exact Or.inl rfl | exact Or.inr rfl) (pe_op op_mod (pe_op op_mulA (pe_op op_addA (pv 3) (pe_op op_mulA pe_int (pe_ix ixA (pv 0) pe_int (fun _ _ => rfl)))) (pe_op op_addA (pv 3) pe_int)) pe_int))
    (pss_one (ps_ret (pe_op op_mod (pe_op op_fdivW (pv 3) pe_int) (pv 1)))))))))) (w_law_take (cfT T) (ceT T))
theorem sc_law_written : FnScope ["_law_number_here", "_law_rest", "_law_figures"] ["_law_number_here"] (defScope s_law_written) := ⟨rfl, rfl, rfl, by decide +kernel, rfl, by decide +kernel, by decide +kernel⟩
theorem ok_law_written (T : Tx c mg) : Fo P w c.K mg base 1 "_law_written" ["_law_number_here"] (spOf c 1 S_law_written) := by
  obtain ⟨f, fd, hm, F⟩ := fd_law_written T
  exact fo_of 0 1 2 [0] F hm rfl sc_law_written (fun _ _ _ _ _ _ us hl => match us, hl with | [_], _ => rfl) rfl rfl (t_law_written c) (fun cdv A outer s H E hr => (pss_cons (ps_set (i := 1) sc_law_written.nd rfl (by first | exact Or.inl rfl | exact Or.inr rfl) (pe_callB call_abs rfl (fr_abs T) b_abs (pa_cons (pv 0) pa_nil)))
    (pss_cons (ps_set (i := 2) sc_law_written.nd rfl (by first | exact Or.inl rfl | exact Or.inr rfl) (pe_ix ixA pe_str (pe_op op_mod (pv 1) pe_int) (fun _ _ => rfl)))
    (pss_cons (ps_while PassesOwn.never (pt_cmpR op_gt (pv 1) pe_int (nomark _)) (pss_cons (ps_set (i := 1) sc_law_written.nd rfl (by first | exact Or.inl rfl | exact Or.inr rfl) (pe_op op_fdivW (pv 1) pe_int))
    (pss_one (ps_set (i := 2) sc_law_written.nd rfl (by first | exact Or.inl rfl | exact Or.inr rfl) (pe_op op_addA (pe_ix ixA pe_str (pe_op op_mod (pv 1) pe_int) (fun _ _ => rfl)) (pv 2))))))
    (pss_one (ps_ret (pe_op op_addA (pe_op op_mulA pe_str (pe_callTy call_intA rfl (fr_int T) b_int (pa_cons (pe_cmpR op_lt (pv 0) pe_int (nomark _)) pa_nil))) (pv 2)))))))) (w_law_written (cfT T) (ceT T))
theorem sc_is_row : FnScope ["thing", "least", "number"] ["thing", "least"] (defScope s_is_row) := ⟨rfl, rfl, rfl, by decide +kernel, rfl, by decide +kernel, by decide +kernel⟩
theorem ok_is_row (T : Tx c mg) : Fo P w c.K mg base 2 "is_row" ["thing", "least"] (spOf c 2 S_is_row) := by
  obtain ⟨f, fd, hm, F⟩ := fd_is_row T
  exact fo_of 1 2 1 [0, 1] F hm rfl sc_is_row (fun _ _ _ _ _ _ us hl => match us, hl with | [_, _], _ => rfl) rfl rfl (t_is_row c) (fun cdv A outer s H E hr => (pss_cons (ps_if (PW.pt (pw_or (pt_not (pt_val (pe_callB call_isi rfl (fr_isinstance T) b_isinstance (pa_cons (pv 0) (pa_cons (pe_bltn (v := .ty "list") rfl (fr_list T) b_list rfl) pa_nil))))) (pw_or1 (pt_not (pt_chain op_le op_le (pv 1) (pe_callB call_len rfl (fr_len T) b_len (pa_cons (pv 0) pa_nil)) pe_int))))) (pss_one (ps_ret pe_bl)) pss_nil)
    (pss_cons (ps_for PassesOwn.never rfl (pi_list (pv 0)) (pg_name (i := 2) sc_is_row.nd rfl (by first | exact Or.inl rfl | exact Or.inr rfl)) (pss_one (ps_if (pt_not (pt_val (pe_o (ok_is_whole T) (hr.mono (by decide)) (pa_cons (pv 2) (pa_cons (pe_un un_neg (pe_gint (gi_FIGURES T))) (pa_cons (pe_gint (gi_FIGURES T)) pa_nil)))))) (pss_one (ps_ret pe_bl)) pss_nil)))
    (pss_one (ps_ret pe_bl))))) (w_is_row (cfT T) (ceT T))
theorem sc_read_row : FnScope ["piece", "words", "word"] ["piece"] (defScope s_read_row) := ⟨rfl, rfl, rfl, by decide +kernel, rfl, by decide +kernel, by decide +kernel⟩
theorem ok_read_row (T : Tx c mg) : Fo P w c.K mg base 2 "read_row" ["piece"] (spOf c 1 S_read_row) := by
  obtain ⟨f, fd, hm, F⟩ := fd_read_row T
  exact fo_of 1 1 2 [0] F hm rfl sc_read_row (fun _ _ _ _ _ _ us hl => match us, hl with | [_], _ => rfl) rfl rfl (t_read_row c) (fun cdv A outer s H E hr => (pss_cons (ps_set (i := 1) sc_read_row.nd rfl (by first | exact Or.inl rfl | exact Or.inr rfl) (pe_bm PySem.F.plainAttrs_str PySem.F.slot_str_split PySem.F.type_str_split mt_ssplit (pv 0) (pa_cons pe_str pa_nil)))
    (pss_cons (ps_if (pt_cmpR (op_neA hr.units) (pe_lc (own := [("word", 2)]) rfl sc_read_row.nd (pi_list (pv 1)) (blkOk_by (N := ["piece", "words", "word"]) (sc := defScope s_read_row) (own := [("word", 2)]) (by decide +kernel)) (fun _ _ _ _ _ => (pg_name (i := 2) sc_read_row.nd rfl (by first | exact Or.inl rfl | exact Or.inr rfl))) (fun _ _ _ _ _ => (pts_one (pt_not (pt_val (pe_o (ok_is_plain T) (hr.mono (by decide)) (pa_cons (pv 2) pa_nil)))))) (fun _ _ _ _ _ => (pv 2))) (pe_lst pa_nil) (nomark _)) (pss_one (ps_ret pe_non)) pss_nil)
    (pss_one (ps_ret (pe_lc (own := [("word", 2)]) rfl sc_read_row.nd (pi_list (pv 1)) (blkOk_by (N := ["piece", "words", "word"]) (sc := defScope s_read_row) (own := [("word", 2)]) (by decide +kernel)) (fun _ _ _ _ _ => (pg_name (i := 2) sc_read_row.nd rfl (by first | exact Or.inl rfl | exact Or.inr rfl))) (fun _ _ _ _ _ => pts_nil) (fun _ _ _ _ _ => (pe_callTy call_intA rfl (fr_int T) b_int (pa_cons (pv 2) pa_nil))))))))) (w_read_row (cfT T) (ceT T))
theorem sc_law_number : FnScope ["_law_box_here", "_law_way", "_law_far"] ["_law_box_here"] (defScope s_law_number) := ⟨rfl, rfl, rfl, by decide +kernel, rfl, by decide +kernel, by decide +kernel⟩
theorem ok_law_number (T : Tx c mg) : Fo P w c.K mg base 2 "_law_number" ["_law_box_here"] (spOf c 1 S_law_number) := by
  obtain ⟨f, fd, hm, F⟩ := fd_law_number T
  exact fo_of 1 1 2 [0] F hm rfl sc_law_number (fun _ _ _ _ _ _ us hl => match us, hl with | [_], _ => rfl) rfl rfl (t_law_number c) (fun cdv A outer s H E hr => (pss_cons (ps_set (i := 1) sc_law_number.nd rfl (by first | exact Or.inl rfl | exact Or.inr rfl) (pe_o (ok_law_take T) (hr.mono (by decide)) (pa_cons (pv 0) (pa_cons pe_int pa_nil))))
    (pss_cons (ps_if (pt_cmpR (op_eqA hr.units) (pv 1) pe_int (nomark _)) (pss_one (ps_ret (pe_op op_sub (pe_o (ok_law_take T) (hr.mono (by decide)) (pa_cons (pv 0) (pa_cons pe_int pa_nil))) pe_int))) pss_nil)
    (pss_cons (ps_if (pt_cmpR (op_eqA hr.units) (pv 1) pe_int (nomark _)) (pss_one (ps_ret (pe_ix ixA (pe_lst (pa_cons (pe_op op_sub (pe_op op_pow pe_int pe_int) pe_int) (pa_cons (pe_op op_sub pe_int (pe_op op_pow pe_int pe_int)) (pa_cons pe_int (pa_cons (pe_un un_neg pe_int) pa_nil))))) (pe_o (ok_law_take T) (hr.mono (by decide)) (pa_cons (pv 0) (pa_cons pe_int pa_nil))) (fun _ _ => rfl)))) pss_nil)
    (pss_cons (ps_if (pt_cmpR (op_eqA hr.units) (pv 1) pe_int (nomark _)) (pss_cons (ps_set (i := 2) sc_law_number.nd rfl (by first | exact Or.inl rfl | exact Or.inr rfl) (pe_op op_addA (pe_op op_mulA (pe_o (ok_law_take T) (hr.mono (by decide)) (pa_cons (pv 0) (pa_cons (pe_op op_pow pe_int pe_int) pa_nil))) (pe_op op_pow pe_int pe_int)) (pe_o (ok_law_take T) (hr.mono (by decide)) (pa_cons (pv 0) (pa_cons (pe_op op_pow pe_int pe_int) pa_nil)))))
    (pss_one (ps_ret (pe_ix ixA (pe_lst (pa_cons (pv 2) (pa_cons (pe_op op_sub pe_int (pv 2)) pa_nil))) (pe_o (ok_law_take T) (hr.mono (by decide)) (pa_cons (pv 0) (pa_cons pe_int pa_nil))) (fun _ _ => rfl))))) pss_nil)
    (pss_one (ps_ret (pe_op op_sub (pe_o (ok_law_take T) (hr.mono (by decide)) (pa_cons (pv 0) (pa_cons pe_int pa_nil))) pe_int)))))))) (w_law_number (cfT T) (ceT T))
theorem sc_law_size : FnScope ["_law_box_here", "_law_way", "_law_high"] ["_law_box_here"] (defScope s_law_size) := ⟨rfl, rfl, rfl, by decide +kernel, rfl, by decide +kernel, by decide +kernel⟩
theorem ok_law_size (T : Tx c mg) : Fo P w c.K mg base 2 "_law_size" ["_law_box_here"] (spOf c 1 S_law_size) := by
  obtain ⟨f, fd, hm, F⟩ := fd_law_size T
  exact fo_of 1 1 2 [0] F hm rfl sc_law_size (fun _ _ _ _ _ _ us hl => match us, hl with | [_], _ => rfl) rfl rfl (t_law_size c) (fun cdv A outer s H E hr => (pss_cons (ps_set (i := 1) sc_law_size.nd rfl (by first | exact Or.inl rfl | exact Or.inr rfl) (pe_o (ok_law_take T) (hr.mono (by decide)) (pa_cons (pv 0) (pa_cons pe_int pa_nil))))
    (pss_cons (ps_if (pt_cmpR op_lt (pv 1) pe_int (nomark _)) (pss_one (ps_ret (pe_ix ixA (pe_lst (pa_cons (pe_tup (pa_cons pe_int (pa_cons pe_int pa_nil))) (pa_cons (pe_tup (pa_cons pe_int (pa_cons pe_int pa_nil))) (pa_cons (pe_tup (pa_cons pe_int (pa_cons pe_int pa_nil))) (pa_cons (pe_tup (pa_cons pe_int (pa_cons pe_int pa_nil))) (pa_cons (pe_tup (pa_cons pe_int (pa_cons pe_int pa_nil))) (pa_cons (pe_tup (pa_cons pe_int (pa_cons pe_int pa_nil))) pa_nil))))))) (pv 1) (fun _ _ => rfl)))) pss_nil)
    (pss_cons (ps_if (pt_cmpR (op_eqA hr.units) (pv 1) pe_int (nomark _)) (pss_cons (ps_set (i := 2) sc_law_size.nd rfl (by first | exact Or.inl rfl | exact Or.inr rfl) (pe_op op_addA pe_int (pe_o (ok_law_take T) (hr.mono (by decide)) (pa_cons (pv 0) (pa_cons pe_int pa_nil)))))
    (pss_one (ps_ret (pe_tup (pa_cons (pv 2) (pa_cons (pe_op op_addA pe_int (pe_o (ok_law_take T) (hr.mono (by decide)) (pa_cons (pv 0) (pa_cons (pe_callB (call_min2 rfl) rfl (fr_min T) b_min (pa_cons pe_int (pa_cons (pe_op op_fdivW pe_int (pv 2)) pa_nil))) pa_nil)))) pa_nil)))))) pss_nil)
    (pss_one (ps_ret (pe_tup (pa_cons (pe_op op_addA pe_int (pe_o (ok_law_take T) (hr.mono (by decide)) (pa_cons (pv 0) (pa_cons pe_int pa_nil)))) (pa_cons (pe_op op_addA pe_int (pe_o (ok_law_take T) (hr.mono (by decide)) (pa_cons (pv 0) (pa_cons pe_int pa_nil)))) pa_nil))))))))) (w_law_size (cfT T) (ceT T))
theorem sc_law_text : FnScope ["_law_rows_here", "_law_text_here", "_law_y", "_law_row", "_law_x", "_law_number_here"] ["_law_rows_here"] (defScope s_law_text) := ⟨rfl, rfl, rfl, by decide +kernel, rfl, by decide +kernel, by decide +kernel⟩
theorem ok_law_text (T : Tx c mg) : Fo P w c.K mg base 2 "_law_text" ["_law_rows_here"] (spOf c 1 S_law_text) := by
  obtain ⟨f, fd, hm, F⟩ := fd_law_text T
  exact fo_of 1 1 5 [0] F hm rfl sc_law_text (fun _ _ _ _ _ _ us hl => match us, hl with | [_], _ => rfl) rfl rfl (t_law_text c) (fun cdv A outer s H E hr => (pss_cons (ps_set (i := 1) sc_law_text.nd rfl (by first | exact Or.inl rfl | exact Or.inr rfl) pe_str)
    (pss_cons (ps_for PassesOwn.never rfl (pi_enum rfl (fr_enumerate T) (pa_cons (pv 0) pa_nil)) (pg_tup rfl (pgs_cons (pg_name (i := 2) sc_law_text.nd rfl (by first | exact Or.inl rfl | exact Or.inr rfl)) (pgs_cons (pg_name (i := 3) sc_law_text.nd rfl (by first | exact Or.inl rfl | exact Or.inr rfl)) pgs_nil))) (pss_cons (ps_if (pt_cmpR op_gt (pv 2) pe_int (nomark _)) (pss_one (ps_set (i := 1) sc_law_text.nd rfl (by first | exact Or.inl rfl | exact Or.inr rfl) (pe_op op_addA (pv 1) pe_str))) pss_nil)
    (pss_one (ps_for PassesOwn.never rfl (pi_enum rfl (fr_enumerate T) (pa_cons (pv 3) pa_nil)) (pg_tup rfl (pgs_cons (pg_name (i := 4) sc_law_text.nd rfl (by first | exact Or.inl rfl | exact Or.inr rfl)) (pgs_cons (pg_name (i := 5) sc_law_text.nd rfl (by first | exact Or.inl rfl | exact Or.inr rfl)) pgs_nil))) (pss_cons (ps_if (pt_cmpR op_gt (pv 4) pe_int (nomark _)) (pss_one (ps_set (i := 1) sc_law_text.nd rfl (by first | exact Or.inl rfl | exact Or.inr rfl) (pe_op op_addA (pv 1) pe_str))) pss_nil)
    (pss_one (ps_set (i := 1) sc_law_text.nd rfl (by first | exact Or.inl rfl | exact Or.inr rfl) (pe_op op_addA (pv 1) (pe_o (ok_law_written T) (hr.mono (by decide)) (pa_cons (pv 5) pa_nil))))))))))
    (pss_one (ps_ret (pv 1)))))) (w_law_text (cfT T) (ceT T))
theorem sc_are_rows : FnScope ["thing", "row"] ["thing"] (defScope s_are_rows) := ⟨rfl, rfl, rfl, by decide +kernel, rfl, by decide +kernel, by decide +kernel⟩
theorem ok_are_rows (T : Tx c mg) : Fo P w c.K mg base 3 "are_rows" ["thing"] (spOf c 1 S_are_rows) := by
  obtain ⟨f, fd, hm, F⟩ := fd_are_rows T
  exact fo_of 2 1 1 [0] F hm rfl sc_are_rows (fun _ _ _ _ _ _ us hl => match us, hl with | [_], _ => rfl) rfl rfl (t_are_rows c) (fun cdv A outer s H E hr => (pss_cons (ps_if (PW.pt (pw_or (pt_not (pt_val (pe_callB call_isi rfl (fr_isinstance T) b_isinstance (pa_cons (pv 0) (pa_cons (pe_bltn (v := .ty "list") rfl (fr_list T) b_list rfl) pa_nil))))) (pw_or1 (pt_not (pt_chain op_le op_le pe_int (pe_callB call_len rfl (fr_len T) b_len (pa_cons (pv 0) pa_nil)) pe_int))))) (pss_one (ps_ret pe_bl)) pss_nil)
    (pss_cons (ps_for PassesOwn.never rfl (pi_list (pv 0)) (pg_name (i := 1) sc_are_rows.nd rfl (by first | exact Or.inl rfl | exact Or.inr rfl)) (pss_one (ps_if (PW.pt (pw_or (pt_not (pt_val (pe_o (ok_is_row T) (hr.mono (by decide)) (pa_cons (pv 1) (pa_cons pe_int pa_nil))))) (pw_or1 (pt_cmpR (op_neA hr.units) (pe_callB call_len rfl (fr_len T) b_len (pa_cons (pv 1) pa_nil)) (pe_callB call_len rfl (fr_len T) b_len (pa_cons (pe_ix ixA (pv 0) pe_int (fun _ _ => rfl)) pa_nil)) (nomark _))))) (pss_one (ps_ret pe_bl)) pss_nil)))
    (pss_one (ps_ret (pe_cmpR op_le (pe_op op_mulA (pe_callB call_len rfl (fr_len T) b_len (pa_cons (pv 0) pa_nil)) (pe_callB call_len rfl (fr_len T) b_len (pa_cons (pe_ix ixA (pv 0) pe_int (fun _ _ => rfl)) pa_nil))) pe_int (nomark _))))))) (w_are_rows (cfT T) (ceT T))
theorem sc_field_text : FnScope ["field", "row", "number"] ["field"] (defScope s_field_text) := ⟨rfl, rfl, rfl, by decide +kernel, rfl, by decide +kernel, by decide +kernel⟩
theorem ok_field_text (T : Tx c mg) : Fox P w c.K mg base 3 "field_text" ["field"] (spX c 1 S_field_text) := by
  obtain ⟨f, fd, hm, F⟩ := fd_field_text T
  exact fox_of (k := 2) 1 2 [0] F hm rfl sc_field_text (fun _ _ _ _ _ _ us hl => match us, hl with | [_], _ => rfl) rfl rfl (t_field_text c) (fun cdv A outer s H E W tk hr => (pss_cons (ps_if (pt_not (pt_val (pe_callB call_isi rfl (fr_isinstance T) b_isinstance (pa_cons (pv 0) (pa_cons (pe_glob (v := .ref (c.cls 0)) rfl (gl_Field T) rfl) pa_nil))))) (pss_one (ps_raiseX (xc_NoField T) (hr.mono (by decide)) rfl tk (pa_cons (pv 0) pa_nil))) pss_nil)
    (pss_one (ps_ret (pe_bm PySem.F.plainAttrs_str PySem.F.slot_str_join PySem.F.type_str_join mt_sjoin pe_str (pa_cons (pe_lc (own := [("row", 1)]) rfl sc_field_text.nd (pi_list (pe_m0 (pv 0) (me_Field_rows T) (hr.mono (by decide)))) (blkOk_by (N := ["field", "row", "number"]) (sc := defScope s_field_text) (own := [("row", 1)]) (by decide +kernel)) (fun _ _ _ _ _ => (pg_name (i := 1) sc_field_text.nd rfl (by first | exact Or.inl rfl | exact Or.inr rfl))) (fun _ _ _ _ _ => pts_nil) (fun _ _ _ _ _ => (pe_bm PySem.F.plainAttrs_str PySem.F.slot_str_join PySem.F.type_str_join mt_sjoin pe_str (pa_cons (pe_lc (own := [("number", 2)]) rfl sc_field_text.nd (pi_list (pv 1)) (blkOk_nest (N := ["field", "row", "number"]) (own := [("number", 2)]) (by decide +kernel)) (fun _ _ _ _ _ => (pg_name (i := 2) sc_field_text.nd rfl (by first | exact Or.inl rfl | exact Or.inr rfl))) (fun _ _ _ _ _ => pts_nil) (fun _ _ _ _ _ => (pe_callTy call_str_int rfl (fr_str T) b_str (pa_cons (pv 2) pa_nil)))) pa_nil)))) pa_nil)))))) (w_field_text (cfT T) (ceT T))
theorem sc_law_rows : FnScope ["_law_box_here", "_law_size_here", "_law_seed", "_law_wide", "_law_rows_here", "_law_y", "_law_some", "_law_x", "_law_number_here"] ["_law_box_here", "_law_size_here"] (defScope s_law_rows) := ⟨rfl, rfl, rfl, by decide +kernel, rfl, by decide +kernel, by decide +kernel⟩
theorem ok_law_rows (T : Tx c mg) : Fo P w c.K mg base 3 "_law_rows" ["_law_box_here", "_law_size_here"] (spOf c 2 S_law_rows) := by
  obtain ⟨f, fd, hm, F⟩ := fd_law_rows T
  exact fo_of 2 2 7 [0, 1] F hm rfl sc_law_rows (fun _ _ _ _ _ _ us hl => match us, hl with | [_, _], _ => rfl) rfl rfl (t_law_rows c) (fun cdv A outer s H E hr => (pss_cons (ps_if (pt_cmpR op_gt (pe_op op_mulA (pe_ix ixA (pv 1) pe_int (fun _ _ => rfl)) (pe_ix ixA (pv 1) pe_int (fun _ _ => rfl))) pe_int (nomark _)) (pss_cons (ps_set (i := 2) sc_law_rows.nd rfl (by first | exact Or.inl rfl | exact Or.inr rfl) (pe_o (ok_law_take T) (hr.mono (by decide)) (pa_cons (pv 0) (pa_cons (pe_op op_pow pe_int pe_int) pa_nil))))
    (pss_cons (ps_set (i := 3) sc_law_rows.nd rfl (by first | exact Or.inl rfl | exact Or.inr rfl) (pe_o (ok_law_take T) (hr.mono (by decide)) (pa_cons (pv 0) (pa_cons pe_int pa_nil))))
    (pss_cons (ps_set (i := 4) sc_law_rows.nd rfl (by first | exact Or.inl rfl | exact Or.inr rfl) (pe_lst pa_nil))
    (pss_cons (ps_for PassesOwn.never rfl (pi_range1 rfl (fr_range T) (pa_cons (pe_ix ixA (pv 1) pe_int (fun _ _ => rfl)) pa_nil)) (pg_name (i := 5) sc_law_rows.nd rfl (by first | exact Or.inl rfl | exact Or.inr rfl)) (pss_cons (ps_setLc (i := 6) (own := [("_law_x", 7)]) rfl sc_law_rows.nd rfl rfl (sw_true rfl rfl rfl (by decide +kernel)) (pi_range1 rfl (fr_range T) (pa_cons (pe_ix ixA (pv 1) pe_int (fun _ _ => rfl)) pa_nil)) (blkOk_by (N := ["_law_box_here", "_law_size_here", "_law_seed", "_law_wide", "_law_rows_here", "_law_y", "_law_some", "_law_x", "_law_number_here"]) (sc := defScope s_law_rows) (own := [("_law_x", 7)]) (by decide +kernel)) (fun _ _ _ _ _ => (pg_name (i := 7) sc_law_rows.nd rfl (by first | exact Or.inl rfl | exact Or.inr rfl))) (fun _ _ _ _ _ => pts_nil) (fun _ _ _ _ _ => (pe_op op_mod (pe_op op_pow (pe_op op_addA (pv 2) (pe_op op_mulA pe_int (pe_op op_addA (pe_op op_mulA pe_int (pv 5)) (pv 7)))) pe_int) pe_int)))
    (pss_one (ps_expr (pe_bm PySem.F.plainAttrs_list PySem.F.slot_list_append PySem.F.type_list_append mt_append (pv 4) (pa_cons (pe_lc (own := [("_law_number_here", 8)]) rfl sc_law_rows.nd (pi_list (pv 6)) (blkOk_by (N := ["_law_box_here", "_law_size_here", "_law_seed", "_law_wide", "_law_rows_here", "_law_y", "_law_some", "_law_x", "_law_number_here"]) (sc := defScope s_law_rows) (own := [("_law_number_here", 8)]) (by decide +kernel)) (fun _ _ _ _ _ => (pg_name (i := 8) sc_law_rows.nd rfl (by first | exact Or.inl rfl | exact Or.inr rfl))) (fun _ _ _ _ _ => pts_nil) (fun _ _ _ _ _ => (pe_ix ixA (pe_lst (pa_cons (pe_op op_sub (pe_op op_mod (pv 8) pe_int) pe_int) (pa_cons (pe_op op_mulA (pe_op op_sub (pv 8) (pe_op op_pow pe_int pe_int)) pe_int) pa_nil))) (pv 3) (fun _ _ => rfl)))) pa_nil))))))
    (pss_one (ps_ret (pv 4))))))) pss_nil)
    (pss_one (ps_ret (pe_lc (own := [("_law_y", 5)]) rfl sc_law_rows.nd (pi_range1 rfl (fr_range T) (pa_cons (pe_ix ixA (pv 1) pe_int (fun _ _ => rfl)) pa_nil)) (blkOk_by (N := ["_law_box_here", "_law_size_here", "_law_seed", "_law_wide", "_law_rows_here", "_law_y", "_law_some", "_law_x", "_law_number_here"]) (sc := defScope s_law_rows) (own := [("_law_y", 5)]) (by decide +kernel)) (fun _ _ _ _ _ => (pg_name (i := 5) sc_law_rows.nd rfl (by first | exact Or.inl rfl | exact Or.inr rfl))) (fun _ _ _ _ _ => pts_nil) (fun _ _ _ _ _ => (pe_lc (own := [("_law_x", 7)]) rfl sc_law_rows.nd (pi_range1 rfl (fr_range T) (pa_cons (pe_ix ixA (pv 1) pe_int (fun _ _ => rfl)) pa_nil)) (blkOk_nest (N := ["_law_box_here", "_law_size_here", "_law_seed", "_law_wide", "_law_rows_here", "_law_y", "_law_some", "_law_x", "_law_number_here"]) (own := [("_law_x", 7)]) (by decide +kernel)) (fun _ _ _ _ _ => (pg_name (i := 7) sc_law_rows.nd rfl (by first | exact Or.inl rfl | exact Or.inr rfl))) (fun _ _ _ _ _ => pts_nil) (fun _ _ _ _ _ => (pe_o (ok_law_number T) (hr.mono (by decide)) (pa_cons (pv 0) pa_nil)))))))))) (w_law_rows (cfT T) (ceT T))
theorem sc_Field_init : FnScope ["self", "rows", "row"] ["self", "rows"] (defScope s_Field_init) := ⟨rfl, rfl, rfl, by decide +kernel, rfl, by decide +kernel, by decide +kernel⟩
theorem ok_Field_init (T : Tx c mg) {f : Addr} {fd : FuncData} (F : FunD c.K "__init__" "Field.__init__" (defArgs s_Field_init) (defBody s_Field_init) (defScope s_Field_init) [] [] f fd) : FnOk P w c.K mg base CX0 4 f fd ["self", "rows"] (spOf c 2 S_Field_init) :=
  F.ok sc_Field_init (fun vs H Q E h => spOf_len vs H Q E h) fun cdv A outer s H vs Q E hr hs => ⟨t_Field_init c, PSs.nox (pss_cons (ps_if (pt_not (pt_val (pe_o (ok_are_rows T) (hr.mono (by decide)) (pa_cons (pv 1) pa_nil)))) (pss_one ps_never) pss_nil)
    (pss_one (ps_fld (pv 0) (pe_lc (own := [("row", 2)]) rfl sc_Field_init.nd (pi_list (pv 1)) (blkOk_by (N := ["self", "rows", "row"]) (sc := defScope s_Field_init) (own := [("row", 2)]) (by decide +kernel)) (fun _ _ _ _ _ => (pg_name (i := 2) sc_Field_init.nd rfl (by first | exact Or.inl rfl | exact Or.inr rfl))) (fun _ _ _ _ _ => pts_nil) (fun _ _ _ _ _ => (pe_callTy call_list_of rfl (fr_list T) b_list (pa_cons (pv 2) pa_nil)))) rfl))), fn_body (c := c) (n := 2) (m := 1) (S := S_Field_init) (t := t_Field_init c) [0, 1] (by decide) rfl (w_Field_init (cfT T) (ceT T)) vs H Q E hs⟩
theorem mk_Field (T : Tx c mg) : Fi P w c.K mg base 4 "Field" (c.cls 0) ["self", "rows"] (spOf c 2 S_Field_init) := by
  have hn := cn_Field T
  have hg := gl_Field T
  obtain ⟨⟨h, X, G, cc⟩, _⟩ := id T
  obtain ⟨fd, F⟩ := cc.d.def_ 18 (d := d_Field__mk) rfl
  have hm := He.mkr_ok (cc.d.fact 36 (f := .mkr "Field") rfl)
  rw [← hn] at hm
  exact ⟨_, fd, hg, by rw [hn] at hm ⊢; exact hm, F.bindsN (fun _ _ _ _ _ _ us hl => match us, hl with | [_, _], _ => rfl), ok_Field_init T F⟩
theorem sc_law_refused : FnScope ["_law_thing", "_law_told", "e"] ["_law_thing"] (defScope s_law_refused) := ⟨rfl, rfl, rfl, by decide +kernel, rfl, by decide +kernel, by decide +kernel⟩
theorem ok_law_refused (T : Tx c mg) : Fg P w c.K mg base 4 "_law_refused" ["_law_thing"] (spOf c 1 S_law_refused) := by
  obtain ⟨f, fd, hm, F⟩ := fd_law_refused T
  exact fg_of 3 1 2 [0] F hm rfl sc_law_refused (fun _ _ _ _ _ _ us hl => match us, hl with | [_], _ => rfl) rfl rfl (t_law_refused c) (fun cdv A outer s H E hg hr => (pss_cons (ps_set (i := 1) sc_law_refused.nd rfl (by first | exact Or.inl rfl | exact Or.inr rfl) pe_non)
    (pss_cons (ps_tryAs (i := 2) (gl_HalvedError T) sc_law_refused.nd takesW0 (fun W1 pn xe tk1 => (pss_one (ps_expr (pe_oX (ok_field_text T) (hr.mono (by decide)) tk1 (pa_cons (pv 0) pa_nil))))) (fun a oe cls d pn hz hf => (pss_one (ps_if (PW.pt (pw_and (pt_val (pe_callB (call_isX hz hf) rfl (fr_isinstance T) b_isinstance (pa_cons (pv 2) (pa_cons (pe_glob (v := .ref (c.cls 41)) rfl (gl_NoField T) rfl) pa_nil)))) (pw_and1 (pt_not (pt_val (pe_callB (call_isX hz hf) rfl (fr_isinstance T) b_isinstance (pa_cons (pv 2) (pa_cons (pe_glob (v := .ref (c.cls 45)) rfl (gl_NoText T) rfl) pa_nil)))))))) (pss_one (ps_set (i := 1) sc_law_refused.nd rfl (by first | exact Or.inl rfl | exact Or.inr rfl) (pe_lst (pa_cons (pe_xf (xf_NoField T) (xn_NoField_found T) hz hf (pv 2)) pa_nil)))) pss_nil))))
    (pss_one (ps_ret (L2.pe_and (pe_cmpR op_notNo (pv 1) pe_non (nomark _)) (pe_one (pe_cmpR (op_eqA hr.units) (pe_callB (call_reprZ hg (r200 hr)) rfl (fr_repr T) b_repr (pa_cons (pv 1) pa_nil)) (pe_callB (call_reprZ hg (r200 hr)) rfl (fr_repr T) b_repr (pa_cons (pe_lst (pa_cons (pv 0) pa_nil)) pa_nil)) (nomark _))))))))) (w_law_refused (cfT T) (ceT T))
theorem sc_read_field : FnScope ["text", "rows", "piece"] ["text"] (defScope s_read_field) := ⟨rfl, rfl, rfl, by decide +kernel, rfl, by decide +kernel, by decide +kernel⟩
theorem ok_read_field (T : Tx c mg) : Fo P w c.K mg base 6 "read_field" ["text"] (spOf c 1 S_read_field) := by
  obtain ⟨f, fd, hm, F⟩ := fd_read_field T
  exact fo_of 5 1 2 [0] F hm rfl sc_read_field (fun _ _ _ _ _ _ us hl => match us, hl with | [_], _ => rfl) rfl rfl (t_read_field c) (fun cdv A outer s H E hr => (pss_cons (ps_if (pt_not (pt_val (pe_callB call_isi rfl (fr_isinstance T) b_isinstance (pa_cons (pv 0) (pa_cons (pe_bltn (v := .ty "str") rfl (fr_str T) b_str rfl) pa_nil))))) (pss_one ps_never) pss_nil)
    (pss_cons (ps_setLc (i := 1) (own := [("piece", 2)]) rfl sc_read_field.nd rfl rfl (sw_true rfl rfl rfl (by decide +kernel)) (pi_list (pe_bm PySem.F.plainAttrs_str PySem.F.slot_str_split PySem.F.type_str_split mt_ssplit (pv 0) (pa_cons pe_str pa_nil))) (blkOk_by (N := ["text", "rows", "piece"]) (sc := defScope s_read_field) (own := [("piece", 2)]) (by decide +kernel)) (fun _ _ _ _ _ => (pg_name (i := 2) sc_read_field.nd rfl (by first | exact Or.inl rfl | exact Or.inr rfl))) (fun _ _ _ _ _ => pts_nil) (fun _ _ _ _ _ => (pe_o (ok_read_row T) (hr.mono (by decide)) (pa_cons (pv 2) pa_nil))))
    (pss_cons (ps_if (pt_not (pt_val (pe_o (ok_are_rows T) (hr.mono (by decide)) (pa_cons (pv 1) pa_nil)))) (pss_one ps_never) pss_nil)
    (pss_one (ps_ret (pe_i (mk_Field T) (hr.mono (by decide)) (pa_cons (pv 1) pa_nil)))))))) (w_read_field (cfT T) (ceT T))
theorem sc_law : FnScope ["_law_script", "_law_k", "_law_box_here", "_law_size_here", "_law_rows_here", "_law_field", "_law_due", "_law_turn", "_law_thing", "_law_text_here", "_law_other", "_law_row"] ["_law_script"] (defScope s_law) := ⟨rfl, rfl, rfl, by decide +kernel, rfl, by decide +kernel, by decide +kernel⟩
theorem ok_law (T : Tx c mg) {f : Addr} {fd : FuncData} (F : FunD c.K "law" "law" (defArgs s_law) (defBody s_law) (defScope s_law) [] [] f fd) : FnG P w c.K mg base 7 f fd ["_law_script"] (spOf c 1 S_law) :=
  fng_of F sc_law (fun vs H Q E h => spOf_len vs H Q E h) fun cdv A outer s H vs Q E hg hr hs => ⟨t_law c, PSs.nox (pss_cons (ps_for PassesOwn.never rfl (pi_range1 rfl (fr_range T) (pa_cons (pe_callB (call_max2 rfl) rfl (fr_max T) b_max (pa_cons pe_int (pa_cons (pe_callB (call_min2 rfl) rfl (fr_min T) b_min (pa_cons (pe_callB call_len rfl (fr_len T) b_len (pa_cons (pv 0) pa_nil)) (pa_cons pe_int pa_nil))) pa_nil))) pa_nil)) (pg_name (i := 1) sc_law.nd rfl (by first | exact Or.inl rfl | exact Or.inr rfl)) (pss_cons (ps_set (i := 2) sc_law.nd rfl (by first | exact Or.inl rfl | exact Or.inr rfl) (pe_g (ok_law_box T).g hg (hr.mono (by decide)) (pa_cons (pe_g (ok_law_cell T).g hg (hr.mono (by decide)) (pa_cons (pv 0) (pa_cons (pv 1) pa_nil))) pa_nil)))
    (pss_cons (ps_set (i := 3) sc_law.nd rfl (by first | exact Or.inl rfl | exact Or.inr rfl) (pe_g (ok_law_size T).g hg (hr.mono (by decide)) (pa_cons (pv 2) pa_nil)))
    (pss_cons (ps_set (i := 4) sc_law.nd rfl (by first | exact Or.inl rfl | exact Or.inr rfl) (pe_g (ok_law_rows T).g hg (hr.mono (by decide)) (pa_cons (pv 2) (pa_cons (pv 3) pa_nil))))
    (pss_cons (ps_set (i := 5) sc_law.nd rfl (by first | exact Or.inl rfl | exact Or.inr rfl) (pe_i (mk_Field T) (hr.mono (by decide)) (pa_cons (pe_lc (own := [("_law_row", 11)]) rfl sc_law.nd (pi_list (pv 4)) (blkOk_by (N := ["_law_script", "_law_k", "_law_box_here", "_law_size_here", "_law_rows_here", "_law_field", "_law_due", "_law_turn", "_law_thing", "_law_text_here", "_law_other", "_law_row"]) (sc := defScope s_law) (own := [("_law_row", 11)]) (by decide +kernel)) (fun _ _ _ _ _ => (pg_name (i := 11) sc_law.nd rfl (by first | exact Or.inl rfl | exact Or.inr rfl))) (fun _ _ _ _ _ => pts_nil) (fun _ _ _ _ _ => (pe_callTy call_list_of rfl (fr_list T) b_list (pa_cons (pv 11) pa_nil)))) pa_nil)))
    (pss_cons (ps_set (i := 6) sc_law.nd rfl (by first | exact Or.inl rfl | exact Or.inr rfl) (pe_g (ok_law_text T).g hg (hr.mono (by decide)) (pa_cons (pv 4) pa_nil)))
    (pss_cons (ps_for PassesOwn.never rfl (pi_range1 rfl (fr_range T) (pa_cons pe_int pa_nil)) (pg_name (i := 7) sc_law.nd rfl (by first | exact Or.inl rfl | exact Or.inr rfl)) (pss_cons (ps_set (i := 9) sc_law.nd rfl (by first | exact Or.inl rfl | exact Or.inr rfl) (pe_oN (ok_field_text T) (hr.mono (by decide)) (pa_cons (pv 5) pa_nil)))
    (pss_cons (ps_set (i := 10) sc_law.nd rfl (by first | exact Or.inl rfl | exact Or.inr rfl) (pe_g (ok_read_field T).g hg (hr.mono (by decide)) (pa_cons (pv 9) pa_nil)))
    (pss_cons (ps_if (PW.pt (pw_or (pt_not (pt_val (pe_callB call_isi rfl (fr_isinstance T) b_isinstance (pa_cons (pv 9) (pa_cons (pe_bltn (v := .ty "str") rfl (fr_str T) b_str rfl) pa_nil))))) (pw_or (pt_cmpR (op_neA hr.units) (pv 9) (pv 6) (nomark _)) (pw_or1 (pt_not (pt_val (pe_callB call_isi rfl (fr_isinstance T) b_isinstance (pa_cons (pv 10) (pa_cons (pe_glob (v := .ref (c.cls 0)) rfl (gl_Field T) rfl) pa_nil))))))))) (pss_one (ps_ret pe_bl)) pss_nil)
    (pss_cons (ps_if (PW.pt (pw_or (pt_cmpR (op_neA hr.units) (pe_callB (call_reprZ hg (r200 hr)) rfl (fr_repr T) b_repr (pa_cons (pe_m0 (pv 10) (me_Field_rows T) (hr.mono (by decide))) pa_nil)) (pe_callB (call_reprZ hg (r200 hr)) rfl (fr_repr T) b_repr (pa_cons (pv 4) pa_nil)) (nomark _)) (pw_or (pt_cmpR (op_neA hr.units) (pe_oN (ok_field_text T) (hr.mono (by decide)) (pa_cons (pv 10) pa_nil)) (pv 6) (nomark _)) (pw_or1 (pt_cmpR (op_neA hr.units) (pe_callB (call_reprZ hg (r200 hr)) rfl (fr_repr T) b_repr (pa_cons (pe_m0 (pv 5) (me_Field_rows T) (hr.mono (by decide))) pa_nil)) (pe_callB (call_reprZ hg (r200 hr)) rfl (fr_repr T) b_repr (pa_cons (pv 4) pa_nil)) (nomark _)))))) (pss_one (ps_ret pe_bl)) pss_nil)
    (pss_one (ps_if (pt_cmpR (op_neA hr.units) (pe_callB (call_reprZ hg (r200 hr)) rfl (fr_repr T) b_repr (pa_cons (pe_m0 (pe_g (ok_read_field T).g hg (hr.mono (by decide)) (pa_cons pe_str pa_nil)) (me_Field_rows T) (hr.mono (by decide))) pa_nil)) pe_str (nomark _)) (pss_one (ps_ret pe_bl)) pss_nil)))))))
    (pss_one (ps_for PassesOwn.never rfl (pi_list (pe_lst (pa_cons pe_non (pa_cons (pv 4) (pa_cons (pv 6) (pa_cons pe_int (pa_cons pe_bl (pa_cons (pe_tup pa_nil) (pa_cons pe_dnewK pa_nil))))))))) (pg_name (i := 8) sc_law.nd rfl (by first | exact Or.inl rfl | exact Or.inr rfl)) (pss_one (ps_if (pt_not (pt_val (pe_g (ok_law_refused T) hg (hr.mono (by decide)) (pa_cons (pv 8) pa_nil)))) (pss_one (ps_ret pe_bl)) pss_nil)))))))))))
    (pss_one (ps_ret pe_bl))), fn_body (c := c) (n := 1) (m := 11) (S := S_law) (t := t_law c) [0] (by decide) rfl (w_law (cfT T) (ceT T)) vs H Q E hs⟩
end
theorem law_facts {P : Program} {w : World} {K : PySem.W.Frag} {h : Heap} {mg : Str → Option Value} {fa : Addr} (X : K.In h) (G : h.Ns mainGlobals mg) (hfa : mg ("law" : Str) = some (.ref fa)) (c : SaysZ faL fnL xsL K) :
    ∃ (K : PySem.W.Frag) (fd : FuncData) (sp : Sp), K.In h ∧ (∀ (s : Shared) (u : Value), BindsTo s fd ⟨[u], []⟩ [("_law_script", u)]) ∧
        (∀ (H : Hp) (a : Addr) (ns : List Int), ns.length ≤ 63 → (∀ z ∈ ns, Builtin.Int.intBits z ≤ 1048576) → SqL K H a (ns.map V.int) → sp [.ref a] H (fun v _ => v = .bl true) fun _ _ _ => False) ∧
        ∀ base : Heap, K.In base → base.Ns mainGlobals mg → FnG P w K mg base 7 fa fd ["_law_script"] sp := by
  have T : Tx (Cn.mk K (fun i => He.ga K (clsN i))) mg := ⟨⟨h, X, G, c⟩, rfl⟩
  obtain ⟨f, fd, hm, F⟩ := fd_law T
  have e := hfa.symm.trans hm
  cases e
  have b := FunD.bindsA (ps := ["_law_script"]) F fun _ _ _ _ _ _ us hl => match us, hl with | [_], _ => rfl
  refine ⟨K, fd, spOf (Cn.mk K (fun i => He.ga K (clsN i))) 1 S_law, X, fun s u => b s [u] rfl, fun H a ns hl hb hS => law_sp (c := Cn.mk K (fun i => He.ga K (clsN i))) (fun Post hp => ?_) hS, fun base _ _ => ok_law T F⟩
  first | exact c_law hp | exact c_law hl hp | exact c_law hl hb hp
end TL
open PySem PySem.W PySem.Calls PyProof.Rows
theorem PySem.Challenge.cw_halvedpictures_k04_texts_written_and_rea_holds : PySem.Challenge.rw_halvedpictures_k04_texts_written_and_rea.Holds := by
  refine TL.finis ?_
  intro w mg fa h Y G hmg
  obtain ⟨K, KX, c⟩ := Y
  exact TL.law_facts KX G hmg c
