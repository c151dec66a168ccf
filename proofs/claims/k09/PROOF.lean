import PyProof.Rows.All
import Wide.All
import OpenK.AllK
import Wide.FinOn
import HandS.Codes
import HandS.Defaults
import HandS.ExcField
import HandS.ExcInitHot
import HandS.ExcIs
import HandS.FStr
import HandS.Flow
import HandS.ForExc
import HandS.ForMost
import HandS.Head2
import HandS.HeadEnd
import HandS.HeadHook1
import HandS.HeadHook4
import HandS.HeadWalk
import HandS.IsInst
import HandS.Lambda
import HandS.MakeKwOnly
import HandS.More
import HandS.OwnEq
import HandS.ReplaceLit
import HandS.Style
import HandS.Walk
import KE.KNestM
import KE.KStateDown
import Lean
import PySem.Challenge.RW_everylemma_k09_looks_read
set_option Elab.async false
set_option linter.all false
set_option maxRecDepth 100000
namespace K9
open PySem PySem.Spec PyProof.Rows L2
/-- a test's two ways -/
theorem iteB {b : Bool} {A B : Prop} (h1 : b = true → A) (h2 : b = false → B) : if b = true then A else B := by
  cases b with
  | true => exact iteT (h1 rfl)
  | false => exact iteF (h2 rfl)
theorem iteTk {b : Bool} {A B : Prop} (h : b = true) (k : A) : if b = true then A else B := by
  rw [if_pos h]
  exact k
theorem iteFk {b : Bool} {A B : Prop} (h : b = false) (k : B) : if b = true then A else B := by
  rw [h]
  exact iteF k
theorem pe_never {X : Cx} {e : Expr} : PE X e (fun _ _ _ => False) := ⟨fun _ _ _ _ _ _ h => h.elim⟩
/-! ### data compared -/
def flatD : V → Bool
  | .non | .bl _ | .int _ => true
  | .str x => PyData.strOk x
  | _ => false
def dataV : V → PyData
  | .bl b => .bool b
  | .int i => .int i
  | .str x => .str x
  | _ => .none
theorem flat_dp {K : PySem.W.Frag} {H : Hp} : ∀ {v : V}, flatD v = true → Dp K H v (dataV v)
  | .non, _ => .non
  | .bl b, _ => .bl b
  | .int i, _ => .int i
  | .str x, _ => .str x
theorem flat_lay : ∀ {v : V}, flatD v = true → PyData.canLay0 (dataV v) = true
  | .non, _ => rfl
  | .bl b, _ => rfl
  | .int i, _ => rfl
  | .str x, h => by
    have h' : PyData.strOk x = true := h
    simpa [dataV, PyData.canLay0] using h'
theorem flat_depth : ∀ {v : V}, PyData.depth (dataV v) = 0
  | .non => by simp [dataV, PyData.depth]
  | .bl b => by simp [dataV, PyData.depth]
  | .int i => by simp [dataV, PyData.depth]
  | .str x => by simp [dataV, PyData.depth]
  | .byt _ => by simp [dataV, PyData.depth]
  | .flt _ => by simp [dataV, PyData.depth]
  | .ref _ => by simp [dataV, PyData.depth]
  | .ty _ => by simp [dataV, PyData.depth]
theorem flats_dp {K : PySem.W.Frag} {H : Hp} : ∀ {xs : List V}, xs.all flatD = true → DpAll K H xs (xs.map dataV)
  | [], _ => .nil
  | x :: xs, h => by
    rw [List.all_cons, Bool.and_eq_true] at h
    exact .cons (flat_dp h.1) (flats_dp h.2)
theorem flats_shaped : ∀ {xs : List V}, xs.all flatD = true → PyData.canLayAll0 (xs.map dataV) = true ∧ PyData.depthAll (xs.map dataV) = 0
  | [], _ => by
    constructor
    · simp [PyData.canLayAll0]
    · simp [PyData.depthAll]
  | x :: xs, h => by
    rw [List.all_cons, Bool.and_eq_true] at h
    obtain ⟨h1, h2⟩ := flats_shaped h.2
    constructor
    · simp only [List.map_cons, PyData.canLayAll0, flat_lay h.1, h1, Bool.and_self]
    · simp only [List.map_cons, PyData.depthAll, flat_depth, h2, Nat.max_self]
theorem shapedL {xs : List V} (h : xs.all flatD = true) : SeqAt.shaped (.list (xs.map dataV)) = true := by
  obtain ⟨h1, h2⟩ := flats_shaped h
  unfold SeqAt.shaped
  rw [Bool.and_eq_true]
  constructor
  · simpa [PyData.canLay0] using h1
  · simp [PyData.depth, h2]
theorem shapedT {xs : List V} (h : xs.all flatD = true) : SeqAt.shaped (.tuple (xs.map dataV)) = true := by
  obtain ⟨h1, h2⟩ := flats_shaped h
  unfold SeqAt.shaped
  rw [Bool.and_eq_true]
  constructor
  · simpa [PyData.canLay0] using h1
  · simp [PyData.depth, h2]
theorem eqv_nil (xs : List V) : PyData.eqv (.list (xs.map dataV)) (.list ([].map dataV)) = xs.isEmpty := by
  cases xs with
  | nil => simp [PyData.eqv, PyData.eqvAll]
  | cons x xs => simp [PyData.eqv, PyData.eqvAll]
theorem rNe_nil {K : PySem.W.Frag} {H : Hp} {a p : Addr} {xs : List V} {Q : VK} (hx : SqL K H a xs) (hf : xs.all flatD = true) (hp : SqL K H p []) (q : Q (.bl (!xs.isEmpty)) H) : rNeD K (.ref a) (.ref p) H Q :=
  ⟨_, _, .lst hx (flats_dp hf), .lst hp (flats_dp (xs := []) rfl), shapedL hf, shapedL (xs := []) rfl, by rw [eqv_nil]; exact q⟩
theorem rEq_nil {K : PySem.W.Frag} {H : Hp} {a p : Addr} {xs : List V} {Q : VK} (hx : SqL K H a xs) (hf : xs.all flatD = true) (hp : SqL K H p []) (q : Q (.bl xs.isEmpty) H) : rEqD K (.ref a) (.ref p) H Q :=
  ⟨_, _, .lst hx (flats_dp hf), .lst hp (flats_dp (xs := []) rfl), shapedL hf, shapedL (xs := []) rfl, by rw [eqv_nil]; exact q⟩
theorem flat_ints : ∀ ns : List Int, (ns.map V.int).all flatD = true
  | [] => rfl
  | n :: ns => by
    rw [List.map_cons, List.all_cons, flat_ints ns]
    rfl
/-! ### isinstance of built-in types -/
theorem kit_str_bool {K : PySem.W.Frag} : PySem.W.kitOne K (.type "str") (.type "bool") = some false := kit_ty (by decide +kernel)
theorem kit_str_int {K : PySem.W.Frag} : PySem.W.kitOne K (.type "str") (.type "int") = some false := kit_ty (by decide +kernel)
theorem kit_str_str {K : PySem.W.Frag} : PySem.W.kitOne K (.type "str") (.type "str") = some true := kit_ty (by decide +kernel)
theorem kit_str_dict {K : PySem.W.Frag} : PySem.W.kitOne K (.type "str") (.type "dict") = some false := kit_ty (by decide +kernel)
theorem kit_str_list {K : PySem.W.Frag} : PySem.W.kitOne K (.type "str") (.type "list") = some false := kit_ty (by decide +kernel)
theorem kit_str_tuple {K : PySem.W.Frag} : PySem.W.kitOne K (.type "str") (.type "tuple") = some false := kit_ty (by decide +kernel)
theorem kit_int_bool {K : PySem.W.Frag} : PySem.W.kitOne K (.type "int") (.type "bool") = some false := kit_ty (by decide +kernel)
theorem kit_int_int {K : PySem.W.Frag} : PySem.W.kitOne K (.type "int") (.type "int") = some true := kit_ty (by decide +kernel)
theorem kit_int_str {K : PySem.W.Frag} : PySem.W.kitOne K (.type "int") (.type "str") = some false := kit_ty (by decide +kernel)
theorem kit_int_dict {K : PySem.W.Frag} : PySem.W.kitOne K (.type "int") (.type "dict") = some false := kit_ty (by decide +kernel)
theorem kit_int_list {K : PySem.W.Frag} : PySem.W.kitOne K (.type "int") (.type "list") = some false := kit_ty (by decide +kernel)
theorem kit_int_tuple {K : PySem.W.Frag} : PySem.W.kitOne K (.type "int") (.type "tuple") = some false := kit_ty (by decide +kernel)
theorem kit_bool_bool {K : PySem.W.Frag} : PySem.W.kitOne K (.type "bool") (.type "bool") = some true := kit_ty (by decide +kernel)
theorem kit_bool_int {K : PySem.W.Frag} : PySem.W.kitOne K (.type "bool") (.type "int") = some true := kit_ty (by decide +kernel)
theorem kit_bool_str {K : PySem.W.Frag} : PySem.W.kitOne K (.type "bool") (.type "str") = some false := kit_ty (by decide +kernel)
theorem kit_bool_dict {K : PySem.W.Frag} : PySem.W.kitOne K (.type "bool") (.type "dict") = some false := kit_ty (by decide +kernel)
theorem kit_bool_list {K : PySem.W.Frag} : PySem.W.kitOne K (.type "bool") (.type "list") = some false := kit_ty (by decide +kernel)
theorem kit_bool_tuple {K : PySem.W.Frag} : PySem.W.kitOne K (.type "bool") (.type "tuple") = some false := kit_ty (by decide +kernel)
theorem kit_list_bool {K : PySem.W.Frag} : PySem.W.kitOne K (.type "list") (.type "bool") = some false := kit_ty (by decide +kernel)
theorem kit_list_int {K : PySem.W.Frag} : PySem.W.kitOne K (.type "list") (.type "int") = some false := kit_ty (by decide +kernel)
theorem kit_list_str {K : PySem.W.Frag} : PySem.W.kitOne K (.type "list") (.type "str") = some false := kit_ty (by decide +kernel)
theorem kit_list_dict {K : PySem.W.Frag} : PySem.W.kitOne K (.type "list") (.type "dict") = some false := kit_ty (by decide +kernel)
theorem kit_list_list {K : PySem.W.Frag} : PySem.W.kitOne K (.type "list") (.type "list") = some true := kit_ty (by decide +kernel)
theorem kit_list_tuple {K : PySem.W.Frag} : PySem.W.kitOne K (.type "list") (.type "tuple") = some false := kit_ty (by decide +kernel)
theorem kit_tuple_bool {K : PySem.W.Frag} : PySem.W.kitOne K (.type "tuple") (.type "bool") = some false := kit_ty (by decide +kernel)
theorem kit_tuple_int {K : PySem.W.Frag} : PySem.W.kitOne K (.type "tuple") (.type "int") = some false := kit_ty (by decide +kernel)
theorem kit_tuple_str {K : PySem.W.Frag} : PySem.W.kitOne K (.type "tuple") (.type "str") = some false := kit_ty (by decide +kernel)
theorem kit_tuple_dict {K : PySem.W.Frag} : PySem.W.kitOne K (.type "tuple") (.type "dict") = some false := kit_ty (by decide +kernel)
theorem kit_tuple_list {K : PySem.W.Frag} : PySem.W.kitOne K (.type "tuple") (.type "list") = some false := kit_ty (by decide +kernel)
theorem kit_tuple_tuple {K : PySem.W.Frag} : PySem.W.kitOne K (.type "tuple") (.type "tuple") = some true := kit_ty (by decide +kernel)
theorem kit_dict_bool {K : PySem.W.Frag} : PySem.W.kitOne K (.type "dict") (.type "bool") = some false := kit_ty (by decide +kernel)
theorem kit_dict_int {K : PySem.W.Frag} : PySem.W.kitOne K (.type "dict") (.type "int") = some false := kit_ty (by decide +kernel)
theorem kit_dict_str {K : PySem.W.Frag} : PySem.W.kitOne K (.type "dict") (.type "str") = some false := kit_ty (by decide +kernel)
theorem kit_dict_dict {K : PySem.W.Frag} : PySem.W.kitOne K (.type "dict") (.type "dict") = some true := kit_ty (by decide +kernel)
theorem kit_dict_list {K : PySem.W.Frag} : PySem.W.kitOne K (.type "dict") (.type "list") = some false := kit_ty (by decide +kernel)
theorem kit_dict_tuple {K : PySem.W.Frag} : PySem.W.kitOne K (.type "dict") (.type "tuple") = some false := kit_ty (by decide +kernel)
theorem kit_NoneType_bool {K : PySem.W.Frag} : PySem.W.kitOne K (.type "NoneType") (.type "bool") = some false := kit_ty (by decide +kernel)
theorem kit_NoneType_int {K : PySem.W.Frag} : PySem.W.kitOne K (.type "NoneType") (.type "int") = some false := kit_ty (by decide +kernel)
theorem kit_NoneType_str {K : PySem.W.Frag} : PySem.W.kitOne K (.type "NoneType") (.type "str") = some false := kit_ty (by decide +kernel)
theorem kit_NoneType_dict {K : PySem.W.Frag} : PySem.W.kitOne K (.type "NoneType") (.type "dict") = some false := kit_ty (by decide +kernel)
theorem kit_NoneType_list {K : PySem.W.Frag} : PySem.W.kitOne K (.type "NoneType") (.type "list") = some false := kit_ty (by decide +kernel)
theorem kit_NoneType_tuple {K : PySem.W.Frag} : PySem.W.kitOne K (.type "NoneType") (.type "tuple") = some false := kit_ty (by decide +kernel)
theorem rNe_flat {K : PySem.W.Frag} {H : Hp} {a p : Addr} {xs ys : List V} {Q : VK} (hx : SqL K H a xs) (hp : SqL K H p ys) (hf : xs.all flatD = true) (hg : ys.all flatD = true) (q : Q (.bl (!PyData.eqv (.list (xs.map dataV)) (.list (ys.map dataV)))) H) :
    rNeD K (.ref a) (.ref p) H Q := ⟨_, _, .lst hx (flats_dp hf), .lst hp (flats_dp hg), shapedL hf, shapedL hg, q⟩
theorem rEq_flat {K : PySem.W.Frag} {H : Hp} {a p : Addr} {xs ys : List V} {Q : VK} (hx : SqL K H a xs) (hp : SqL K H p ys) (hf : xs.all flatD = true) (hg : ys.all flatD = true) (q : Q (.bl (PyData.eqv (.list (xs.map dataV)) (.list (ys.map dataV)))) H) :
    rEqD K (.ref a) (.ref p) H Q := ⟨_, _, .lst hx (flats_dp hf), .lst hp (flats_dp hg), shapedL hf, shapedL hg, q⟩
theorem rNe_flatT {K : PySem.W.Frag} {H : Hp} {a p : Addr} {xs ys : List V} {Q : VK} (hx : SqT K H a xs) (hp : SqT K H p ys) (hf : xs.all flatD = true) (hg : ys.all flatD = true) (q : Q (.bl (!PyData.eqv (.tuple (xs.map dataV)) (.tuple (ys.map dataV)))) H) :
    rNeD K (.ref a) (.ref p) H Q := ⟨_, _, .tup hx (flats_dp hf), .tup hp (flats_dp hg), shapedT hf, shapedT hg, q⟩
theorem rEq_flatT {K : PySem.W.Frag} {H : Hp} {a p : Addr} {xs ys : List V} {Q : VK} (hx : SqT K H a xs) (hp : SqT K H p ys) (hf : xs.all flatD = true) (hg : ys.all flatD = true) (q : Q (.bl (PyData.eqv (.tuple (xs.map dataV)) (.tuple (ys.map dataV)))) H) :
    rEqD K (.ref a) (.ref p) H Q := ⟨_, _, .tup hx (flats_dp hf), .tup hp (flats_dp hg), shapedT hf, shapedT hg, q⟩
theorem line1000 {n : Nat} (h : n ≤ 1000) : n ≤ sizeLine := Nat.le_trans h (Nat.le_of_ble_eq_true rfl)
end K9
set_option Elab.async false
set_option linter.all false
set_option maxRecDepth 100000
namespace K9
open PySem PySem.Spec PyProof.Rows L2
def top (i : Nat) : Stmt := PySem.Challenge.pw_everylemma_k09_looks_read.main.body.getD i (.Pass ⟨0, 0, 0, 0⟩)
abbrev FnP (K : PySem.W.Frag) (x q : Str) (st : Stmt) (kw : List (Str × V)) (f : Addr) (fd : FuncData) : Prop := FunD K x q (defArgs st) (defBody st) (defScope st) [] kw f fd
/-- a def of the module, as its callers know it -/
structure Cal (P : Program) (w : World) (K : PySem.W.Frag) (mg : Str → Option Value) (base : Heap) (CX : CXT) (k : Nat) (x : Str) (ps : List Str) (sp : Sp) (f : Addr) (fd : FuncData) : Prop where
  ok : FnOk P w K mg base CX k f fd ps sp
  mg : mg x = some (.ref f)
  kp : PySem.W.keepIn K (.ref f) = true
  b : Binds K fd ps []
/-- the builtins' names are no names of the module -/
structure Free (mg : Str → Option Value) : Prop where
  len : mg "len" = none
  int : mg "int" = none
  isinstance : mg "isinstance" = none
  list : mg "list" = none
  range : mg "range" = none
  sum : mg "sum" = none
  max : mg "max" = none
  dict : mg "dict" = none
  enumerate : mg "enumerate" = none
  str : mg "str" = none
  bool : mg "bool" = none
  tuple : mg "tuple" = none
theorem gc_i {g : TG} {u : TGs} {v : V} {r : List V} {σ : L2.St} {H : Hp} {Q : L2.St → Hp → Prop} (h : g v σ H fun σ' H' => u r σ' H' Q) : gCons g u (v :: r) σ H Q := ⟨v, r, rfl, h⟩
theorem abs_ends {t : TS} {σ : L2.St} {H : Hp} {D : Ends} {N : L2.St → Hp → Prop} {r : VK} (hN : D.nx = N) (hr : D.rt = r) (h : ∀ D' : Ends, (∀ σ H, N σ H → D'.nx σ H) → (∀ v H, r v H → D'.rt v H) → t D' σ H) : t D σ H :=
  h D (fun _ _ z => hN ▸ z) (fun _ _ z => hr ▸ z)
/-! ### heaps -/
/-- what was tracked stays, but what stands at j -/
def But (j : Addr) (H H' : Hp) : Prop := ∀ b o, H b = some o → b ≠ j → H' b = some o
theorem But.refl (j : Addr) (H : Hp) : But j H H := fun _ _ h _ => h
theorem But.trans {j : Addr} {H H1 H2 : Hp} (a : But j H H1) (b : But j H1 H2) : But j H H2 := fun c o h n => b c o (a c o h n) n
theorem But.of {j : Addr} {H H' : Hp} (a : Same H H') : But j H H' := fun b o h _ => a b o h
theorem But.upd {j : Addr} {H H' : Hp} {o : HO} (a : But j H H') : But j H (upd H' j o) := fun b u h n => (upd_ne n).trans (a b u h n)
theorem But.new {j p : Addr} {H H' : Hp} {o : HO} (a : But j H H') (n : H' p = none) : But j H (L2.upd H' p o) := fun b u h z => by
  have e := a b u h z
  exact (upd_ne (ne_of_none e n)).trans e
theorem Same.new {p : Addr} {H H' : Hp} {o : HO} (a : Same H H') (n : H' p = none) : Same H (L2.upd H' p o) := fun b u h => by
  have e := a b u h
  exact (upd_ne (ne_of_none e n)).trans e
theorem ne_nw {H : Hp} {a q : Addr} {o : HO} (h' : H q = none) (h : H a = some o) : a ≠ q := ne_of_none h h'
theorem old_none {H H' : Hp} {p : Addr} (s : Same H H') (n : H' p = none) : H p = none := s.free n
/-- the draws' jar stands at j -/
structure Jar (H : Hp) (j : Addr) : Prop where
  ex : ∃ (c : Addr) (ns : List Int) (i r n m : Int), H j = some (.lst [.ref c, .int i, .int r, .int n, .int m]) ∧ H c = some (.lst (ns.map V.int)) ∧ c ≠ j ∧ ns.length ≤ 63
theorem Jar.same {H H' : Hp} {j : Addr} (a : Jar H j) (s : Same H H') : Jar H' j := by
  obtain ⟨c, ns, i, r, n, m, h1, h2, h3, h4⟩ := a.ex
  exact ⟨c, ns, i, r, n, m, s _ _ h1, s _ _ h2, h3, h4⟩
end K9
set_option Elab.async false
set_option linter.all false
set_option maxRecDepth 100000
set_option maxHeartbeats 4000000
/-! What the head asks of the written part. -/
namespace K9
open PySem PySem.Spec PySem.Calls PyProof.Rows L2
def valsK (K : PySem.W.Frag) (a : Addr) : Option (List (Option V)) := match K.lookup a with
  | some ⟨_, _, .dict es _, _⟩ => some (es.toList.map fun e => absV e.val)
  | _ => none
def limits : List (Str × Int) := [("text", 400000), ("digits", 9), ("named", 20), ("place", 80), ("box", 8), ("room", 20), ("floor", 150), ("words", 80), ("depth", 8), ("premises", 60), ("sharp", 16), ("atoms", 8), ("nested", 40), ("apart", 10), ("unlike", 80), ("copies", 1000), ("forms", 2000), ("maps", 600), ("many", 400), ("tallies", 12), ("degrees", 20), ("layers", 80), ("level", 999), ("points", 8), ("lots", 5), ("counts", 16), ("toldbox", 100), ("told", 12), ("cases", 200), ("page", 8)]
def mirr : List (Str × Str) := [("r", "u"), ("u", "r"), ("r?", "u?"), ("u?", "r?")]
def turn : List (Str × Str) := [("all", "none"), ("none", "all"), ("+", "&"), ("&", "+"), ("r", "r?"), ("r?", "r"), ("u", "u?"), ("u?", "u")]
def kvI (l : List (Str × Int)) : List (Str × V) := l.map fun p => (p.1, V.int p.2)
def kvS (l : List (Str × Str)) : List (Str × V) := l.map fun p => (p.1, V.str p.2)
def tupW (K : PySem.W.Frag) (a : Addr) : Option (List (Option V)) := match K.lookup a with
  | some ⟨.type c, _, .seq its _, _⟩ => if c = "tuple" then some (its.toList.map absV) else none
  | _ => none
def oexB (K : PySem.W.Frag) (C : Addr) : Bool := match K.lookup C with
  | some ⟨.type "type", _, .cls cd, sl⟩ => (match cd.mro, sl.toList with
    | .ref C' :: bm, [_, _, _, _, some (.builtin n), _] => C' == C && n == "ValueError.__new__" && !cd.hasDel && cd.hasDict && PySem.HandSPX.refsVE bm
    | _, _ => false)
  | _ => false
def stepA (K : PySem.W.Frag) (i : Nat) : Addr := match valsK K (He.ga K "STEPS") with
  | some vs => (match vs[i]? with
    | some (some (.ref a)) => a
    | _ => 0)
  | _ => 0
end K9
set_option Elab.async false
set_option linter.all false
set_option maxRecDepth 100000
set_option maxHeartbeats 0
namespace K9
open PySem PySem.Spec PyProof.Rows L2
def d_BadLookX_initX : He.DefD := ⟨("BadLook", some "__init__"), "__init__", "BadLook.__init__", defArgs (inClass (top 9) 0), defBody (inClass (top 9) 0), defScope (inClass (top 9) 0), [], []⟩
def d_check_bounds : He.DefD := ⟨("check_bounds", none), "check_bounds", "check_bounds", defArgs (top 25), defBody (top 25), defScope (top 25), [], []⟩
def d_goes_on : He.DefD := ⟨("goes_on", none), "goes_on", "goes_on", defArgs (top 31), defBody (top 31), defScope (top 31), [], []⟩
def d_signs_of : He.DefD := ⟨("signs_of", none), "signs_of", "signs_of", defArgs (top 32), defBody (top 32), defScope (top 32), [], []⟩
def d_fault_of : He.DefD := ⟨("fault_of", none), "fault_of", "fault_of", defArgs (top 33), defBody (top 33), defScope (top 33), [], []⟩
def d_depth_of : He.DefD := ⟨("depth_of", none), "depth_of", "depth_of", defArgs (top 34), defBody (top 34), defScope (top 34), [], []⟩
def d_exchanged : He.DefD := ⟨("exchanged", none), "exchanged", "exchanged", defArgs (top 35), defBody (top 35), defScope (top 35), [], []⟩
def d_mirrored_text : He.DefD := ⟨("mirrored_text", none), "mirrored_text", "mirrored_text", defArgs (top 36), defBody (top 36), defScope (top 36), [], []⟩
def d_turned_text : He.DefD := ⟨("turned_text", none), "turned_text", "turned_text", defArgs (top 37), defBody (top 37), defScope (top 37), [], []⟩
def d_LookX_initX : He.DefD := ⟨("Look", some "__init__"), "__init__", "Look.__init__", defArgs (inClass (top 39) 0), defBody (inClass (top 39) 0), defScope (inClass (top 39) 0), [], [("own", .bl false)]⟩
def d_Look_mirrored : He.DefD := ⟨("Look", some "mirrored"), "mirrored", "Look.mirrored", defArgs (inClass (top 39) 1), defBody (inClass (top 39) 1), defScope (inClass (top 39) 1), [], []⟩
def d_Look_turned_about : He.DefD := ⟨("Look", some "turned_about"), "turned_about", "Look.turned_about", defArgs (inClass (top 39) 2), defBody (inClass (top 39) 2), defScope (inClass (top 39) 2), [], []⟩
def d_LookX_eqX : He.DefD := ⟨("Look", some "__eq__"), "__eq__", "Look.__eq__", defArgs (inClass (top 39) 3), defBody (inClass (top 39) 3), defScope (inClass (top 39) 3), [], []⟩
def dXlaw_jar : He.DefD := ⟨("_law_jar", none), "_law_jar", "_law_jar", defArgs (top 41), defBody (top 41), defScope (top 41), [], []⟩
def dXlaw_draw : He.DefD := ⟨("_law_draw", none), "_law_draw", "_law_draw", defArgs (top 42), defBody (top 42), defScope (top 42), [], []⟩
def dXlaw_pick : He.DefD := ⟨("_law_pick", none), "_law_pick", "_law_pick", defArgs (top 43), defBody (top 43), defScope (top 43), [], []⟩
def dXlaw_same : He.DefD := ⟨("_law_same", none), "_law_same", "_law_same", defArgs (top 44), defBody (top 44), defScope (top 44), [], []⟩
def dXlaw_classes : He.DefD := ⟨("_law_classes", none), "_law_classes", "_law_classes", defArgs (top 45), defBody (top 45), defScope (top 45), [], []⟩
def dXlaw_caught : He.DefD := ⟨("_law_caught", none), "_law_caught", "_law_caught", defArgs (top 46), defBody (top 46), defScope (top 46), [], []⟩
def dXlaw_tried : He.DefD := ⟨("_law_tried", none), "_law_tried", "_law_tried", defArgs (top 47), defBody (top 47), defScope (top 47), [], []⟩
def dXlaw_refused : He.DefD := ⟨("_law_refused", none), "_law_refused", "_law_refused", defArgs (top 48), defBody (top 48), defScope (top 48), [], []⟩
def dXlaw_tree : He.DefD := ⟨("_law_tree", none), "_law_tree", "_law_tree", defArgs (top 49), defBody (top 49), defScope (top 49), [], []⟩
def dXlaw_say : He.DefD := ⟨("_law_say", none), "_law_say", "_law_say", defArgs (top 50), defBody (top 50), defScope (top 50), [], []⟩
def dXlaw_deep : He.DefD := ⟨("_law_deep", none), "_law_deep", "_law_deep", defArgs (top 51), defBody (top 51), defScope (top 51), [], []⟩
def dXlaw_exchanged : He.DefD := ⟨("_law_exchanged", none), "_law_exchanged", "_law_exchanged", defArgs (top 52), defBody (top 52), defScope (top 52), [], []⟩
def dXlaw_look_read : He.DefD := ⟨("_law_look_read", none), "_law_look_read", "_law_look_read", defArgs (top 53), defBody (top 53), defScope (top 53), [], []⟩
def dXlaw_told : He.DefD := ⟨("_law_told", none), "_law_told", "_law_told", defArgs (top 54), defBody (top 54), defScope (top 54), [], []⟩
def dXlaw_bent_look : He.DefD := ⟨("_law_bent_look", none), "_law_bent_look", "_law_bent_look", defArgs (top 55), defBody (top 55), defScope (top 55), [], []⟩
def d_law : He.DefD := ⟨("law", none), "law", "law", defArgs (top 56), defBody (top 56), defScope (top 56), [], []⟩
def fn : List He.DefD := [d_BadLookX_initX, d_check_bounds, d_goes_on, d_signs_of, d_fault_of, d_depth_of, d_exchanged, d_mirrored_text, d_turned_text, d_LookX_initX, d_Look_mirrored, d_Look_turned_about, d_LookX_eqX, dXlaw_jar, dXlaw_draw, dXlaw_pick, dXlaw_same, dXlaw_classes, dXlaw_caught, dXlaw_tried, dXlaw_refused, dXlaw_tree, dXlaw_say, dXlaw_deep, dXlaw_exchanged, dXlaw_look_read, dXlaw_told, dXlaw_bent_look, d_law]
def fa : List He.Fa := [.glo "EveryError", .glo "BadNumber", .glo "BadFloor", .glo "NotFloor", .glo "BadPiece", .glo "BadTally", .glo "BadTurning", .glo "BadMap", .glo "BadLook", .glo "BadSaying", .glo "BadBook", .glo "BadVerdict", .glo "BadLayers", .glo "NotLayers", .glo "BadCover", .glo "BadMeasure", .glo "BadScript", .glo "Unlike", .glo "OutOf", .glo "TooMany", .glo "NoSuch", .glo "Ended", .glo "LIMITS", .glo "check_bounds", .glo "LEAVES", .glo "STEPS", .glo "MIRRORED", .glo "TURNED", .glo "goes_on", .glo "signs_of", .glo "fault_of", .glo "depth_of", .glo "exchanged", .glo "mirrored_text", .glo "turned_text", .glo "Look", .glo "_law_jar", .glo "_law_draw", .glo "_law_pick", .glo "_law_same", .glo "_law_classes", .glo "_law_caught", .glo "_law_tried", .glo "_law_refused", .glo "_law_tree", .glo "_law_say", .glo "_law_deep", .glo "_law_exchanged", .glo "_law_look_read", .glo "_law_told", .glo "_law_bent_look", .glo "law", .free "len", .free "int", .free "isinstance", .free "list", .free "range", .free "sum", .free "max", .free "dict", .free "enumerate", .free "str", .free "bool", .free "tuple", .free "ValueError", .free "LookupError", .free "KeyError", .free "IndexError", .free "RuntimeError", .cls "Look", .mkr "Look", .noat "Look" "_signs", .noat "Look" "text", .noat "Look" "words", .noat "Look" "depth", .meth "Look" "mirrored", .meth "Look" "turned_about", .meth "Look" "__eq__"]
def names1 : List PySem.Str := ["EveryError", "BadNumber", "BadFloor", "NotFloor", "BadPiece", "BadTally", "BadTurning", "BadMap", "BadLook", "BadSaying", "BadBook", "BadVerdict", "BadLayers", "NotLayers", "BadCover", "BadMeasure", "BadScript", "Unlike", "OutOf", "TooMany", "NoSuch", "Ended", "LIMITS", "check_bounds", "LEAVES", "STEPS", "MIRRORED", "TURNED", "goes_on", "signs_of"]
def names2 : List PySem.Str := ["fault_of", "depth_of", "exchanged", "mirrored_text", "turned_text", "Look", "_law_jar", "_law_draw", "_law_pick", "_law_same", "_law_classes", "_law_caught", "_law_tried", "_law_refused", "_law_tree", "_law_say", "_law_deep", "_law_exchanged", "_law_look_read", "_law_told", "_law_bent_look"]
def exL (K : PySem.W.Frag) : List Bool := [decide (PySem.W.kitOne K (.ref (He.ga K "BadLook")) (.ref (He.ga K "BadNumber")) = some false), decide (PySem.W.kitOne K (.ref (He.ga K "BadLook")) (.ref (He.ga K "BadFloor")) = some false), decide (PySem.W.kitOne K (.ref (He.ga K "BadLook")) (.ref (He.ga K "NotFloor")) = some false), decide (PySem.W.kitOne K (.ref (He.ga K "BadLook")) (.ref (He.ga K "BadPiece")) = some false), decide (PySem.W.kitOne K (.ref (He.ga K "BadLook")) (.ref (He.ga K "BadTally")) = some false), decide (PySem.W.kitOne K (.ref (He.ga K "BadLook")) (.ref (He.ga K "BadTurning")) = some false), decide (PySem.W.kitOne K (.ref (He.ga K "BadLook")) (.ref (He.ga K "BadMap")) = some false), decide (PySem.W.kitOne K (.ref (He.ga K "BadLook")) (.ref (He.ga K "BadLook")) = some true), decide (PySem.W.kitOne K (.ref (He.ga K "BadLook")) (.ref (He.ga K "BadSaying")) = some false), decide (PySem.W.kitOne K (.ref (He.ga K "BadLook")) (.ref (He.ga K "BadBook")) = some false), decide (PySem.W.kitOne K (.ref (He.ga K "BadLook")) (.ref (He.ga K "BadVerdict")) = some false), decide (PySem.W.kitOne K (.ref (He.ga K "BadLook")) (.ref (He.ga K "BadLayers")) = some false), decide (PySem.W.kitOne K (.ref (He.ga K "BadLook")) (.ref (He.ga K "NotLayers")) = some false), decide (PySem.W.kitOne K (.ref (He.ga K "BadLook")) (.ref (He.ga K "BadCover")) = some false), decide (PySem.W.kitOne K (.ref (He.ga K "BadLook")) (.ref (He.ga K "BadMeasure")) = some false), decide (PySem.W.kitOne K (.ref (He.ga K "BadLook")) (.ref (He.ga K "BadScript")) = some false), decide (PySem.W.kitOne K (.ref (He.ga K "BadLook")) (.ref (He.ga K "Unlike")) = some false), decide (PySem.W.kitOne K (.ref (He.ga K "BadLook")) (.ref (He.ga K "OutOf")) = some false), decide (PySem.W.kitOne K (.ref (He.ga K "BadLook")) (.ref (He.ga K "TooMany")) = some false), decide (PySem.W.kitOne K (.ref (He.ga K "BadLook")) (.ref (He.ga K "NoSuch")) = some false), decide (PySem.W.kitOne K (.ref (He.ga K "BadLook")) (.ref (He.ga K "Ended")) = some false), decide (PySem.W.kitOne K (.ref (He.ga K "BadLook")) (.ref (He.ga K "EveryError")) = some true), decide (PySem.W.kitOne K (.ref (He.ga K "BadLook")) (.type "ValueError") = some true), decide (PySem.W.kitOne K (.ref (He.ga K "BadLook")) (.type "LookupError") = some false), decide (PySem.W.kitOne K (.ref (He.ga K "BadLook")) (.type "KeyError") = some false), decide (PySem.W.kitOne K (.ref (He.ga K "BadLook")) (.type "IndexError") = some false), decide (PySem.W.kitOne K (.ref (He.ga K "BadLook")) (.type "RuntimeError") = some false), decide (PySem.W.findIn K (.ref (He.ga K "BadLook")) "at" = some none), decide (PySem.W.findIn K (.ref (He.ga K "BadLook")) "why" = some none), decide (PySem.W.exmOne K (.ref (He.ga K "BadLook")) (.ref (He.ga K "EveryError")) = some true), oexB K (He.ga K "BadLook"), decide (PySem.W.findIn K (.ref (He.ga K "BadLook")) "__setattr__" = some (some (.builtin "object.__setattr__"))), decide (PySem.W.subIn K (.ref (He.ga K "BadLook")) (.type "BaseException") = some true), decide (PySem.W.typeIn K (.ref (He.ga K "BadLook")) = some (.type "type")), PySem.W.keepIn K (.ref (He.ga K "BadLook")), decide (PySem.W.findIn K (.ref (He.ga K "BadLook")) "__getattribute__" = some (some (.builtin "BaseException.__getattribute__"))), decide (PySem.W.findIn K (.ref (He.ga K "BadLook")) "__getattr__" = some none), PySem.W.hasDictIn K (He.ga K "BadLook"), decide (PySem.W.findIn K (.ref (He.ga K "BadLook")) "__class__" = some (some (.builtin "object.__class__"))), decide (PySem.W.specialIn K (.builtin "object.__class__") "__get__" = some (some (.builtin "getset_descriptor.__get__"))), decide (PySem.W.takesIn K (.builtin "object.__class__") = some true), decide (PySem.W.mroIn K (He.ga K "BadLook") (.type "object") = some true), decide (PySem.W.findIn K (.ref (He.ga K "BadLook")) "__init__" = some (some (.ref (He.ma K (He.ga K "BadLook") "__init__")))), decide (PySem.W.typeIn K (.ref (He.ma K (He.ga K "BadLook") "__init__")) = some (.type "function")), decide (PySem.W.kitOne K (.ref (He.ga K "Look")) (.ref (He.ga K "Look")) = some true), decide (PySem.W.kitOne K (.type "str") (.ref (He.ga K "Look")) = some false), decide (PySem.W.kitOne K (.ref (He.ga K "Look")) (.type "str") = some false), decide (PySem.W.findIn K (.ref (He.ga K "Look")) "__class__" = some (some (.builtin "object.__class__"))), decide (PySem.W.mroIn K (He.ga K "Look") (.type "object") = some true), PySem.W.notFirst K (He.ga K "Look") (.ref (He.ga K "Look")), PySem.W.notFirst K (He.ga K "Look") (.type "str"), decide (valsK K (He.ga K "LIMITS") = some (((kvI limits).map (·.2)).map some)), decide (valsK K (He.ga K "MIRRORED") = some (((kvS mirr).map (·.2)).map some)), decide (valsK K (He.ga K "TURNED") = some (((kvS turn).map (·.2)).map some)), decide (valsK K (He.ga K "STEPS") = some (([.ref (stepA K 0), .ref (stepA K 1), .ref (stepA K 2), .ref (stepA K 3)] : List V).map some)), decide (tupW K (stepA K 0) = some (([.int (-1), .int (0)] : List V).map some)), decide (tupW K (stepA K 1) = some (([.int (0), .int (-1)] : List V).map some)), decide (tupW K (stepA K 2) = some (([.int (1), .int (0)] : List V).map some)), decide (tupW K (stepA K 3) = some (([.int (0), .int (1)] : List V).map some)), decide (tupW K (He.ga K "LEAVES") = some (([.str "all", .str "none"] : List V).map some))]
abbrev R : PySem.W.OpenRow := PySem.W.OpenLaw.row PySem.Challenge.rw_everylemma_k09_looks_read
def stepK : List Str := ["r", "u", "r?", "u?"]
def ts : List He.Tab := [(fun K => He.ga K "LIMITS", limits.map (·.1)), (fun K => He.ga K "MIRRORED", mirr.map (·.1)), (fun K => He.ga K "TURNED", turn.map (·.1)), (fun K => He.ga K "STEPS", stepK)]
def tf : List He.Defn := [("law", none)]
def ex (K : PySem.W.Frag) : Bool := (exL K).all id
abbrev hk : PySem.W.Hook := He.hookX 6 fa fn ts tf ex
def ob (s : PySem.W.SharedT) : He.AlX := He.obsX 6 fa fn ts tf ex (HandSHeadRun.getT s)
theorem ob_eq (s : PySem.W.SharedT) : ob s = hk.obs s.abs := He.obsX_eq (HandSHeadRun.getT_eq s)
abbrev RunAt (w : World) : Prop := HandSHeadRun.RunEq R (PySem.W.view R.prog [56]) hk ob 8000 (names1 ++ names2) w
theorem run_f (w : World) : RunAt (w.withFollow "special-get-raises" false) := by
  intro os
  kernel_rfl
theorem run_t (w : World) : RunAt (w.withFollow "special-get-raises" true) := by
  intro os
  kernel_rfl
theorem run (w : World) : RunAt w := PySem.W.byRow2 "special-get-raises" (P := RunAt) run_f run_t w
end K9
set_option Elab.async false
set_option linter.all false
set_option maxRecDepth 100000
set_option maxHeartbeats 4000000
namespace K9
open PySem PySem.Spec PyProof.Rows L2
/-! ### steps through a reading -/
/-- H a = some o, where H is told by its stores -/
local macro_rules | `(tactic| walk_at "look") => `(tactic| first
  | assumption
  | exact upd_same
  | (refine Eq.trans (upd_ne ?_) ?_ <;> first
      | assumption
      | exact Ne.symm (by assumption)
      | exact ne_nw (by assumption) (by walk_at "look")
      | exact Ne.symm (ne_nw (by assumption) (by walk_at "look"))
      | walk_at "look"))
local macro_rules | `(tactic| walk_at "sq") => `(tactic| first
  | assumption
  | exact SqL.of (by walk_at "look")
  | exact SqT.of (by walk_at "look"))
local macro_rules | `(tactic| walk_at "c") => `(tactic| first
  | decide
  | omega
  | assumption
  | exact Or.inr ⟨by decide, by decide⟩
  | exact ⟨by decide, by decide⟩
  | exact Nat.le_of_ble_eq_true rfl
  | exact line1000 (by assumption)
  | (intro z; omega)
  | (dsimp only; first | assumption | omega)
  | (constructor <;> first | decide | omega))
local macro_rules | `(tactic| walk_at "fl") => `(tactic| first
  | assumption
  | rfl
  | exact flat_ints _
  | decide +kernel
  | (simp only [List.all_map, List.all_cons, List.all_nil]; rfl))
local macro_rules | `(tactic| walk_at "ty") => `(tactic| first
  | exact TyX.base (TyOf.str _)
  | exact TyX.base (TyOf.int _)
  | exact TyX.base (TyOf.bl _)
  | exact TyX.base TyOf.non
  | exact TyX.base (TyOf.tup (by walk_at "look"))
  | exact TyX.base (TyOf.lst (by walk_at "look"))
  | exact TyX.base (TyOf.dK (by walk_at "look")))
local macro_rules | `(tactic| walk_at "kit") => `(tactic| first
  | assumption
  | exact kit_str_bool
  | exact kit_str_int
  | exact kit_str_str
  | exact kit_str_dict
  | exact kit_str_list
  | exact kit_str_tuple
  | exact kit_int_bool
  | exact kit_int_int
  | exact kit_int_str
  | exact kit_int_dict
  | exact kit_int_list
  | exact kit_int_tuple
  | exact kit_bool_bool
  | exact kit_bool_int
  | exact kit_bool_str
  | exact kit_bool_dict
  | exact kit_bool_list
  | exact kit_bool_tuple
  | exact kit_list_bool
  | exact kit_list_int
  | exact kit_list_str
  | exact kit_list_dict
  | exact kit_list_list
  | exact kit_list_tuple
  | exact kit_tuple_bool
  | exact kit_tuple_int
  | exact kit_tuple_str
  | exact kit_tuple_dict
  | exact kit_tuple_list
  | exact kit_tuple_tuple
  | exact kit_dict_bool
  | exact kit_dict_int
  | exact kit_dict_str
  | exact kit_dict_dict
  | exact kit_dict_list
  | exact kit_dict_tuple
  | exact kit_NoneType_bool
  | exact kit_NoneType_int
  | exact kit_NoneType_str
  | exact kit_NoneType_dict
  | exact kit_NoneType_list
  | exact kit_NoneType_tuple)
local macro_rules | `(tactic| walk_at "g") => `(tactic| repeat (first
  | refine gc_i ?_
  | refine ⟨_, rfl, ?_⟩
  | refine ⟨rfl, ?_⟩
  | intro _ _
  | refine ⟨_, _, rfl, rfl, ?_⟩
  | refine ⟨_, _, _, _, rfl, rfl, by walk_at "sq", by first | rfl | assumption, ?_⟩
  | refine And.intro (by walk_at "c") ?_
  | refine iteTk (by decide +kernel) ?_
  | refine iteFk (by decide +kernel) ?_
  | refine iteT ?_
  | refine iteF ?_
  | refine ⟨_, _, _, _, rfl, rfl, by walk_at "look", by rfl, ?_⟩
  | refine Or.inl ⟨_, rfl, ?_⟩
  | refine ⟨_, _, rfl, Or.inl (by walk_at "sq"), ?_⟩
  | refine ⟨_, _, rfl, Or.inr (by walk_at "sq"), ?_⟩
  | refine ⟨_, _, rfl, by walk_at "sq", ?_⟩
  | refine ⟨_, _, rfl, Or.inr (by walk_at "sq"), by rfl, by rfl, ?_⟩
  | refine ⟨_, _, rfl, Or.inl (by walk_at "sq"), by rfl, by rfl, ?_⟩
  | refine ⟨_, _, rfl, by walk_at "look", by rfl, ?_⟩
  | refine ⟨_, _, _, _, _, rfl, by walk_at "look", by assumption, by assumption, by rfl, ?_⟩
  | refine ⟨_, _, _, _, _, rfl, ClsV.ty _, by walk_at "ty", by walk_at "kit", ?_⟩
  | refine rNe_nil (by walk_at "sq") (by walk_at "fl") (by walk_at "sq") ?_
  | refine rEq_nil (by walk_at "sq") (by walk_at "fl") (by walk_at "sq") ?_
  | refine rNe_flat (by walk_at "sq") (by walk_at "sq") (by walk_at "fl") (by walk_at "fl") ?_
  | refine rEq_flat (by walk_at "sq") (by walk_at "sq") (by walk_at "fl") (by walk_at "fl") ?_))
local macro_rules | `(tactic| walk_at "but") => `(tactic| first
  | assumption
  | exact But.refl _ _
  | (refine But.upd ?_; walk_at "but")
  | (refine But.new ?_ (by assumption); walk_at "but"))
local macro_rules | `(tactic| walk_at "same") => `(tactic| first
  | assumption
  | exact Same.refl _
  | (refine Same.new ?_ (by assumption); walk_at "same")
  | (refine Same.trans (by assumption) ?_; walk_at "same"))
local macro_rules | `(tactic| walk_at "x") => `(tactic| (dsimp only [Cx.nox, Cx.wish, cxOf, L2H.cxH]))
/-! ### the jar of draws -/
abbrev s_jar : Stmt := (top 41)
abbrev s_draw : Stmt := (top 42)
abbrev s_pick : Stmt := (top 43)
/-- the jar at j, its list at c -/
structure JarC (H : Hp) (j c : Addr) : Prop where
  ex : ∃ (ns : List Int) (i r n m : Int), H j = some (.lst [.ref c, .int i, .int r, .int n, .int m]) ∧ H c = some (.lst (ns.map V.int)) ∧ c ≠ j ∧ ns.length ≤ 63
theorem JarC.jar {H : Hp} {j c : Addr} (h : JarC H j c) : Jar H j := let ⟨ns, i, r, n, m, z⟩ := h.ex; ⟨c, ns, i, r, n, m, z⟩
theorem Jar.c {H : Hp} {j : Addr} (h : Jar H j) : ∃ c, JarC H j c := let ⟨c, ns, i, r, n, m, z⟩ := h.ex; ⟨c, ns, i, r, n, m, z⟩
theorem JarC.same {H H' : Hp} {j c : Addr} (a : JarC H j c) (s : Same H H') : JarC H' j c := by
  obtain ⟨ns, i, r, n, m, h1, h2, h3, h4⟩ := a.ex
  exact ⟨ns, i, r, n, m, s _ _ h1, s _ _ h2, h3, h4⟩
def spJar (K : PySem.W.Frag) : Sp := fun vs H Q _ => ∃ (a : Addr) (ns : List Int), vs = [.ref a] ∧ SqL K H a (ns.map V.int) ∧ ns.length ≤ 63 ∧ ∀ j H', Same H H' → H j = none → Jar H' j → Q (.ref j) H'
def spDraw : Sp := fun vs H Q _ => ∃ (j c : Addr) (m : Int), vs = [.ref j, .int m] ∧ JarC H j c ∧ 0 < m ∧ m < 1000000 ∧ ∀ d H', 0 ≤ d → d < m → But j H H' → JarC H' j c → Q (.int d) H'
def spPick (K : PySem.W.Frag) : Sp := fun vs H Q _ => ∃ (j c p : Addr) (xs : List V), vs = [.ref j, .ref p] ∧ JarC H j c ∧ H p = some (.lst xs) ∧ p ≠ j ∧ 0 < xs.length ∧ xs.length < 1000 ∧ ∀ (i : Nat) (x : V) H', xs[i]? = some x → But j H H' → JarC H' j c → Q x H'
theorem scJar : FnScope ["script"] ["script"] (defScope (top 41)) := ⟨rfl, rfl, rfl, by decide +kernel, rfl, by decide +kernel, by decide +kernel⟩
theorem scDraw : FnScope ["jar", "many", "cell", "digit"] ["jar", "many"] (defScope (top 42)) := ⟨rfl, rfl, rfl, by decide +kernel, rfl, by decide +kernel, by decide +kernel⟩
theorem scPick : FnScope ["jar", "menu"] ["jar", "menu"] (defScope (top 43)) := ⟨rfl, rfl, rfl, by decide +kernel, rfl, by decide +kernel, by decide +kernel⟩
theorem cut63 (ns : List Int) : some (HO.lst (cutV (ns.map V.int) none (some 63))) = some (HO.lst ((ns.take 63).map V.int)) := by
  congr 2
  unfold cutV
  rw [show (some 63 : Option Int) = some ((63 : Nat) : Int) from rfl, HT.sIx_nat, HT.sIx_none, List.length_map, List.drop_zero, ← List.map_take, Nat.sub_zero]
  congr 1
  by_cases h : ns.length ≤ 63
  · rw [List.take_of_length_le (by omega), List.take_of_length_le h]
  · rw [Nat.min_eq_left (by omega)]
theorem at_mod {ns : List Int} (i : Int) (h : ((ns.map V.int).length : Int) ≠ 0) : ∃ z, atI (ns.map V.int) (i.fmod ((ns.map V.int).length : Int)) = some (V.int z) := by
  have h1 : 0 < ((ns.map V.int).length : Int) := by omega
  have h2 := Int.fmod_nonneg_of_pos i h1
  have h3 := Int.fmod_lt_of_pos i h1
  obtain ⟨n, hn⟩ : ∃ n : Nat, i.fmod ((ns.map V.int).length : Int) = (n : Int) := ⟨(i.fmod ((ns.map V.int).length : Int)).toNat, by omega⟩
  rw [hn]
  have hl : n < ns.length := by
    rw [List.length_map] at h3
    rw [List.length_map] at hn
    omega
  exact ⟨ns[n], atI_nat (by rw [List.getElem?_map, List.getElem?_eq_getElem hl]; rfl)⟩
section
variable {P : Program} {w : World} {K : PySem.W.Frag} {mg : Str → Option Value} {base : Heap} {f : Addr} {fd : FuncData}
theorem ok_jar (Z : Free mg) (F : FnP K "_law_jar" "_law_jar" s_jar [] f fd) : FnOk P w K mg base CX0 1 f fd ["script"] (spJar K) := by
  refine F.ok scJar (fun vs H Q E h => ?_) (fun cdv A outer s H vs Q E hr h => ?_)
  · obtain ⟨a, ns, rfl, _⟩ := h
    rfl
  · obtain ⟨a, ns, rfl, hS, hl, k⟩ := h
    refine ⟨_, PSs.nox (pss_one (ps_ret (pe_lst (pa_cons (pe_callTy call_list_of (by rfl) Z.list (by decide +kernel) (pa_cons (pe_slice sl_list (pv 0) po_none (po_some pe_int)) pa_nil)) (pa_cons pe_int (pa_cons pe_int (pa_cons pe_int (pa_cons pe_int pa_nil)))))))), ?_⟩
    walk_at "g"
    rename_i p1 n1 p2 n2 p3 n3
    refine k p3 _ (by walk_at "same") (old_none (H' := upd (upd H p1 _) p2 _) (by walk_at "same") n3) ⟨p2, ns.take 63, _, _, _, _, by walk_at "look", ?_, ne_nw n3 (by walk_at "look"), by rw [List.length_take]; omega⟩
    rw [upd_ne (ne_nw n3 (by walk_at "look")), upd_same, cut63]
theorem ok_draw (Z : Free mg) (F : FnP K "_law_draw" "_law_draw" s_draw [] f fd) : FnOk P w K mg base CX0 1 f fd ["jar", "many"] spDraw := by
  refine F.ok scDraw (fun vs H Q E h => ?_) (fun cdv A outer s H vs Q E hr h => ?_)
  · obtain ⟨a, c, ns, rfl, _⟩ := h
    rfl
  · obtain ⟨j, c, m, rfl, hJ, h0, hm, k⟩ := h
    have hu := hu_of hr
    have hu64 : (A.deeper (envOfC "_law_draw" (defScope s_draw) s.heap.objs.size f cdv)).units + 64 < cLine := hr.units
    refine ⟨_, PSs.nox (pss_cons (ps_asg (pe_op op_add (pe_ix ix_list (pv 0) pe_int (fun _ _ => rfl)) pe_int) (pg_sub (pv 0) pe_int set_list))
      (pss_cons (ps_set (i := 2) scDraw.nd rfl (Or.inl rfl) (pe_ix ix_list (pv 0) pe_int (fun _ _ => rfl)))
      (C8.pss_cut (ps_if (PW.pt (pw_and (pt_cmpR op_eq (pe_ix ix_list (pv 0) pe_int (fun _ _ => rfl)) pe_int (nomark _)) (pw_and1 (pt_cmpR (op_neD hu64) (pe_ix ix_list (pv 0) pe_int (fun _ _ => rfl)) (pe_lst pa_nil) (nomark _))))) 
        (pss_cons (ps_set (i := 2) scDraw.nd rfl (Or.inl rfl) (pe_ix ix_list (pe_ix ix_list (pv 0) pe_int (fun _ _ => rfl)) (pe_op op_modN (pe_callTy call_int1 (by rfl) Z.int (by decide +kernel) (pa_cons (pe_ix ix_list (pv 0) pe_int (fun _ _ => rfl)) pa_nil)) (pe_callB call_len_seq (by rfl) Z.len PySem.boot_len (pa_cons (pe_ix ix_list (pv 0) pe_int (fun _ _ => rfl)) pa_nil))) (fun _ _ => rfl)))
        (pss_cons (ps_if (PW.pt (pw_and (pt_cmpR op_lt (pe_ix ix_list (pv 0) pe_int (fun _ _ => rfl)) (pe_callB call_len_seq (by rfl) Z.len PySem.boot_len (pa_cons (pe_ix ix_list (pv 0) pe_int (fun _ _ => rfl)) pa_nil)) (nomark _)) (pw_and1 (pt_cmpR op_ge (pv 2) (pe_op op_pow pe_int pe_int) (nomark _))))) 
          (pss_one (ps_asg (pv 2) (pg_sub (pv 0) pe_int set_list))) pss_nil)
        (pss_one (ps_asg (pe_op op_add (pe_ix ix_list (pv 0) pe_int (fun _ _ => rfl)) pe_int) (pg_sub (pv 0) pe_int set_list))))) pss_nil)
      (pss_cons (ps_if (pt_cmpR op_gt (pe_ix ix_list (pv 0) pe_int (fun _ _ => rfl)) pe_int (nomark _)) 
        (pss_cons (ps_set (i := 3) scDraw.nd rfl (Or.inl rfl) (pe_op op_modN (pe_callTy call_int1 (by rfl) Z.int (by decide +kernel) (pa_cons (pe_ix ix_list (pv 0) pe_int (fun _ _ => rfl)) pa_nil)) (pv 1)))
        (pss_cons (ps_asg (pe_op op_fdivN (pe_ix ix_list (pv 0) pe_int (fun _ _ => rfl)) (pv 1)) (pg_sub (pv 0) pe_int set_list))
        (pss_one (ps_ret (pv 3))))) pss_nil)
      (pss_cons (ps_asg (pe_op op_modN (pe_callTy call_int1 (by rfl) Z.int (by decide +kernel) (pa_cons (pe_op op_add (pe_op op_add (pe_op op_mul (pe_ix ix_list (pv 0) pe_int (fun _ _ => rfl)) pe_int) (pe_op op_mul (pe_op op_modN (pe_callTy call_int1 (by rfl) Z.int (by decide +kernel) (pa_cons (pv 2) pa_nil)) pe_int) pe_int)) (pe_op op_mul (pe_ix ix_list (pv 0) pe_int (fun _ _ => rfl)) pe_int)) pa_nil)) pe_int) (pg_sub (pv 0) pe_int set_list))
      (pss_one (ps_ret (pe_op op_modN (pe_op op_fdivN (pe_op op_modN (pe_callTy call_int1 (by rfl) Z.int (by decide +kernel) (pa_cons (pe_op op_add (pe_op op_mul (pe_ix ix_list (pv 0) pe_int (fun _ _ => rfl)) pe_int) (pe_op op_mul (pe_ix ix_list (pv 0) pe_int (fun _ _ => rfl)) pe_int)) pa_nil)) pe_int) pe_int) (pv 1))))))))), ?_⟩
    obtain ⟨ns, i, r, n, mm, h1, h2, ne, hl⟩ := hJ.ex
    walk_at "g"
    refine ⟨fun σ' H' => ∃ z i' r' n' m', σ' = [some (.ref j), some (.int m), some (.int z), none] ∧ But j H H' ∧ H' j = some (.lst [.ref c, .int i', .int r', .int n', .int m']) ∧ H' c = some (.lst (ns.map V.int)), ?_, ?_⟩
    · walk_at "g"
      refine iteB (fun hr0 => ?_) (fun hr0 => ?_)
      · walk_at "g"
        refine iteB (fun hn => ?_) (fun hn => ?_)
        · have hlen : ((ns.map V.int).length : Int) ≠ 0 := by
            cases ns with
            | nil => cases hn
            | cons a b =>
              rw [List.length_map, List.length_cons]
              omega
          obtain ⟨z, hz⟩ := at_mod (ns := ns) i hlen
          walk_at "g"
          refine iteB (fun hc => ?_) (fun hc => ?_)
          · walk_at "g"
            refine iteB (fun hb => ?_) (fun hb => ?_)
            all_goals
              walk_at "g"
              exact ⟨z, _, _, _, _, rfl, by walk_at "but", by walk_at "look", by walk_at "look"⟩
          · walk_at "g"
            exact ⟨z, _, _, _, _, rfl, by walk_at "but", by walk_at "look", by walk_at "look"⟩
        · exact ⟨_, _, _, _, _, rfl, by walk_at "but", by walk_at "look", by walk_at "look"⟩
      · exact ⟨_, _, _, _, _, rfl, by walk_at "but", by walk_at "look", by walk_at "look"⟩
    · rintro σ' H' ⟨z, i', r', n', m', rfl, hB, h1', h2'⟩
      walk_at "g"
      refine iteB (fun hp => ?_) (fun hp => ?_)
      all_goals
        walk_at "g"
        exact k _ _ (Int.fmod_nonneg_of_pos _ h0) (Int.fmod_lt_of_pos _ h0) (by walk_at "but") ⟨ns, _, _, _, _, by walk_at "look", by walk_at "look", ne, hl⟩
theorem ok_pick (Z : Free mg) (F : FnP K "_law_pick" "_law_pick" s_pick [] f fd) {fd1 : FuncData} {f1 : Addr} (Cd : Cal P w K mg base CX0 1 "_law_draw" ["jar", "many"] spDraw f1 fd1) : FnOk P w K mg base CX0 2 f fd ["jar", "menu"] (spPick K) := by
  refine F.ok scPick (fun vs H Q E h => ?_) (fun cdv A outer s H vs Q E hr h => ?_)
  · obtain ⟨a, c, ns, xs, rfl, _⟩ := h
    rfl
  · obtain ⟨j, c, p, xs, rfl, hJ, hp, ne, h0, hm, k⟩ := h
    refine ⟨_, PSs.nox (pss_one (ps_ret (pe_ix ix_list (pv 1) (pe_call Cd.ok (hr.mono (by omega)) rfl Cd.mg Cd.kp Cd.b .nil pass0 (pa_cons (pv 0) (pa_cons (pe_callB call_len_seq (by rfl) Z.len PySem.boot_len (pa_cons (pv 1) pa_nil)) pa_nil))) (fun _ _ => rfl)))), ?_⟩
    walk_at "g"
    refine ⟨j, c, _, rfl, hJ, by omega, by omega, fun d H1 hd0 hd1 hB hJ1 => ?_⟩
    obtain ⟨n, rfl⟩ : ∃ n : Nat, d = (n : Int) := ⟨d.toNat, by omega⟩
    have hn : n < xs.length := by omega
    exact ⟨p, xs, _, xs[n], rfl, rfl, SqL.of (hB _ _ hp ne), atI_nat (List.getElem?_eq_getElem hn), k n _ H1 (List.getElem?_eq_getElem hn) hB hJ1⟩
end
end K9
set_option Elab.async false
set_option linter.all false
set_option maxRecDepth 100000
set_option maxHeartbeats 4000000
/-! While an exception is handled: the ends of walks over lists and tuples, unpacking, a comprehension. -/
namespace K9
open PySem PySem.Spec PyProof.Rows L2 HotX
section
variable {prog : Program} {w : World} {A : Around} {E : Value → Shared → Prop} {s : Shared}
/-- the machine's own StopIteration, raised where x1 is handled: two objects more, the second with its context told -/
theorem stop_hot {α : Type} {x1 : Addr} {Q : α → Shared → Prop} (hot : HotAt A x1 s.heap)
    (hE : ∀ (h' : Heap) (e : Addr), (∀ b o, s.heap.get? b = some o → h'.get? b = some o) → Shared.TypeIs { s with heap := h' } (.ref e) "StopIteration" → E (.ref e) { s with heap := h' }) :
    wpAny (model prog w) A (newExc (.type "StopIteration") [] >>= fun e => (raiseNew e : Sem α)) Q E s := by
  obtain ⟨hh, o1, vs1, h1, d1, c1⟩ := hot
  simp only [newExc, newTuple]
  refine wpAny_bind (wpAny_bind (wpAny_newObj_type ?_ (by size_fits)))
  refine wpAny_bind (m := firstArgMember _ _) (wpAny_of_eq (a := Value.none) (by first | rfl | (simp only [firstArgMember]; rfl)) ?_)
  refine wpAny_newObj_type ?_ (by size_fits)
  have k2 := fun (b : Addr) (o : Obj) (e : s.heap.get? b = some o) => Heap.get?_push_of_some { cls := .type "tuple", data := .seq #[] } e
  refine raiseNew_hot ⟨hh, o1, vs1, Heap.get?_push_of_some _ (k2 _ _ h1), d1, c1⟩ (Nat.ne_of_lt (Heap.lt_size (Heap.get?_push_of_some _ h1))) (Heap.get?_push_size _ rfl) rfl (by first | (simp; done) | (simp; omega)) ?_
  refine hE _ _ (fun b o e => ?_) ⟨_, Heap.get?_update_self _ (Heap.get?_push_size _ rfl) rfl, rfl⟩
  refine (Heap.get?_update_other _ _ ?_).trans (Heap.get?_push_of_some _ (Heap.get?_push_of_some _ e))
  exact Nat.ne_of_gt (Heap.lt_size (Heap.get?_push_of_some _ e))
theorem list_end_hot {it l x1 : Addr} {i : Nat} {items : Array Value} {Q : Option Value → Shared → Prop} (hot : HotAt A x1 s.heap) (ne : x1 ≠ it)
    (hit : s.heap.IsListIter it l i) (hl : s.heap.IsList l items) (hx : items[i]? = none) (hQ : ∀ h', Heap.ExtBut it s.heap h' → Q none { s with heap := h' }) :
    wpAny (model prog w) A (pyNext (.ref it)) Q E s := by
  obtain ⟨oi, hoi, ci, di⟩ := id hit
  obtain ⟨ol, hol, _, nl, dl⟩ := hl
  obtain ⟨hh, o1, vs1, h1, d1, c1⟩ := hot
  unfold pyNext
  refine wpAny_bind (wpAny_attempt (wpAny_callSpecial?_slot (name := Str.ofString "__next__") hit.typeIs slot_listiter_next (wpAny_call_entry slot_listiter_next hit.typeIs entry_listiter_next ?_ (args_listiter_next _))))
  show wpAny _ _ (field (.ref it) 0 >>= _) _ _ s
  refine wpAny_bind (wpAny_field hoi di (x := .ref l) rfl ?_)
  show wpAny _ _ (if (Value.ref l == Value.none) = true then _ else _) _ _ s
  rw [if_neg (by exact Bool.false_ne_true)]
  show wpAny _ _ (field (.ref it) 1 >>= _) _ _ s
  refine wpAny_bind (wpAny_field hoi di (x := .int i 0) rfl ?_)
  show wpAny _ _ (seqItems? (.ref l) >>= _) _ _ s
  refine wpAny_bind (wpAny_seqItems hol dl ?_)
  simp only [Int.toNat_natCast, hx]
  refine wpAny_bind (wpAny_rule (wpAny_bind (wpAny_setField hoi di (by simp) ?_)))
  refine stop_hot (x1 := x1) ⟨hh, o1, vs1, (Heap.get?_update_other _ _ (Ne.symm ne)).trans h1, d1, c1⟩ fun h' e k ty => ?_
  refine wpAny_bind (wpAny_isInstance (b := true) ty isSubtype_stop (wpAny_pure (hQ h' fun b o hb z => k b o ?_)))
  exact (Heap.get?_update_other _ _ (Ne.symm hb)).trans z
theorem tuple_end_hot {it t x1 : Addr} {i : Nat} {items : Array Value} {Q : Option Value → Shared → Prop} (hot : HotAt A x1 s.heap) (ne : x1 ≠ it)
    (hit : IsTupIter s.heap it t i) (ht : IsTup s.heap t items) (hx : items[i]? = none) (hQ : ∀ h', Heap.ExtBut it s.heap h' → Q none { s with heap := h' }) :
    wpAny (model prog w) A (pyNext (.ref it)) Q E s := by
  obtain ⟨oi, hoi, ci, di⟩ := id hit
  obtain ⟨ol, hol, _, nl, dl⟩ := ht
  obtain ⟨hh, o1, vs1, h1, d1, c1⟩ := hot
  unfold pyNext
  refine wpAny_bind (wpAny_attempt (wpAny_callSpecial?_slot (name := Str.ofString "__next__") hit.typeIs slot_tupleiter_next (wpAny_call_entry slot_tupleiter_next hit.typeIs entry_tupleiter_next ?_ (args_tupleiter_next _))))
  show wpAny _ _ (field (.ref it) 0 >>= _) _ _ s
  refine wpAny_bind (wpAny_field hoi di (x := .ref t) rfl ?_)
  show wpAny _ _ (if (Value.ref t == Value.none) = true then _ else _) _ _ s
  rw [if_neg (by exact Bool.false_ne_true)]
  show wpAny _ _ (field (.ref it) 1 >>= _) _ _ s
  refine wpAny_bind (wpAny_field hoi di (x := .int i 0) rfl ?_)
  show wpAny _ _ (seqItems? (.ref t) >>= _) _ _ s
  refine wpAny_bind (wpAny_seqItems hol dl ?_)
  simp only [Int.toNat_natCast, hx]
  refine wpAny_bind (wpAny_rule (wpAny_bind (wpAny_setField hoi di (by simp) ?_)))
  refine stop_hot (x1 := x1) ⟨hh, o1, vs1, (Heap.get?_update_other _ _ (Ne.symm ne)).trans h1, d1, c1⟩ fun h' e k ty => ?_
  refine wpAny_bind (wpAny_isInstance (b := true) ty isSubtype_stop (wpAny_pure (hQ h' fun b o hb z => k b o ?_)))
  exact (Heap.get?_update_other _ _ (Ne.symm hb)).trans z
/-- a, b, .. = t, a tuple, while an exception is handled -/
theorem unpack_hot {x1 t : Addr} {env : Env} {elts : List Expr} {k1} {pos : Pos} {items : Array Value} {Q : Unit → Shared → Prop} (hot : HotAt A x1 s.heap) (ht : IsTup s.heap t items)
    (hn : (assignEach elts env).length = items.size) (hstar : (assignEach elts env).findIdx? (·.1) = none)
    (h : ∀ h', (∀ b o, s.heap.get? b = some o → h'.get? b = some o) → wpAny (model prog w) A (assignInOrder ((assignEach elts env).map (·.2)) items.toList) Q E { s with heap := h' }) :
    wpAny (model prog w) A (assign (.Tuple elts k1 pos) env (.ref t)) Q E s := by
  have hlt : t ≠ s.heap.objs.size := by
    obtain ⟨o, ho, _⟩ := ht
    exact Nat.ne_of_lt (Heap.lt_size ho)
  obtain ⟨hh, o1, vs1, h1, d1, c1⟩ := hot
  rw [assign_Tuple]
  refine wpAny_bind (wpAny_standAt ?_)
  unfold unpack
  rw [hn, hstar]
  refine wpAny_bind (wpAny_holding ?_)
  unfold unpackItems notIterableAtAll
  refine wpAny_bind (wpAny_bind (wpAny_specialOf ht.typeIs slot_tuple_iter.lookup (wpAny_pure ?_)))
  simp only [Bool.false_eq_true, if_false]
  refine wpAny_bind (wpAny_holding (iter_tuple ht ?_))
  refine wpAny_bind (wpAny_holding (draw_tuple hlt items.size 0 _ _ ⟨_, Heap.get?_push_size _ rfl, rfl, rfl⟩ (ht.push _) (by omega) fun ha hit hs => ?_))
  have hall : (items.toList.drop 0).take items.size = items.toList := List.take_of_length_le (by simp)
  rw [hall, if_neg (by simp)]
  have n1 : x1 ≠ s.heap.objs.size := Nat.ne_of_lt (Heap.lt_size h1)
  have kp : ∀ b o, b ≠ s.heap.objs.size → s.heap.get? b = some o → ha.get? b = some o := fun b o hb e => hs.extBut b o hb (Heap.get?_push_of_some _ e)
  refine wpAny_bind (wpAny_holding (tuple_end_hot (x1 := x1) ⟨hh, o1, vs1, kp _ _ n1 h1, d1, c1⟩ n1 hit ((ht.push _).extBut hs.extBut hlt) (by simp) fun hb he => ?_))
  simp only [Option.isSome_none, Bool.false_eq_true, if_false]
  exact wpAny_pure (h hb fun b o e => he b o (Nat.ne_of_lt (Heap.lt_size e)) (kp b o (Nat.ne_of_lt (Heap.lt_size e)) e))
end
/-! ### the context's handled exception -/
/-- at every state of X the handled exception stands, its context None, and is none of the tracked things -/
def HotS (X : Cx) : Prop := ∃ x1, X.A.handled = some (.ref x1) ∧ ∀ (pins : List (Addr × Obj)) (σ : L2.St) (H : Hp) (s : Shared), L2.Inv X pins σ H s → HotAt X.A x1 s.heap
theorem hotS_of {X : Cx} (c : L2H.HotC X) : HotS X := by
  obtain ⟨p, ⟨hh, v1, e1, c1⟩, hp⟩ := c
  exact ⟨p.1, hh, fun pins σ H s I => ⟨hh, p.2, v1, (I.pin p (List.mem_append_left _ hp)).1, e1, c1⟩⟩
theorem pg_tupH {X : Cx} {es : List Expr} {k : Nat} {t : TGs} {n : Nat} {pos : Pos} (hc : HotS X) (h : PGs X es t) (hn : (assignEach es X.env).length = n := by rfl)
    (hst : (assignEach es X.env).findIdx? (·.1) = none := by rfl) : PG X (.Tuple es k pos) (gTup X.K n t) := by
  refine ⟨fun pins s σ H v u Q I r hw => ?_⟩
  obtain ⟨a, xs, rfl, hq, hl, hw⟩ := hw
  obtain rfl : u = Value.ref a := r
  obtain ⟨x1, _, at1⟩ := hc
  obtain ⟨its, rv, ht, hz⟩ := I.tuple hq
  refine unpack_hot (at1 _ _ _ _ I) ht (by simp [hn, ← hl, rv.length]) hst fun h' kp => ?_
  exact h.run pins _ σ H xs _ Q (I.kept (t' := s.toks) kp) (by simpa using rv) hw
/-! ### [elt for tg in l if ..], l a list, while an exception is handled -/
def tLcH (K : PySem.W.Frag) (tl : TE) (g : TG) (tt : TT) (te : TE) (vs : List Nat) : TE := fun σ H Q => tl σ H fun x H1 => ∃ (a : Addr) (xs : List V), x = .ref a ∧ SqL K H1 a xs ∧
  ∀ D, H1 D = none → ∃ Pv : Nat → Hp → Prop, Pv 0 (upd H1 D (.lst [])) ∧ (∀ i H, i ≤ xs.length → Pv i H → SqL K H a xs) ∧
    (∀ i y H, xs[i]? = some y → Pv i H → g y (wipe σ vs) H fun σ2 H2 => wipe σ2 vs = wipe σ vs ∧ tt σ2 H2 fun b H3 =>
      if b = true then te σ2 H3 fun z H4 => ∃ acc, H4 D = some (.lst acc) ∧ acc.length < sizeLine ∧ Pv (i + 1) (upd H4 D (.lst (acc ++ [z]))) else Pv (i + 1) H3) ∧
    ∀ H, Pv xs.length H → Q (.ref D) H
section
variable {X : Cx}
theorem hot_at_block {pins : List (Addr × Obj)} {σ : L2.St} {H : Hp} {s : Shared} {scope : Scope} {env : Env} {it : Addr} {p : Addr × Obj} (hot : L2H.Hot1 X.A p) (hp : p ∈ X.pn) (I : L2.Inv X pins σ H s) (hit : p.1 ≠ it) :
    ∀ (pins' : List (Addr × Obj)) (σ' : L2.St) (H' : Hp) (s' : Shared), L2.Inv (X.blk s H scope env [it]) pins' σ' H' s' → HotAt X.A p.1 s'.heap := by
  obtain ⟨hh, v1, e1, c1⟩ := hot
  obtain ⟨g1, g2, g3, g4, _⟩ := I.pin p (List.mem_append_left _ hp)
  refine fun pins' σ' H' s' J => ⟨hh, p.2, v1, J.base.keep p.1 p.2 g1 g2 (fun z => ?_) (fun z => hit (List.mem_singleton.mp z)), e1, c1⟩
  exact (List.mem_cons.mp (I.stkSub p.1 z)).elim g3 g4
theorem hot_block {pins : List (Addr × Obj)} {σ : L2.St} {H : Hp} {s : Shared} {scope : Scope} {env : Env} {it : Addr} (hc : L2H.HotC X) (I : L2.Inv X pins σ H s) (hit : ∀ p ∈ X.pn, p.1 ≠ it) : HotS (X.blk s H scope env [it]) := by
  obtain ⟨p, hot, hp⟩ := hc
  exact ⟨p.1, hot.1, hot_at_block hot hp I (hit p hp)⟩
theorem pe_lcH {elt tg l : Expr} {ifs : List Expr} {scope : Scope} {own : List (Str × Nat)} {pos : Pos} {tl : TE} {g : TG} {tt : TT} {te : TE} (hc : L2H.HotC X) (hN : X.N.Nodup) (hl : PE X l tl) (ok : BlkOk X.N X.env.scope scope own)
    (hg : ∀ (s : Shared) (H : Hp) (C : Addr) (cl : List (Str × Addr)) (fp : List Addr), HotS (X.blk s H scope (compEnvC scope cl C X.env) fp) → PG (X.blk s H scope (compEnvC scope cl C X.env) fp) tg g)
    (ht : ∀ (s : Shared) (H : Hp) (C : Addr) (cl : List (Str × Addr)) (fp : List Addr), HotS (X.blk s H scope (compEnvC scope cl C X.env) fp) → PTs (X.blk s H scope (compEnvC scope cl C X.env) fp) ifs tt)
    (he : ∀ (s : Shared) (H : Hp) (C : Addr) (cl : List (Str × Addr)) (fp : List Addr), HotS (X.blk s H scope (compEnvC scope cl C X.env) fp) → PE (X.blk s H scope (compEnvC scope cl C X.env) fp) elt te)
    (hs : ∀ x, foldedSetIterable l X.env x = pure x := by intro _; rfl) : PE X (.ListComp elt [⟨tg, l, ifs, 0⟩] scope pos) (tLcH X.K tl g tt te (own.map (·.2))) := by
  refine ⟨fun pins s σ H Q I h => ?_⟩
  rw [eval_ListComp]
  have hfree : ∀ y ∈ scope.names, y.2 = .free → ∃ c, X.env.cells.lookup y.1 = some c := fun y hy e => (ok.free y hy e).elim (fun k => I.ok.has _ (.inl k)) fun k => I.ok.has _ (.inr k)
  refine wpAny_comprehension_free (use := none) rfl hs (closure_ok hfree) ok.kind (fun y hy e => (ok.uniq y hy).trans (by rw [e])) (thn (hl.run pins s σ H _ I h) fun v s1 hv => ?_)
  obtain ⟨x, H1, I1, r1, a, xs, rfl, hq, rest⟩ := hv
  obtain rfl : v = Value.ref a := r1
  obtain ⟨its0, rv0, pl0, _⟩ := I1.list hq
  refine wpAny_pyIter_list pl0.isList (wpAny_newObj_type (newEnv_comp ?_) (by exact Nat.zero_le _))
  -- the walk's object, the new list
  generalize hS2 : ({ s1 with heap := s1.heap.push { cls := .type "list_iterator", data := .fields #[.ref a, .int 0 0] } } : Shared) = s2
  have z2 : s2.heap.objs.size = s1.heap.objs.size + 1 := by rw [← hS2]; exact Heap.size_push ..
  have I2 : L2.Inv X pins σ H1 s2 := by rw [← hS2]; exact I1.kept (t' := s1.toks) fun b o e => Heap.get?_push_of_some _ e
  have it2 : s2.heap.IsListIter s1.heap.objs.size a 0 := by rw [← hS2]; exact ⟨_, Heap.get?_push_size _ rfl, rfl, rfl⟩
  have fp2 : FpOk X pins H1 s1.heap.objs.size := I1.fpOk (Nat.le_refl _) (I1.hok.fresh (Nat.le_refl _))
  have hDn : H1 s2.heap.objs.size = none := I2.hok.fresh (Nat.le_refl _)
  obtain ⟨Pv, p0, pl, pstep, pdone⟩ := rest s2.heap.objs.size hDn
  generalize hS3 : ({ s2 with heap := s2.heap.push { cls := .type "list", data := .seq #[] } } : Shared) = s3
  have I3 : L2.Inv X pins σ (upd H1 s2.heap.objs.size (.lst [])) s3 := by
    rw [← hS3]
    exact I2.laid (t' := s2.toks) (fun b o e => Heap.get?_push_of_some _ e) (Nat.le_refl _) ⟨Nat.zero_le _, [], 0, .nil, Heap.get?_push_size _ rfl⟩
  have it3 : s3.heap.IsListIter s1.heap.objs.size a 0 := it2.at fun o e => by rw [← hS3]; exact Heap.get?_push_of_some _ e
  have fp3 : FpOk X pins (upd H1 s2.heap.objs.size (.lst [])) s1.heap.objs.size := ⟨(upd_ne (by rw [z2]; exact Nat.ne_of_lt (Nat.lt_succ_self _))).trans fp2.1, fp2.2⟩
  have lt3 : s1.heap.objs.size < s3.heap.objs.size := by
    have e : s3.heap.objs.size = s2.heap.objs.size + 1 := by rw [← hS3]; exact Heap.size_push ..
    omega
  generalize hIt : s1.heap.objs.size = it at it3 fp3 lt3
  generalize hD : s2.heap.objs.size = D at p0 pstep pdone I3 fp3
  generalize hH3 : upd H1 D (.lst []) = H3 at p0 I3 fp3
  have I4 := block_start (fp := [it]) I3 ok hN fun b hb => by
    rw [List.mem_singleton.mp hb]
    exact ⟨fp3, lt3⟩
  have hot := fun env => hot_block (scope := scope) (env := env) (it := it) hc I3 fun p hp => fp3.2.2.2.2.2 p (List.mem_append_left _ hp)
  have PG0 := hg s3 H3 s3.heap.objs.size (cellsFrom (s3.heap.objs.size + 1) scope.names (cloFrom X.env.cells scope.names [])) [it] (hot _)
  have PT0 := ht s3 H3 s3.heap.objs.size (cellsFrom (s3.heap.objs.size + 1) scope.names (cloFrom X.env.cells scope.names [])) [it] (hot _)
  have PE0 := he s3 H3 s3.heap.objs.size (cellsFrom (s3.heap.objs.size + 1) scope.names (cloFrom X.env.cells scope.names [])) [it] (hot _)
  obtain ⟨ph, hotp, hph⟩ := id hc
  have ne1 : ph.1 ≠ it := fp3.2.2.2.2.2 ph (List.mem_append_left _ hph)
  have at1 := hot_at_block (scope := scope) (env := compEnvC scope (cellsFrom (s3.heap.objs.size + 1) scope.names (cloFrom X.env.cells scope.names [])) s3.heap.objs.size X.env) hotp hph I3 ne1
  show codeAny _ _ (.compStart _ 0 (.ref it) (.ref D) (compEnvC scope (cellsFrom (s3.heap.objs.size + 1) scope.names (cloFrom X.env.cells scope.names [])) s3.heap.objs.size X.env)) (compPost (model X.prog X.w) X.A X.xe none _ (.ref D) s3.heap.objs.size) { s3 with heap := pushCells (s3.heap.push { cls := .type "dict", data := .dict #[] }) scope.names }
  generalize hce : compEnvC scope (cellsFrom (s3.heap.objs.size + 1) scope.names (cloFrom X.env.cells scope.names [])) s3.heap.objs.size X.env = ce at I4 PG0 PT0 PE0 at1 ⊢
  have cL : ce.locals = s3.heap.objs.size := by rw [← hce]; rfl
  have it4 : (pushCells (s3.heap.push { cls := .type "dict", data := .dict #[] }) scope.names).IsListIter it a 0 := it3.at fun o e => pushCells_keeps _ _ _ _ (Heap.get?_push_of_some _ e)
  generalize hs4 : ({ s3 with heap := pushCells (s3.heap.push { cls := .type "dict", data := .dict #[] }) scope.names } : Shared) = s4 at I4 ⊢
  have it4 : s4.heap.IsListIter it a 0 := by rw [← hs4]; exact it4
  -- between two turns
  have stat : ∀ {σ' : L2.St} {H' : Hp} {s' : Shared}, L2.Inv (X.blk s3 H3 scope ce [it]) [] σ' H' s' → H' it = none → FpOk (X.blk s3 H3 scope ce [it]) [] H' it := fun {σ' H' s'} J n =>
    ⟨n, (J.ok.exf it (List.mem_singleton.mpr rfl)).1, J.ok.exfs it (List.mem_singleton.mpr rfl), .inl (List.mem_singleton.mpr rfl), fun x c e => (J.ok.exf it (List.mem_singleton.mpr rfl)).2 x c e, fun p hp => absurd (show p ∈ ([] : List (Addr × Obj)) ++ [] from hp) (by simp)⟩
  have loop : codeAny (model X.prog X.w) X.A (.compLoop (.ListComp elt [⟨tg, l, ifs, 0⟩] scope pos) 0 (.ref it) (.ref D) ce) (compPost (model X.prog X.w) X.A X.xe none (fun u s' => EP X pins σ Q u s') (.ref D) s3.heap.objs.size) s4 := by
    refine compLoop_any (fun m s' => ∃ i H', m = xs.length - i ∧ i ≤ xs.length ∧ L2.Inv (X.blk s3 H3 scope ce [it]) [] (wipe σ (own.map (·.2))) H' s' ∧ s'.heap.IsListIter it a i ∧ H' it = none ∧ Pv i H') ?_ xs.length ⟨0, H3, rfl, Nat.zero_le _, I4, it4, fp3.1, p0⟩
    rintro m s5 ⟨i, H5, rfl, hi, I5, it5, n5, p5⟩
    have q5 := pl i H5 hi p5
    obtain ⟨its, rv, pl5, hz⟩ := I5.list q5
    have F5 := stat I5 n5
    by_cases hlt : i < xs.length
    · -- a turn
      obtain ⟨u, hu, ru⟩ := rv.get (List.getElem?_eq_getElem hlt)
      refine wpAny_pyNext_list_item it5 pl5.isList (x := u) (by simpa using hu) fun h6 it6 sb6 => ?_
      have I6 : L2.Inv (X.blk s3 H3 scope ce [it]) [] (wipe σ (own.map (·.2))) H5 { s5 with heap := h6 } := I5.turned (t' := s5.toks) (fun b o hb e => (sb6.2 b hb).trans e) F5.1 F5.2.1 F5.2.2.2.1 F5.2.2.2.2.1 F5.2.2.2.2.2
      obtain ⟨o6, g6, c6, d6⟩ := id it6
      refine go_of (s := { s5 with heap := h6 }) g6 c6 d6 (by decide) ?_
      have I7 := I6.pinned (fp := [it]) (fun b hb => by rw [List.mem_singleton.mp hb]; exact stat I6 n5) (fun b hb => by rw [List.mem_singleton.mp hb]; exact ⟨o6, g6, fun v z => by rw [d6] at z; cases z⟩)
      refine thnF (PG0.run _ _ _ H5 _ u _ I7 ru (pstep i _ H5 (List.getElem?_eq_getElem hlt) p5)) fun _ s8 ⟨σ8, H8, I8, w8, q8⟩ => ?_
      refine thnF (PT0.run _ s8 σ8 H8 _ I8 q8) fun b s9 ⟨H9, I9, q9⟩ => ?_
      have fin : ∀ {s' : Shared} {H' : Hp}, L2.Inv (X.blk s3 H3 scope ce [it]) ([] ++ pinsAt [it] h6) σ8 H' s' → Pv (i + 1) H' → ∃ m, m < xs.length - i ∧ ∃ i H', m = xs.length - i ∧ i ≤ xs.length ∧ L2.Inv (X.blk s3 H3 scope ce [it]) [] (wipe σ (own.map (·.2))) H' s' ∧ s'.heap.IsListIter it a i ∧ H' it = none ∧ Pv i H' := fun {s' H'} J p => by
        have z := J.pin (it, o6) (List.mem_append_right _ (List.mem_append_right _ (mem_pinsAt (List.mem_singleton.mpr rfl) g6)))
        have hl : (wipe σ (own.map (·.2))).length = σ8.length := by rw [← w8, wipe_length]
        refine ⟨xs.length - (i + 1), by omega, i + 1, H', rfl, hlt, (J.unpinned (pins := [])).weak hl (fun j v e => ?_), ⟨o6, z.1, c6, d6⟩, z.2.1, p⟩
        rw [← w8] at e
        exact (wipe_some e).1
      cases b with
      | false =>
        rw [if_neg Bool.false_ne_true] at q9 ⊢
        exact fin I9 q9
      | true =>
        rw [if_pos rfl] at q9 ⊢
        refine thnF (PE0.run _ s9 σ8 H9 _ I9 q9) fun z s10 ⟨yv, H10, I10, r10, acc, hD10, hz10, nx⟩ => ?_
        exact app_ok (X := X.blk s3 H3 scope ce [it]) I10 hD10 hz10 r10 fun s11 I11 => fin I11 nx
    · -- the end
      have el : i = xs.length := by omega
      subst el
      have hl := rv.length
      refine list_end_hot (at1 _ _ _ _ I5) ne1 it5 pl5.isList (by simp; omega) fun h6 eb => ?_
      have I6 := I5.turned (t' := s5.toks) (fun b o hb e => eb b o hb e) F5.1 F5.2.1 F5.2.2.2.1 F5.2.2.2.2.1 F5.2.2.2.2.2
      have I7 : L2.Inv X pins σ H5 { s5 with heap := h6 } := I3.call' (ch := [it]) I6.os I6.base I6.hok I6.bare fun b hb => by
        rw [List.mem_singleton.mp hb]
        exact ⟨fp3.2.2.2.1, fp3.2.1, fp3.2.2.2.2.1, fp3.2.2.2.2.2⟩
      obtain ⟨mm, hn, _⟩ := I6.loc
      have hn : h6.Ns ce.locals mm := hn
      have nC : H5 s3.heap.objs.size = none := by
        have z : H5 ce.locals = none := I6.free
        rw [cL] at z
        exact z
      rw [cL] at hn
      refine ⟨mm, hn, fun h7 sb => ?_⟩
      obtain ⟨f0, f1, f2, f3, f4, f5⟩ := I3.fpOk (Nat.le_refl _) nC
      exact ⟨.ref D, H5, I7.turned (t' := s5.toks) (fun b o hb e => (sb.2 b hb).trans e) f0 f1 f3 f4 f5, rfl, pdone H5 p5⟩
  exact codeAny_compStart_list loop (wpAny_pyIter_listiter it4 loop)
end
end K9
set_option Elab.async false
set_option linter.all false
set_option maxRecDepth 100000
set_option maxHeartbeats 4000000
/-! A caught error of an own class: its class, its fields, defs that it is handed to; own errors with an __init__, made. -/
namespace K9
open PySem PySem.Spec PySem.Calls PyProof.Rows L2 HotX
section
open PySem.W
variable {prog : Program} {w : World} {A : Around} {E : Value → Shared → Prop} {s : Shared} {K : Frag} {x D : Addr} {ox od : Obj}
theorem exc_class {Q : Option Value → Shared → Prop} (T : ExcC K D) (X : K.In s.heap) (I : PySem.W.InstAt s.heap x ox D (some od)) (h : Q (some (.ref D)) { s with toks := s.toks + 1 }) : wpAny (model prog w) A (getAttr? (.ref x) "__class__") Q E s := by
  obtain ⟨cd, hcd, _⟩ := any_some T.hd
  have hf : findObj K D (some od) "__class__" = some (.bind (.builtin "getset_descriptor.__get__") (.builtin "object.__class__")) := findObj_data (by rw [hcd]; rfl) T.ha T.hn T.ht
  obtain ⟨hp, g, d, t, os⟩ := s
  have T0 := I.type (M := model prog w)
  have G1 := looks_findIn (M := model prog w) X T.hg
  have G2 := looks_findIn (M := model prog w) X T.hk
  have G3 := looks_find (M := model prog w) X I hf
  have sb : Looks (model prog w) hp (isInstance (.ref x) (.type "BaseException")) true := T0.andThen (looks_subIn X T.hs)
  have b2 : (Value.builtin "BaseException.__getattribute__" == Value.builtin "object.__getattribute__") = false := by decide +kernel
  unfold getAttr? getAttrBy? getAttrBy
  refine wpAny_bind (wpAny_mkText (wpAny_bind (wpAny_attempt (wpAny_holding (wpAny_bind (T0.at (wpAny_bind (G1.at ?_))))))))
  show wpAny _ _ (if (onTheHeap (Value.ref D) && (Value.builtin "BaseException.__getattribute__" == Value.builtin "object.__getattribute__")) = true then _ else _) _ _ _
  rw [b2, Bool.and_false, if_neg Bool.false_ne_true]
  unfold getAttrByItsOwn hookBefore
  rw [if_pos (by rfl : onTheHeap (Value.ref D) = true)]
  refine wpAny_bind (G2.at (wpAny_bind (wpAny_attempt (wpAny_holding ?_))))
  unfold callGetattribute
  rw [show (false && onTheHeap (Value.builtin "BaseException.__getattribute__")) = false from rfl, if_neg Bool.false_ne_true]
  unfold boundAndCalled
  rw [PySem.F.excAttr_ValueError.ga.bind (.ref x)]
  refine wpAny_bind (wpAny_pure (wpAny_call (codeAny_call_builtin PySem.F.excAttr_ValueError.ga.plain PySem.F.entry_bexc_ga ?_)))
  refine @check_slot (model prog w) _ _ ⟨hp, g, d, t + 1, os⟩ _ "BaseException" "__getattribute__" (.ref x) [.str "__class__" t] [] _ (by decide +kernel) (by decide +kernel) sb (PySem.F.args_bexc_ga _ _) ?_
  unfold Builtin.«object.__getattribute__»
  refine wpAny_bind (wpAny_of_eq (a := ((Value.ref x : Value), [Value.str "__class__" t])) (by first | rfl | (simp only [slotArgs]; rfl)) (wpAny_bind (wpAny_pure (wpAny_bind (T0.at (wpAny_bind (G3.at ?_)))))))
  show wpAny _ _ (holding [Value.builtin "object.__class__"] (call _ [.builtin "object.__class__", .ref x, .ref D]) >>= ret) _ _ _
  refine wpAny_bind (wpAny_holding (wpAny_call (class_get (s := ⟨hp, g, d, t + 1, os⟩) (ox := ox) (od := some od) X I T.hm (wpAny_pure ?_))))
  show wpAny _ _ (handedOut (.ref D)) _ _ _
  rw [handedOut_of (v := .ref D) rfl]
  first
    | exact wpAny_pure (wpAny_bind (wpAny_pure (wpAny_pure h)))
    | exact wpAny_pure (wpAny_pure h)
    | exact wpAny_pure h
theorem cls_at (h : hasDictIn K D = true) : ∃ c d cd sl, K.lookup D = some ⟨c, d, .cls cd, sl⟩ := by
  obtain ⟨cd, e, _⟩ := any_some h
  unfold clsIn at e
  split at e
  · exact ⟨_, _, _, _, by assumption⟩
  · cases e
theorem kitx_exc (T : ExcC K D) : KitX K (.ref x) (.ref D) (fun h => ∃ od, PySem.W.InstAt h x ox D (some od)) where
  ty := fun _ _ _ ⟨_, I⟩ => I.type
  it := fun M h X _ => by
    obtain ⟨c, d, cd, sl, e⟩ := cls_at T.hd
    refine fun A' Q' E' s' k q => ?_
    unfold isType loadHead
    exact wpAny_bind (wpAny_loadPart (k _ _ (X _ _ e)) (wpAny_pure q))
  ne := fun h tp dd its n sl X z => Bool.eq_false_iff.mpr fun q => by
    obtain ⟨c, d, cd, sl', e⟩ := cls_at T.hd
    obtain rfl : D = tp := Value.ref.inj (beq_iff_eq.mp q)
    have y := (X _ _ e).symm.trans z
    cases y
  ca := fun X ⟨_, I⟩ k => exc_class T X I k
end
/-! ### p: the error that is handled, of the class at D, its fields in the dict at dd -/
structure ErrP (p : Addr × Obj) (D dd : Addr) : Prop where
  cls : p.2.cls = .ref D
  dict : p.2.dict = some dd
  data : ∃ vs, p.2.data = .fields vs
section
variable {X : Cx} {p : Addr × Obj} {D dd : Addr} {e : Expr} {te : TE} {pos : Pos} {n : Str}
theorem ErrP.inst (G : ErrP p D dd) (hp : p ∈ X.pn) {pins : List (Addr × Obj)} {σ : L2.St} {H : Hp} {s : Shared} (I : L2.Inv X pins σ H s) {fs : List (Str × V)} (hd : H dd = some (.xd fs)) :
    ∃ (mA : Str → Option Value) (od : Obj), PySem.W.InstAt s.heap p.1 p.2 D (some od) ∧ (∀ f, PySem.W.lookIn f od = some (mA f)) ∧ ∀ f, RelO (fs.lookup f) (mA f) := by
  have hx : ObjOk X.prog X.w H s.heap dd (.xd fs) := I.hok dd _ hd
  obtain ⟨mA, hns, hr⟩ := hx
  obtain ⟨od, ho, hl⟩ := lookIn_ns hns
  obtain ⟨vs, hv⟩ := G.data
  exact ⟨mA, od, ⟨(I.pin p (List.mem_append_left _ hp)).1, G.cls, by unfold PySem.W.notCls; rw [hv], by rw [G.dict]; exact ho⟩, hl, hr⟩
/-- isinstance(e, C) -/
def rIsP (K : PySem.W.Frag) (D dd a : Addr) : List V → Hp → VK → Prop := fun xs H Q => ∃ (c : V) (cv : Value) (b : Bool) (fs : List (Str × V)), xs = [.ref a, c] ∧ H dd = some (.xd fs) ∧ (∀ u, RelV c u → u = cv) ∧ PySem.W.kitOne K (.ref D) cv = some b ∧ Q (.bl b) H
theorem call_isP (T : ExcC X.K D) (G : ErrP p D dd) (hp : p ∈ X.pn) : CallR X (.builtin "isinstance") (rIsP X.K D dd p.1) := by
  intro pins s σ H xs us Q I r h
  obtain ⟨c, cv, b, fs, rfl, hd, hcv, e, q⟩ := h
  obtain ⟨u, w', rfl, ru, rw'⟩ := vals2 r
  obtain rfl : u = Value.ref p.1 := ru
  obtain rfl := hcv _ rw'
  obtain ⟨mA, od, J, _⟩ := G.inst hp I hd
  exact PySem.W.kia_one (kitx_exc T) I.kIn ⟨od, J⟩ e (fun z => nomatch z) fun tk => ⟨.bl b, H, I.tok _, rfl, q⟩
/-- e.f -/
def tFldP (dd a : Addr) (f : Str) (te : TE) : TE := fun σ H Q => te σ H fun x H1 => ∃ (fs : List (Str × V)) (v : V), x = .ref a ∧ H1 dd = some (.xd fs) ∧ fs.lookup f = some v ∧ Q v H1
theorem pe_fldP (T : XfC X.K D) (hno : PySem.W.findIn X.K (.ref D) n = some none) (G : ErrP p D dd) (hp : p ∈ X.pn) (he : PE X e te) (hb : attributeBase e n X.env (eval e X.env) = eval e X.env := by rfl) : PE X (.Attribute e n pos) (tFldP dd p.1 n te) := by
  refine ⟨fun pins s σ H Q I h => attr_of hb (thn (he.run pins s σ H _ I h) fun u s1 hu => ?_)⟩
  obtain ⟨x, H1, I1, rx, fs, v, rfl, hd, l, q⟩ := hu
  obtain rfl : u = Value.ref p.1 := rx
  obtain ⟨mA, od, J, hl, hr⟩ := G.inst hp I1 hd
  obtain ⟨u, hu, ru⟩ := RelO.some_of (v := v) (o := mA n) (by rw [← l]; exact hr n)
  exact HandSPX.exc_get I1.kIn J T.ga T.gg T.exC (PySem.W.findObj_own T.hdC hno rfl (by rw [hl, hu])) (handed_of ru) ⟨v, H1, I1.tok _, ru, q⟩
end
/-! ### a def that the handled error may be handed to: its promise speaks of the error p -/
structure FnE (P : Program) (w : World) (K : PySem.W.Frag) (mg : Str → Option Value) (base : Heap) (k : Nat) (f : Addr) (fd : FuncData) (ps : List Str) (sp : Addr × Obj → Sp) : Prop where
  len : ∀ p vs H Q E, sp p vs H Q E → vs.length = ps.length
  run : ∀ (A : Around) (outer : List Env) (s : Shared) (H : Hp) (args : Args) (us : List Value) (vs : List V) (Q : VK) (p : Addr × Obj), L2H.RoomH k A → L2H.Hot1 A p → L2H.PinOk outer H s p → Env0 P w K mg base A outer s H → BindsTo s fd args (ps.zip us) → Vals vs us →
    sp p vs H Q E0 → codeAny (model P w) A (.call (.ref f) args) (CR CX0 outer P w H s Q E0) s
section
variable {P : Program} {w : World} {K : PySem.W.Frag} {mg : Str → Option Value} {base : Heap} {x qual : Str} {params : Arguments} {body : List Stmt} {scope : Scope} {f : Addr} {fd : FuncData}
theorem fnE_of {N ps : List Str} {k : Nat} {sp : Addr × Obj → Sp} (F : FunD K x qual params body scope [] [] f fd) (S : FnScope N ps scope) (len : ∀ p vs H Q E, sp p vs H Q E → vs.length = ps.length)
    (hbody : ∀ (cdv : Value) (A : Around) (outer : List Env) (s : Shared) (H : Hp) (vs : List V) (Q : VK) (p : Addr × Obj), L2H.Hot1 (A.deeper (envOfC qual scope s.heap.objs.size f cdv)) p → L2H.RoomH k (A.deeper (envOfC qual scope s.heap.objs.size f cdv)) → sp p vs H Q E0 →
      ∃ t, PSs (L2H.cxH CX0 P w K mg base N qual scope f cdv A outer s H E0 p).nox body t ∧ t { nx := fun _ H' => Q .non H', rt := Q } (L2.start N vs) H) : FnE P w K mg base (k + 1) f fd ps sp := by
  obtain ⟨oc, od, dV, kV, doc, pm, an, cdv, ct, osl, rfl, lk, hcd, _, _⟩ := F.ex
  refine ⟨len, fun A outer s H args us vs Q p hr hot hpin e0 hb r hsp => ?_⟩
  have KX : K.In s.heap := e0.mod.kin.keeps fun b o e => (e0.bs b o e).1
  refine codeAny_call_function hr.depth (KX _ _ lk) rfl S.co S.gen rfl (PySem.W.codeRec_of KX hcd) (hb _ _ _ _ (wpAny_newFunctionEnv_cells S.kind (fun ⟨n, v⟩ hy => ?_) fun env he s1 y => ?_))
  · exact (S.par n (List.of_mem_zip hy).1).elim Or.inl fun q => .inr ⟨q, PySem.W.cellsFrom_some _ _ _ (.inl q)⟩
  · subst he
    refine ⟨(e0.mod.nolimit.keeps fun b o e => (e0.bs b o e).1).keeps y.toInCall.keep, codeAny_func ?_⟩
    obtain ⟨t, ht, hq⟩ := hbody cdv A outer s H vs Q p hot (hr.deeper _) hsp
    have I : L2.Inv (L2H.cxH CX0 P w K mg base N qual scope f cdv A outer s H E0 p) [] (L2.start N vs) H s1 := L2H.inv_startH S hpin e0 (len _ _ _ _ _ hsp) r y
    have fin : ∀ {σ' : L2.St} {H' : Hp} {v : V} {u : Value} {s' : Shared}, L2.Inv (L2H.cxH CX0 P w K mg base N qual scope f cdv A outer s H E0 p) [] σ' H' s' → L2.RelV v u → Q v H' → CE outer P w H s Q u s' :=
      fun {σ' H' v u s'} J rv q => ⟨v, H', J.os, J.bare, J.base, J.hok, rv, q⟩
    refine wpAny_mono (ht.nox.run [] s1 (L2.start N vs) H _ I hq) (fun fl s' hs => ?_) fun e s' hs => hs
    cases fl with
    | next =>
      obtain ⟨σ', H', J, q⟩ := hs
      exact fin (v := V.non) (u := Value.none) J rfl q
    | ret u =>
      obtain ⟨v, σ', H', J, rv, q⟩ := hs
      exact fin J rv q
    | brk => exact hs.elim fun _ z => z.elim fun _ z => z.2.elim
    | cont => exact hs.elim fun _ z => z.elim fun _ z => z.2.elim
end
section
variable {X : Cx} {k : Nat} {f : Addr} {fd : FuncData} {ps : List Str} {sp : Addr × Obj → Sp} {x : Str} {p : Addr × Obj} {q pos : Pos} {e : Expr} {es : List Expr} {t : TA}
/-- f(e, ..), the error p handled -/
theorem pe_callE (F : FnE X.prog X.w X.K X.mg X.base k f fd ps sp) (hr : L2H.RoomH k X.A) (hot : L2H.Hot1 X.A p) (hp : p ∈ X.pn) (hg : Gl X x) (hm : X.mg x = some (.ref f)) (hk : PySem.W.keepIn X.K (.ref f) = true) (hb : Binds X.K fd ps [])
    (ha : PA X (e :: es) t) (hdb : (x == ("__debug__" : Str)) = false := by decide) (he : starEach (e :: es) X.env = (false, eval e X.env) :: starEach es X.env := by rfl) (hpl : (backTo pos (starEach es X.env)).any (·.1) = false := by rfl) :
    PE X (.Call (.Name x q) (e :: es) [] pos) (fun σ H Q => t σ H fun vs H1 => sp p vs H1 Q E0) := by
  refine ⟨fun pins s σ H Q I h => wpAny_Call_Name_kw (ld_glob I hg hm ?_ hdb)⟩
  refine PySem.W.callWith_K (h₀ := X.base) I.ok.mod.kin hk (thn (ha.run pos pins s σ H _ I h) fun us s1 ⟨vs, H1, I1, r, h1⟩ => ⟨I1.kIn, ?_⟩) he hpl
  obtain ⟨g1, g2, g3, g4, g5⟩ := I1.pin p (List.mem_append_left _ hp)
  have b := hb s1 us I1.kIn (by rw [List.append_nil, ← r.length]; exact F.len _ _ _ _ _ h1)
  rw [List.append_nil] at b
  refine wpAny_call (codeAny_mono (F.run X.A X.stack s1 H1 ⟨us, []⟩ us vs Q p hr hot ⟨g1, g2, fun z => (List.mem_cons.mp (I1.stkSub p.1 z)).elim g3 g4, g5⟩ I1.env0 b r h1) fun r s' hq => ?_)
  cases r with
  | error e => exact hq.elim
  | ok fl =>
    cases fl with
    | ret u => exact I1.after hq
    | next => exact hq.elim
    | brk => exact hq.elim
    | cont => exact hq.elim
end
/-! ### an own error with an __init__, made where nothing is handled: its context is None -/
section
variable {X : Cx} {CX : CXT} {x : Str} {C fI : Addr} {k : Nat} {fd : FuncData} {ps : List Str} {sp : Sp} {e : Expr} {es : List Expr} {ta : TA} {p pos : Pos}
theorem pmkN (T : OexC X.K C) (iC : PySem.W.findIn X.K (.ref C) "__init__" = some (some (.ref fI))) (tI : PySem.W.typeIn X.K (.ref fI) = some (.type "function")) (F1 : FnOk X.prog X.w X.K X.mg X.base CX k fI fd ps sp) (hr : Room (k + 1) X.A)
    (hb : Binds X.K fd ps []) (hx : Passes CX X (fun _ _ _ => False)) (hg : Gl X x) (hm : X.mg x = some (.ref C)) (ha : PA X (e :: es) ta) (hdb : (x == ("__debug__" : Str)) = false := by decide)
    (he : starEach (e :: es) X.env = (false, eval e X.env) :: starEach es X.env := by rfl) (hpl : (backTo pos (starEach es X.env)).any (·.1) = false := by rfl) : L2N.PMk X (.Call (.Name x p) (e :: es) [] pos) (tMkO C sp [] ta) := by
  intro pins s σ H Q I h
  obtain ⟨nm, q, N, bs, bm, sn, sub, ab, col, dd, k0, k1, k2, k3, k5, hC, hbm⟩ := id T.cls
  refine wpAny_Call_Name_kw (ld_glob I hg hm ?_ hdb)
  refine PySem.W.callWith_K (h₀ := X.base) I.ok.mod.kin T.kC (thn (ha.run pos pins s σ H _ I h) fun us s1 ⟨vs, H1, I1, r1, hz, want⟩ => ⟨I1.kIn, ?_⟩) he hpl
  have hus : us.length ≤ sizeLine := by
    rw [← Paired.length r1, sizeLine_eq]
    omega
  obtain ⟨hp, g, dr, tk, os⟩ := s1
  have fresh : H1 (hp.objs.size + 1) = none := I1.hok.fresh (Nat.le_succ _)
  have hq := want (hp.objs.size + 1) fresh
  rw [List.append_nil] at hq
  have keep := fun (b : Addr) (o : Obj) (z : hp.get? b = some o) => Heap.get?_push_of_some (PySem.HandSPX.excO C hp.objs.size) (Heap.get?_push_of_some (PySem.W.kdv_tup us) z)
  have there : ((hp.push (PySem.W.kdv_tup us)).push (PySem.HandSPX.excO C hp.objs.size)).get? (hp.objs.size + 1) = some (PySem.HandSPX.excO C hp.objs.size) := by heap_get
  have I2 : L2.Inv X pins σ (upd H1 (hp.objs.size + 1) (exo (hp.objs.size + 1) C none)) ⟨(hp.push (PySem.W.kdv_tup us)).push (PySem.HandSPX.excO C hp.objs.size), g, dr, tk, os⟩ := I1.laid (t' := tk) keep (Nat.le_succ _) (exo_ok there)
  have r2 : Vals (V.ref (hp.objs.size + 1) :: vs) (Value.ref (hp.objs.size + 1) :: us) := .cons rfl r1
  have b2 := hb _ (Value.ref (hp.objs.size + 1) :: us) I2.kIn (by rw [List.append_nil, ← r2.length]; exact F1.len _ _ _ _ hq)
  rw [List.append_nil] at b2
  refine wpAny_call (PySem.HandSPX.call_own F.excBase_ValueError (fun Y => PySem.HandSPX.refsVE_contains Y bm hbm) (I1.kIn _ _ hC) (PySem.W.looks_findIn I1.kIn iC) (fun self => PySem.W.bind_fn I1.kIn self tI) hus (codeAny_mono
    (F1.run _ X.stack _ _ ⟨Value.ref (hp.objs.size + 1) :: us, []⟩ _ _ _ (fun _ _ _ => False) (hr.make C us []) (I2.env0.make C us []) b2 r2 hq) fun r s' hq' => ?_))
  cases r with
  | error er => exact hx pins σ _ _ er s' I2 hq'
  | ok fl =>
    cases fl with
    | next => exact hq'.elim
    | brk => exact hq'.elim
    | cont => exact hq'.elim
    | ret u =>
      obtain ⟨v, H2, os2, bare2, un2, hok2, rv, rfl, d, fs, ea, ed, hd1, q2⟩ := hq'
      obtain ⟨h2, g2, d2, t2, os'⟩ := s'
      obtain ⟨t0, G, J, kG, ge, hoe, na⟩ := mk_end0 (d2 := d2) (t2 := t2) I1 (Nat.le_succ _) keep un2 hok2 os2 bare2 ea ed hd1
      refine ⟨rv, hp.objs.size + 1, _, _, ⟨G, g2, d2, t2, os'⟩, _, .ref C, some d, rfl, J, kG, ge, hoe, ⟨rfl, rfl, fun vs hv => ?_⟩, rfl, rfl, na, rfl, bare2, raises_own T.exC T.tyC, q2⟩
      cases hv
      rfl
end
end K9
set_option Elab.async false
set_option linter.all false
set_option maxRecDepth 100000
set_option maxHeartbeats 4000000
/-! A lambda without parameters, handed down through defs and called there. -/
namespace K9
open PySem PySem.Spec PySem.Calls PyProof.Rows L2
/-- what was untracked at the state sm stands at s, up to slots, and is untracked -/
def Since (Hm : Hp) (sm : Shared) (H : Hp) (s : Shared) : Prop := ∀ b o, sm.heap.get? b = some o → Hm b = none → (∃ sl, s.heap.get? b = some { o with slots := sl }) ∧ H b = none
theorem Since.refl (H : Hp) (s : Shared) : Since H s H s := fun b o e n => ⟨⟨o.slots, e⟩, n⟩
theorem Since.trans {H H1 H2 : Hp} {s s1 s2 : Shared} (a : Since H s H1 s1) (b : Since H1 s1 H2 s2) : Since H s H2 s2 := fun c o e n => by
  obtain ⟨⟨sl, e1⟩, n1⟩ := a c o e n
  obtain ⟨⟨sl2, e2⟩, n2⟩ := b c _ e1 n1
  exact ⟨⟨sl2, e2⟩, n2⟩
theorem Since.of {X : Cx} {pins : List (Addr × Obj)} {σ : L2.St} {H : Hp} {s : Shared} (I : L2.Inv X pins σ H s) (hx : X.ex = []) : Since X.H_0 X.s_0 H s := fun b o e n =>
  ⟨I.base.any e n (by rw [hx]; simp), I.base.free b o e n (by rw [hx]; simp)⟩
/-! ### the lambda's body -/
section
variable {X : Cx} {scope : Scope}
theorem clo_sub (L : LamX.LamS X.env.scope scope) (ok : X.Ok) {y : Str} {c : Addr} (e : (cloFrom X.env.cells scope.names []).lookup y = some c) : X.env.cells.lookup y = some c := by
  rcases cloFrom_mem (PySem.mem_of_lookup e) with hm | ⟨h1, h2⟩
  · cases hm
  · obtain ⟨c1, hc⟩ := L.has ok _ h1 rfl
    have hc : X.env.cells.lookup y = some c1 := hc
    have e2 : c = c1 := by rw [h2, hc]; rfl
    rw [e2]
    exact hc
theorem clo_has {y : Str} (hl : scope.names.lookup y = some .free) : ∃ c, (cloFrom X.env.cells scope.names []).lookup y = some c :=
  mem_lookup (cloFrom_has (cells := X.env.cells) (acc := []) (show (y, NameKind.free) ∈ scope.names from PySem.mem_of_lookup hl))
/-- its context, entered at s from the frames outer, errors by the rules of L2N -/
def lamC (X : Cx) (A : Around) (outer : List Env) (s : Shared) (H : Hp) (E : XK) (scope : Scope) (f c' : Addr) : Cx :=
  { LamX.lamCx X A outer s H E scope f c' with
    xe := fun e s' => wpAny (model X.prog X.w) (A.deeper (LamX.lamEnv X scope s.heap.objs.size f c')) (leaving (LamX.lamEnv X scope s.heap.objs.size f c') e) (fun _ s'' => L2N.CX X.prog X.w outer H s E e s'') (fun e' s'' => L2N.CX X.prog X.w outer H s E e' s'') s' }
theorem lam_in {pins : List (Addr × Obj)} {σ : L2.St} {H HZ : Hp} {s s1 : Shared} {A : Around} {outer : List Env} {E : XK} {f c' : Addr} {h₁ : Heap} {tk : Nat} (I : L2.Inv X pins σ H s) (L : LamX.LamS X.env.scope scope)
    (e0 : Env0 X.prog X.w X.K X.mg X.base A outer s1 HZ) (hd : A.handled = none) (S : Since H s HZ s1) (hns : h₁.Ns s1.heap.objs.size fun y => ([] : List (Str × Value)).reverse.lookup y) (kp : ∀ b o, s1.heap.get? b = some o → h₁.get? b = some o) :
    L2.Inv (lamC X A outer s1 HZ E scope f c') [] σ HZ { s1 with heap := h₁, toks := tk } := by
  have cellK : ∀ {c : Addr} {v : Option Value}, H c = none → s.heap.IsCell c v → h₁.IsCell c v ∧ HZ c = none := fun {c v} n ⟨o, ho, hv⟩ => by
    obtain ⟨⟨sl, q⟩, nz⟩ := S c o ho n
    exact ⟨⟨_, kp _ _ q, hv⟩, nz⟩
  have none_ex : ∀ b : Addr, b ∉ (lamC X A outer s1 HZ E scope f c').ex := fun b z => absurd (show b ∈ ([] : List Addr) from z) (by simp)
  have OK : (lamC X A outer s1 HZ E scope f c').Ok :=
    { mod := e0.mod, kind := L.kind, glob := rfl, blt := rfl, above := Nat.le_refl _
      inj := fun y z c e1 e2 => I.ok.inj y z c (clo_sub L I.ok e1) (clo_sub L I.ok e2)
      has := fun y hy => by
        rcases (show scope.names.lookup y = some .cell ∨ scope.names.lookup y = some .free from hy) with q | q
        · exact absurd rfl (L.own _ (PySem.mem_of_lookup q)).2
        · exact clo_has q
      cab := fun y c z _ => Bool.noConfusion (show false = true from z)
      hd := fun _ => hd, frames := Around.frames_deeper e0.frames, stk := .inr ⟨rfl, rfl⟩, exf := fun b z => absurd z (none_ex b), bs := e0.bs, bsz := e0.bsz, noex := fun b _ _ => none_ex b
      exfs := fun b z => absurd z (none_ex b), funs := e0.funs, frf := e0.frf }
  refine ⟨OK, rfl, e0.bare, Un.kept kp, ⟨_, hns, fun i y v e1 e2 e3 => ?_⟩, fun y c e => ?_, e0.hok.fresh (Nat.le_refl _), fun y c e => ?_, fun q hq => absurd (show q ∈ ([] : List (Addr × Obj)) ++ [] from hq) (by simp), e0.hok.kept kp, I.len⟩
  · rcases (show Vis scope y from e3) with k | k | k
    · exact absurd rfl (L.own _ (PySem.mem_of_lookup k)).1
    · exact absurd rfl (L.own _ (PySem.mem_of_lookup k)).2
    · obtain ⟨c2, h2⟩ := clo_has (X := X) k
      have c1 := clo_sub L I.ok h2
      obtain ⟨m, hn, hl⟩ := I.loc
      rcases L.free _ (PySem.mem_of_lookup k) rfl with kc | kc
      all_goals
        obtain ⟨w', r, q⟩ := hl i y v e1 e2 (by first | exact .inr (.inl kc) | exact .inr (.inr kc))
        rcases q with ⟨k', _⟩ | ⟨_, c3, e', z⟩
        · rw [show X.env.scope.names.lookup y = _ from k'] at kc
          cases kc
        · rw [c1] at e'
          cases e'
          exact ⟨w', r, .inr ⟨.inr k, c2, h2, (cellK (I.freeC y _ c1) z).1⟩⟩
  · obtain ⟨v, z⟩ := I.cell y c (clo_sub L I.ok e)
    exact ⟨v, (cellK (I.freeC y c (clo_sub L I.ok e)) z).1⟩
  · obtain ⟨v, z⟩ := I.cell y c (clo_sub L I.ok e)
    exact (cellK (I.freeC y c (clo_sub L I.ok e)) z).2
end
/-! ### the lambda as it stands at the state sm, and what its call gives from there on -/
structure LamAt (P : Program) (w : World) (K : PySem.W.Frag) (mg : Str → Option Value) (base : Heap) (k : Nat) (f c' : Addr) (q : Str) (Hm : Hp) (sm : Shared) (tl : Hp → VK → XK → Prop) : Prop where
  obj : ∃ o fd, sm.heap.get? f = some o ∧ o.data = .func fd ∧ o.cls = .type "function" ∧ o.dict = none
  free : Hm f = none
  run : ∀ (A : Around) (outer : List Env) (s : Shared) (H : Hp) (Q : VK) (E : XK), Room (k + 1) A → Env0 P w K mg base A outer s H → Since Hm sm H s → H c' = some (LamX.CodeO c' q) → tl H Q E →
    codeAny (model P w) A (.call (.ref f) ⟨[], []⟩) (CR (L2N.CX P w) outer P w H s Q E) s
section
variable {X : Cx} {scope : Scope} {pins : List (Addr × Obj)} {σ : L2.St} {H : Hp} {s : Shared} {f c' : Addr} {params : Arguments} {body : Expr} {pm ctv : Value} {k : Nat} {tl : Hp → VK → XK → Prop}
theorem lam_at (I : L2.Inv X pins σ H s) (L : LamX.LamS X.env.scope scope) (hf : s.heap.get? f = some (PySem.W.kla_obj "<lambda>" (X.env.qual ++ "<lambda>") params body scope (cloFrom X.env.cells scope.names []) pm c' ctv)) (hfn : H f = none)
    (hbind : ∀ (cl : List (Str × Addr)) (pm cv ctv : Value), bindArgs (PySem.W.kla_fn "<lambda>" (X.env.qual ++ "<lambda>") params body scope cl pm cv ctv) ⟨[], []⟩ = pure [])
    (hbody : ∀ (A : Around) (outer : List Env) (s' : Shared) (H' : Hp) (E : XK), Room k (A.deeper (LamX.lamEnv X scope s'.heap.objs.size f c')) → ∃ tE, PE (lamC X A outer s' H' E scope f c') body tE ∧ ∀ Q : VK, tl H' Q E → tE σ H' Q) :
    LamAt X.prog X.w X.K X.mg X.base k f c' (X.env.qual ++ "<lambda>") H s tl := by
  refine ⟨⟨_, _, hf, rfl, rfl, rfl⟩, hfn, fun A outer s1 H1 Q E hr e0 hS hco ht => ?_⟩
  obtain ⟨⟨sl, of1⟩, n1⟩ := hS f _ hf hfn
  obtain ⟨⟨oc, vs, t, hoc, hdc, hvc⟩, _, _⟩ := e0.hok c' _ hco
  refine PySem.W.kla_callFunE hr.depth of1 rfl L.co L.gen rfl ⟨c', oc, vs, t, rfl, hoc, hdc, hvc⟩ ?_
  rw [hbind]
  refine wpAny_pure (wpAny_newFunctionEnv (fun y hy => (L.own y hy).2) (fun y hy => absurd hy (by simp)) (fun h₁ hns hsb => ⟨(e0.mod.nolimit.keeps fun b o e => (e0.bs b o e).1).fresh _ hsb, ?_⟩) L.kind)
  have kp : ∀ b o, s1.heap.get? b = some o → h₁.get? b = some o := fun b o e => hsb.extBut b o (Nat.ne_of_lt (Heap.lt_size e)) (Heap.get?_push_of_some _ e)
  have J := lam_in (E := E) (f := f) (c' := c') (tk := s1.toks + ([] : List (Str × Value)).length) I L e0 hr.hd hS hns kp
  obtain ⟨tE, hp, hq⟩ := hbody A outer s1 H1 E (hr.deeper _)
  refine PySem.W.kla_codeExpr (wpAny_mono (hp.run [] _ _ H1 Q J (hq Q ht)) (fun v s' hv => ?_) fun e s' hv => hv)
  obtain ⟨w', H', J', rv, q⟩ := hv
  exact ⟨w', H', J'.os, J'.bare, J'.base, J'.hok, rv, q⟩
end
/-! ### x(), x a local name that holds the lambda -/
section
variable {X : Cx} {k i : Nat} {f c' : Addr} {q : Str} {Hm : Hp} {sm : Shared} {tl : Hp → VK → XK → Prop} {a : Str} {W : WX} {p1 p2 : Pos}
theorem pe_lamCall (LA : LamAt X.prog X.w X.K X.mg X.base k f c' q Hm sm tl) (hS : Since Hm sm X.H_0 X.s_0) (hx : X.ex = []) (tk : L2N.Takes X W) (hr : Room (k + 1) X.A) (hN : X.N[i]? = some a) (hv : Vis X.env.scope a)
    (hd : (a == ("__debug__" : Str)) = false := by decide) (hcd : (a == ("__classdict__" : Str)) = false := by decide) :
    PE X (.Call (.Name a p1) [] [] p2) (fun σ H Q => σ[i]? = some (some (.ref f)) ∧ H c' = some (LamX.CodeO c' q) ∧ tl H Q (WE W σ)) := by
  refine ⟨fun pins s σ H Q I ⟨h1, h2, h3⟩ => ?_⟩
  refine wpAny_Call_Name_kw (thn ((pe_var (pos := p1) (i := i) hN hv hd hcd).run pins s σ H (fun v H1 => v = .ref f ∧ H1 = H) I ⟨.ref f, h1, rfl, rfl⟩) fun u s1 ⟨v, H1, I1, r1, e1, e2⟩ => ?_)
  subst e1 e2
  obtain rfl : u = Value.ref f := r1
  obtain ⟨o, fd, ho, hdf, hcl, hdi⟩ := LA.obj
  have S1 : Since Hm sm H1 s1 := hS.trans (Since.of I1 hx)
  obtain ⟨⟨sl, of1⟩, n1⟩ := S1 f o ho LA.free
  obtain ⟨oc, od, oda, osl⟩ := o
  dsimp only at hdf hcl hdi of1
  subst hdf hcl hdi
  refine PySem.W.callWith_F0 ⟨_, _, _, _, of1⟩ (wpAny_call (codeAny_mono (LA.run X.A X.stack s1 H1 Q (WE W σ) hr I1.env0 S1 h2 h3) fun r s' hq => ?_))
  cases r with
  | error e => exact L2N.passAt tk σ pins H1 s1 e s' I1 hq
  | ok fl =>
    cases fl with
    | ret u => exact I1.after hq
    | next => exact hq.elim
    | brk => exact hq.elim
    | cont => exact hq.elim
end
/-! ### a def to which the lambda is handed -/
structure FnJ (P : Program) (w : World) (K : PySem.W.Frag) (mg : Str → Option Value) (base : Heap) (k : Nat) (f : Addr) (fd : FuncData) (ps : List Str) (Hm : Hp) (sm : Shared) (sp : Sp) : Prop where
  len : ∀ vs H Q E, sp vs H Q E → vs.length = ps.length
  run : ∀ (A : Around) (outer : List Env) (s : Shared) (H : Hp) (args : Args) (us : List Value) (vs : List V) (Q : VK), Room k A → Env0 P w K mg base A outer s H → Since Hm sm H s → BindsTo s fd args (ps.zip us) → Vals vs us →
    sp vs H Q E0 → codeAny (model P w) A (.call (.ref f) args) (CR CX0 outer P w H s Q E0) s
theorem fnJ_of {P : Program} {w : World} {K : PySem.W.Frag} {mg : Str → Option Value} {base : Heap} {x qual : Str} {params : Arguments} {body : List Stmt} {scope : Scope} {f : Addr} {fd : FuncData} {N ps : List Str} {k : Nat} {Hm : Hp} {sm : Shared} {sp : Sp}
    (F : FunD K x qual params body scope [] [] f fd) (S : FnScope N ps scope) (len : ∀ vs H Q E, sp vs H Q E → vs.length = ps.length)
    (hbody : ∀ (cdv : Value) (A : Around) (outer : List Env) (s : Shared) (H : Hp) (vs : List V) (Q : VK), Room k (A.deeper (envOfC qual scope s.heap.objs.size f cdv)) → Since Hm sm H s → sp vs H Q E0 →
      ∃ t, PSs (cxOf CX0 P w K mg base N qual scope f cdv A outer s H E0).nox body t ∧ t { nx := fun _ H' => Q .non H', rt := Q } (L2.start N vs) H) : FnJ P w K mg base (k + 1) f fd ps Hm sm sp := by
  obtain ⟨oc, od, dV, kV, doc, pm, an, cdv, ct, osl, rfl, lk, hcd, _, _⟩ := F.ex
  refine ⟨len, fun A outer s H args us vs Q hr e0 hS hb r h => LamX.run_ofS lk hcd S hr e0 hb r (len _ _ _ _ h) fun hr' => ?_⟩
  obtain ⟨t, ht, hq⟩ := hbody cdv A outer s H vs Q hr' hS h
  exact ⟨t, ht.nox, hq⟩
section
variable {X : Cx} {k : Nat} {g : Addr} {fd : FuncData} {ps : List Str} {Hm : Hp} {sm : Shared} {sp : Sp} {x : Str} {q pos : Pos} {e : Expr} {es : List Expr} {t : TA}
theorem pe_callJ (G : FnJ X.prog X.w X.K X.mg X.base k g fd ps Hm sm sp) (hS : Since Hm sm X.H_0 X.s_0) (hx : X.ex = []) (hr : Room k X.A) (hg : Gl X x) (hm : X.mg x = some (.ref g)) (hk : PySem.W.keepIn X.K (.ref g) = true) (hb : Binds X.K fd ps [])
    (ha : PA X (e :: es) t) (hdb : (x == ("__debug__" : Str)) = false := by decide) (he : starEach (e :: es) X.env = (false, eval e X.env) :: starEach es X.env := by rfl) (hpl : (backTo pos (starEach es X.env)).any (·.1) = false := by rfl) :
    PE X (.Call (.Name x q) (e :: es) [] pos) (fun σ H Q => t σ H fun vs H1 => sp vs H1 Q E0) := by
  refine ⟨fun pins s σ H Q I h => wpAny_Call_Name_kw (ld_glob I hg hm ?_ hdb)⟩
  refine PySem.W.callWith_K (h₀ := X.base) I.ok.mod.kin hk (thn (ha.run pos pins s σ H _ I h) fun us s1 ⟨vs, H1, I1, r, h1⟩ => ⟨I1.kIn, ?_⟩) he hpl
  have b := hb s1 us I1.kIn (by rw [List.append_nil, ← r.length]; exact G.len _ _ _ _ h1)
  rw [List.append_nil] at b
  refine wpAny_call (codeAny_mono (G.run X.A X.stack s1 H1 ⟨us, []⟩ us vs Q hr I1.env0 (hS.trans (Since.of I1 hx)) b r h1) fun r s' hq => ?_)
  cases r with
  | error e => exact hq.elim
  | ok fl =>
    cases fl with
    | ret u => exact I1.after hq
    | next => exact hq.elim
    | brk => exact hq.elim
    | cont => exact hq.elim
end
/-! ### g(lambda: body, ..) -/
/-- the promise of g, told of the lambda -/
def spLam (q : Str) (TT : (Hp → VK → XK → Prop) → List V → Hp → VK → Prop) (f c' : Addr) (tl : Hp → VK → XK → Prop) : Sp := fun vs H Q _ => ∃ ys, vs = .ref f :: ys ∧ H c' = some (LamX.CodeO c' q) ∧ TT tl ys H Q
def tLam2 (T : List (Addr × Str)) (q : Str) (TT : (Hp → VK → XK → Prop) → List V → Hp → VK → Prop) (t : XK → TE) (ta : TA) : TE := fun σ H Q => LamX.Tabs T H ∧ ∀ (H1 : Hp) (c' : Addr), LamX.ExtN H H1 → LamX.Tabs T H1 → H1 c' = some (LamX.CodeO c' q) →
  ta σ H1 fun ys H2 => H2 c' = some (LamX.CodeO c' q) ∧ TT (fun H' Q' E' => t E' σ H' Q') ys H2 Q
section
variable {X : Cx} {T : List (Addr × Str)} {k j : Nat} {g c P : Addr} {fd : FuncData} {ps : List Str} {x : Str} {params : Arguments} {body : Expr} {es : List Expr} {scope : Scope} {ta : TA} {t : XK → TE} {p lpos pos : Pos} {TT : (Hp → VK → XK → Prop) → List V → Hp → VK → Prop}
theorem not_frame {pins : List (Addr × Obj)} {σ : L2.St} {H : Hp} {s : Shared} {f : Addr} {o : Obj} {fdl : FuncData} (I : L2.Inv X pins σ H s) (hf : s.heap.get? f = some o) (hd : o.data = .func fdl) (hn : f ∉ frs X.stack) : f ≠ X.env.locals ∧ f ∉ X.fs := by
  constructor
  · rintro rfl
    obtain ⟨m, ⟨o', es', ep, e, d, _⟩, _⟩ := I.loc
    rw [hf] at e
    cases e
    rw [hd] at d
    cases d
  · intro z
    rcases I.ok.stk with e | ⟨e, _⟩
    · exact hn (by rw [e]; exact z)
    · refine hn ?_
      rw [e]
      obtain ⟨env, h1, h2⟩ := List.mem_filterMap.mp z
      exact List.mem_filterMap.mpr ⟨env, List.mem_cons_of_mem _ h1, h2⟩
theorem pe_callLam (G : ∀ (f c' : Addr) (Hm : Hp) (sm : Shared) (tl : Hp → VK → XK → Prop), LamAt X.prog X.w X.K X.mg X.base k f c' (X.env.qual ++ "<lambda>") Hm sm tl → FnJ X.prog X.w X.K X.mg X.base j g fd ps Hm sm (spLam (X.env.qual ++ "<lambda>") TT f c' tl))
    (hr : Room j X.A) (hg : Gl X x) (hm : X.mg x = some (.ref g)) (hk : PySem.W.keepIn X.K (.ref g) = true) (hb : Binds X.K fd ps []) (TB : LamX.TabB X.base X.mg c P) (hcode : X.env.code = .ref c) (hmT : (P, X.env.qual ++ "<lambda>") ∈ T)
    (hu : ∀ p ∈ T, p.1 = P → p.2 = X.env.qual ++ "<lambda>") (L : LamX.LamS X.env.scope scope) (hdef : defaultsOf params X.env = ([], []))
    (hbind : ∀ (q : Str) (cl : List (Str × Addr)) (pm cv ctv : Value), bindArgs (PySem.W.kla_fn "<lambda>" q params body scope cl pm cv ctv) ⟨[], []⟩ = pure [])
    (hbody : ∀ (A : Around) (outer : List Env) (s : Shared) (H : Hp) (E : XK) (f c' : Addr), Room k (A.deeper (LamX.lamEnv X scope s.heap.objs.size f c')) → PE (lamC X A outer s H E scope f c') body (t E)) (ha : PA X es ta)
    (hdb : (x == ("__debug__" : Str)) = false := by decide) (hst : starEach (.Lambda params body scope lpos :: es) X.env = (false, eval (.Lambda params body scope lpos) X.env) :: starEach es X.env := by rfl)
    (hpl : (backTo pos (starEach es X.env)).any (·.1) = false := by rfl) :
    PE X (.Call (.Name x p) (.Lambda params body scope lpos :: es) [] pos) (tLam2 T (X.env.qual ++ "<lambda>") TT t ta) := by
  refine ⟨fun pins s σ H Q I ⟨hT, h⟩ => wpAny_Call_Name_kw (ld_glob I hg hm ?_ hdb)⟩
  refine PySem.W.callWith_K (h₀ := X.base) I.ok.mod.kin hk ?_ hst hpl
  rw [hst]
  show wpAny _ _ (spliced ((false, eval (.Lambda params body scope lpos) X.env) :: backTo pos (starEach es X.env))) _ _ s
  refine Calls.spliced_cons (LamX.lam_make2 I TB hcode hmT hu hT hdef (L.has I.ok) fun f c' pm ctv H1 s1 I1 eN T1 hf hfn hfr hco => ?_)
  -- the lambda stands while the rest is reckoned
  obtain ⟨nL, nF⟩ := not_frame I1 hf rfl hfr
  have I1p : L2.Inv X (pins ++ [(f, PySem.W.kla_obj "<lambda>" (X.env.qual ++ "<lambda>") params body scope (cloFrom X.env.cells scope.names []) pm c' ctv)]) σ H1 s1 := I1.pins_of fun p hp => by
    rcases List.mem_append.mp hp with z | z
    · exact I1.pin p (List.mem_append_right _ z)
    · rw [List.mem_singleton.mp z]
      exact ⟨hf, hfn, nL, nF, fun v z => nomatch z⟩
  refine thn (ha.run pos _ s1 σ H1 _ I1p (h H1 c' eN T1 hco)) fun us s2 ⟨ys, H2, I2p, r2, hco2, want⟩ => ?_
  have hp2 := I2p.pin (f, _) (List.mem_append_right _ (List.mem_append_right _ (List.mem_singleton.mpr rfl)))
  have I2 : L2.Inv X pins σ H2 s2 := I2p.pins_of fun p hp => I2p.pin p (List.mem_append_right _ (List.mem_append_left _ hp))
  refine ⟨I2.kIn, ?_⟩
  have LA := lam_at (k := k) (tl := fun H' Q' E' => t E' σ H' Q') I2 L hp2.1 hp2.2.1 (fun cl pm cv ctv => hbind _ cl pm cv ctv) fun A outer s' H' E hr' => ⟨t E, hbody A outer s' H' E f c' hr', fun _ z => z⟩
  have GJ := G f c' H2 s2 _ LA
  have hsp : spLam (X.env.qual ++ "<lambda>") TT f c' (fun H' Q' E' => t E' σ H' Q') (.ref f :: ys) H2 Q E0 := ⟨ys, rfl, hco2, want⟩
  have r3 : Vals (V.ref f :: ys) (Value.ref f :: us) := .cons rfl r2
  have b := hb s2 (.ref f :: us) I2.kIn (by rw [List.append_nil, ← r3.length]; exact GJ.len _ _ _ _ hsp)
  rw [List.append_nil] at b
  refine wpAny_call (codeAny_mono (GJ.run X.A X.stack s2 H2 ⟨.ref f :: us, []⟩ (.ref f :: us) (.ref f :: ys) Q hr I2.env0 (Since.refl _ _) b r3 hsp) fun r s' hq => ?_)
  cases r with
  | error e => exact hq.elim
  | ok fl =>
    cases fl with
    | ret u => exact I2.after hq
    | next => exact hq.elim
    | brk => exact hq.elim
    | cont => exact hq.elim
end
end K9
set_option Elab.async false
set_option linter.all false
set_option maxRecDepth 100000
set_option maxHeartbeats 4000000
namespace K9
open PySem PySem.Spec PyProof.Rows L2
/-! ### steps through a reading -/
/-- H a = some o, where H is told by its stores -/
local macro_rules | `(tactic| walk_at "look") => `(tactic| first
  | assumption
  | exact upd_same
  | (refine Eq.trans (upd_ne ?_) ?_ <;> first
      | assumption
      | exact Ne.symm (by assumption)
      | exact ne_nw (by assumption) (by walk_at "look")
      | exact Ne.symm (ne_nw (by assumption) (by walk_at "look"))
      | walk_at "look"))
local macro_rules | `(tactic| walk_at "sq") => `(tactic| first
  | assumption
  | exact SqL.of (by walk_at "look")
  | exact SqT.of (by walk_at "look"))
local macro_rules | `(tactic| walk_at "c") => `(tactic| first
  | decide
  | omega
  | assumption
  | exact Or.inr ⟨by decide, by decide⟩
  | exact ⟨by decide, by decide⟩
  | exact Nat.le_of_ble_eq_true rfl
  | exact line1000 (by assumption)
  | (intro z; omega)
  | (dsimp only; first | assumption | omega)
  | (constructor <;> first | decide | omega))
local macro_rules | `(tactic| walk_at "fl") => `(tactic| first
  | assumption
  | rfl
  | exact flat_ints _
  | decide +kernel
  | (simp only [List.all_map, List.all_cons, List.all_nil]; rfl))
local macro_rules | `(tactic| walk_at "ty") => `(tactic| first
  | exact TyX.base (TyOf.str _)
  | exact TyX.base (TyOf.int _)
  | exact TyX.base (TyOf.bl _)
  | exact TyX.base TyOf.non
  | exact TyX.base (TyOf.tup (by walk_at "look"))
  | exact TyX.base (TyOf.lst (by walk_at "look"))
  | exact TyX.base (TyOf.dK (by walk_at "look")))
local macro_rules | `(tactic| walk_at "kit") => `(tactic| first
  | assumption
  | exact kit_str_bool
  | exact kit_str_int
  | exact kit_str_str
  | exact kit_str_dict
  | exact kit_str_list
  | exact kit_str_tuple
  | exact kit_int_bool
  | exact kit_int_int
  | exact kit_int_str
  | exact kit_int_dict
  | exact kit_int_list
  | exact kit_int_tuple
  | exact kit_bool_bool
  | exact kit_bool_int
  | exact kit_bool_str
  | exact kit_bool_dict
  | exact kit_bool_list
  | exact kit_bool_tuple
  | exact kit_list_bool
  | exact kit_list_int
  | exact kit_list_str
  | exact kit_list_dict
  | exact kit_list_list
  | exact kit_list_tuple
  | exact kit_tuple_bool
  | exact kit_tuple_int
  | exact kit_tuple_str
  | exact kit_tuple_dict
  | exact kit_tuple_list
  | exact kit_tuple_tuple
  | exact kit_dict_bool
  | exact kit_dict_int
  | exact kit_dict_str
  | exact kit_dict_dict
  | exact kit_dict_list
  | exact kit_dict_tuple
  | exact kit_NoneType_bool
  | exact kit_NoneType_int
  | exact kit_NoneType_str
  | exact kit_NoneType_dict
  | exact kit_NoneType_list
  | exact kit_NoneType_tuple)
local macro_rules | `(tactic| walk_at "g") => `(tactic| repeat (first
  | refine gc_i ?_
  | refine ⟨_, rfl, ?_⟩
  | refine ⟨rfl, ?_⟩
  | intro _ _
  | refine ⟨_, _, rfl, rfl, ?_⟩
  | refine ⟨_, _, _, _, rfl, rfl, by walk_at "sq", by first | rfl | assumption, ?_⟩
  | refine And.intro (by walk_at "c") ?_
  | refine iteTk (by decide +kernel) ?_
  | refine iteFk (by decide +kernel) ?_
  | refine iteT ?_
  | refine iteF ?_
  | refine ⟨_, _, _, _, rfl, rfl, by walk_at "look", by rfl, ?_⟩
  | refine Or.inl ⟨_, rfl, ?_⟩
  | refine ⟨_, _, rfl, Or.inl (by walk_at "sq"), ?_⟩
  | refine ⟨_, _, rfl, Or.inr (by walk_at "sq"), ?_⟩
  | refine ⟨_, _, rfl, by walk_at "sq", ?_⟩
  | refine ⟨_, _, rfl, Or.inr (by walk_at "sq"), by rfl, by rfl, ?_⟩
  | refine ⟨_, _, rfl, Or.inl (by walk_at "sq"), by rfl, by rfl, ?_⟩
  | refine ⟨_, _, rfl, by walk_at "look", by rfl, ?_⟩
  | refine ⟨_, _, _, _, _, rfl, by walk_at "look", by assumption, by assumption, by rfl, ?_⟩
  | refine ⟨_, _, _, _, _, rfl, ClsV.ty _, by walk_at "ty", by walk_at "kit", ?_⟩
  | refine rNe_nil (by walk_at "sq") (by walk_at "fl") (by walk_at "sq") ?_
  | refine rEq_nil (by walk_at "sq") (by walk_at "fl") (by walk_at "sq") ?_
  | refine rNe_flat (by walk_at "sq") (by walk_at "sq") (by walk_at "fl") (by walk_at "fl") ?_
  | refine rEq_flat (by walk_at "sq") (by walk_at "sq") (by walk_at "fl") (by walk_at "fl") ?_))
local macro_rules | `(tactic| walk_at "but") => `(tactic| first
  | assumption
  | exact But.refl _ _
  | (refine But.upd ?_; walk_at "but")
  | (refine But.new ?_ (by assumption); walk_at "but"))
local macro_rules | `(tactic| walk_at "same") => `(tactic| first
  | assumption
  | exact Same.refl _
  | (refine Same.new ?_ (by assumption); walk_at "same")
  | (refine Same.trans (by assumption) ?_; walk_at "same"))
local macro_rules | `(tactic| walk_at "x") => `(tactic| (dsimp only [Cx.nox, Cx.wish, cxOf, L2H.cxH]))
/-- what the top has left of the errors' classes; CB: BadLook -/
structure Er (K : PySem.W.Frag) (mg : Str → Option Value) : Prop where
  m_BadNumber : mg "BadNumber" = some (.ref (He.ga K "BadNumber"))
  m_BadFloor : mg "BadFloor" = some (.ref (He.ga K "BadFloor"))
  m_NotFloor : mg "NotFloor" = some (.ref (He.ga K "NotFloor"))
  m_BadPiece : mg "BadPiece" = some (.ref (He.ga K "BadPiece"))
  m_BadTally : mg "BadTally" = some (.ref (He.ga K "BadTally"))
  m_BadTurning : mg "BadTurning" = some (.ref (He.ga K "BadTurning"))
  m_BadMap : mg "BadMap" = some (.ref (He.ga K "BadMap"))
  m_BadLook : mg "BadLook" = some (.ref (He.ga K "BadLook"))
  m_BadSaying : mg "BadSaying" = some (.ref (He.ga K "BadSaying"))
  m_BadBook : mg "BadBook" = some (.ref (He.ga K "BadBook"))
  m_BadVerdict : mg "BadVerdict" = some (.ref (He.ga K "BadVerdict"))
  m_BadLayers : mg "BadLayers" = some (.ref (He.ga K "BadLayers"))
  m_NotLayers : mg "NotLayers" = some (.ref (He.ga K "NotLayers"))
  m_BadCover : mg "BadCover" = some (.ref (He.ga K "BadCover"))
  m_BadMeasure : mg "BadMeasure" = some (.ref (He.ga K "BadMeasure"))
  m_BadScript : mg "BadScript" = some (.ref (He.ga K "BadScript"))
  m_Unlike : mg "Unlike" = some (.ref (He.ga K "Unlike"))
  m_OutOf : mg "OutOf" = some (.ref (He.ga K "OutOf"))
  m_TooMany : mg "TooMany" = some (.ref (He.ga K "TooMany"))
  m_NoSuch : mg "NoSuch" = some (.ref (He.ga K "NoSuch"))
  m_Ended : mg "Ended" = some (.ref (He.ga K "Ended"))
  m_EveryError : mg "EveryError" = some (.ref (He.ga K "EveryError"))
  k_BadNumber : PySem.W.kitOne K (.ref (He.ga K "BadLook")) (.ref (He.ga K "BadNumber")) = some false
  k_BadFloor : PySem.W.kitOne K (.ref (He.ga K "BadLook")) (.ref (He.ga K "BadFloor")) = some false
  k_NotFloor : PySem.W.kitOne K (.ref (He.ga K "BadLook")) (.ref (He.ga K "NotFloor")) = some false
  k_BadPiece : PySem.W.kitOne K (.ref (He.ga K "BadLook")) (.ref (He.ga K "BadPiece")) = some false
  k_BadTally : PySem.W.kitOne K (.ref (He.ga K "BadLook")) (.ref (He.ga K "BadTally")) = some false
  k_BadTurning : PySem.W.kitOne K (.ref (He.ga K "BadLook")) (.ref (He.ga K "BadTurning")) = some false
  k_BadMap : PySem.W.kitOne K (.ref (He.ga K "BadLook")) (.ref (He.ga K "BadMap")) = some false
  k_BadLook : PySem.W.kitOne K (.ref (He.ga K "BadLook")) (.ref (He.ga K "BadLook")) = some true
  k_BadSaying : PySem.W.kitOne K (.ref (He.ga K "BadLook")) (.ref (He.ga K "BadSaying")) = some false
  k_BadBook : PySem.W.kitOne K (.ref (He.ga K "BadLook")) (.ref (He.ga K "BadBook")) = some false
  k_BadVerdict : PySem.W.kitOne K (.ref (He.ga K "BadLook")) (.ref (He.ga K "BadVerdict")) = some false
  k_BadLayers : PySem.W.kitOne K (.ref (He.ga K "BadLook")) (.ref (He.ga K "BadLayers")) = some false
  k_NotLayers : PySem.W.kitOne K (.ref (He.ga K "BadLook")) (.ref (He.ga K "NotLayers")) = some false
  k_BadCover : PySem.W.kitOne K (.ref (He.ga K "BadLook")) (.ref (He.ga K "BadCover")) = some false
  k_BadMeasure : PySem.W.kitOne K (.ref (He.ga K "BadLook")) (.ref (He.ga K "BadMeasure")) = some false
  k_BadScript : PySem.W.kitOne K (.ref (He.ga K "BadLook")) (.ref (He.ga K "BadScript")) = some false
  k_Unlike : PySem.W.kitOne K (.ref (He.ga K "BadLook")) (.ref (He.ga K "Unlike")) = some false
  k_OutOf : PySem.W.kitOne K (.ref (He.ga K "BadLook")) (.ref (He.ga K "OutOf")) = some false
  k_TooMany : PySem.W.kitOne K (.ref (He.ga K "BadLook")) (.ref (He.ga K "TooMany")) = some false
  k_NoSuch : PySem.W.kitOne K (.ref (He.ga K "BadLook")) (.ref (He.ga K "NoSuch")) = some false
  k_Ended : PySem.W.kitOne K (.ref (He.ga K "BadLook")) (.ref (He.ga K "Ended")) = some false
  k_EveryError : PySem.W.kitOne K (.ref (He.ga K "BadLook")) (.ref (He.ga K "EveryError")) = some true
  k_ValueError : PySem.W.kitOne K (.ref (He.ga K "BadLook")) (.type "ValueError") = some true
  k_LookupError : PySem.W.kitOne K (.ref (He.ga K "BadLook")) (.type "LookupError") = some false
  k_KeyError : PySem.W.kitOne K (.ref (He.ga K "BadLook")) (.type "KeyError") = some false
  k_IndexError : PySem.W.kitOne K (.ref (He.ga K "BadLook")) (.type "IndexError") = some false
  k_RuntimeError : PySem.W.kitOne K (.ref (He.ga K "BadLook")) (.type "RuntimeError") = some false
  f_ValueError : mg "ValueError" = none
  f_LookupError : mg "LookupError" = none
  f_KeyError : mg "KeyError" = none
  f_IndexError : mg "IndexError" = none
  f_RuntimeError : mg "RuntimeError" = none
  oex : OexC K (He.ga K "BadLook")
  xf : XfC K (He.ga K "BadLook")
  ec : ExcC K (He.ga K "BadLook")
  nat : PySem.W.findIn K (.ref (He.ga K "BadLook")) "at" = some none
  nwhy : PySem.W.findIn K (.ref (He.ga K "BadLook")) "why" = some none
  exm : PySem.W.exmOne K (.ref (He.ga K "BadLook")) (.ref (He.ga K "EveryError")) = some true
/-! ### BadLook(at, why) -/
abbrev s_binit : Stmt := (inClass (top 9) 0)
def spBad (K : PySem.W.Frag) : Sp := fun vs H Q _ => ∃ (a C : Addr) (x y : V), vs = [.ref a, x, y] ∧ H a = some (exo a C none) ∧ OexC K C ∧ PySem.W.findIn K (.ref C) "at" = some none ∧ PySem.W.findIn K (.ref C) "why" = some none ∧
  ∀ d, H d = none → d ≠ a → Q .non (upd (upd (upd H d (exd d [("at", x)])) a (exo a C (some d))) d (exd d [("why", y), ("at", x)]))
theorem scBad : FnScope ["self", "at", "why"] ["self", "at", "why"] (defScope (inClass (top 9) 0)) := ⟨rfl, rfl, rfl, by decide +kernel, rfl, by decide +kernel, by decide +kernel⟩
section
variable {P : Program} {w : World} {K : PySem.W.Frag} {mg : Str → Option Value} {base : Heap} {f : Addr} {fd : FuncData}
theorem ok_bad (F : FnP K "__init__" "BadLook.__init__" s_binit [] f fd) : FnOk P w K mg base CX0 1 f fd ["self", "at", "why"] (spBad K) := by
  refine F.ok scBad (fun vs H Q E h => ?_) (fun cdv A outer s H vs Q E hr h => ?_)
  · obtain ⟨a, C, x, y, rfl, _⟩ := h
    rfl
  · obtain ⟨a, C, x, y, rfl, ha, T, n1, n2, k⟩ := h
    refine ⟨_, PSs.nox (pss_cons (ps_ost (pv 0) (pv 1)) (pss_one (ps_ost (pv 0) (pv 2)))), ?_⟩
    refine ⟨_, rfl, _, rfl, a, C, rfl, T, n1, .inl ⟨ha, fun d nd ne => ?_⟩⟩
    refine ⟨_, rfl, _, rfl, a, C, rfl, T, n2, .inr ⟨d, _, upd_same, ?_, by show 1 ≤ 900; decide, k d nd ne⟩⟩
    exact (upd_ne ne).trans upd_same
/-! ### the marks of an error -/
structure TupsAt (H : Hp) (as : List Addr) (ms : List (Str × Bool)) : Prop where
  len : as.length = ms.length
  at_ : ∀ (i : Nat) (a : Addr) (m : Str × Bool), as[i]? = some a → ms[i]? = some m → H a = some (.tup [.str m.1, .bl m.2])
theorem TupsAt.same {H H' : Hp} {as : List Addr} {ms : List (Str × Bool)} (t : TupsAt H as ms) (s : Same H H') : TupsAt H' as ms := ⟨t.len, fun i a m h1 h2 => s _ _ (t.at_ i a m h1 h2)⟩
abbrev Marks (t : TA) (σ : L2.St) (dd : Addr) (fs : List (Str × V)) (ms : List (Str × Bool)) : Prop := ∀ (H : Hp) (Q : List V → Hp → Prop), H dd = some (.xd fs) → (∀ as H', Same H H' → TupsAt H' as ms → Q (as.map V.ref) H') → t σ H Q
abbrev Mark (t : TE) (σ : L2.St) (dd : Addr) (fs : List (Str × V)) (x : Str) (b : Bool) : Prop := ∀ (H : Hp) (Q : VK), H dd = some (.xd fs) → (∀ a H', Same H H' → H' a = some (.tup [.str x, .bl b]) → Q (.ref a) H') → t σ H Q
theorem marks_nil {σ : L2.St} {dd : Addr} {fs : List (Str × V)} : Marks tNil σ dd fs [] := fun H Q _ k => k [] H (Same.refl H) ⟨rfl, fun i a m h => by simp at h⟩
theorem marks_cons {σ : L2.St} {dd : Addr} {fs : List (Str × V)} {te : TE} {t : TA} {x : Str} {b : Bool} {ms : List (Str × Bool)} (h : Mark te σ dd fs x b) (r : Marks t σ dd fs ms) : Marks (tCons te t) σ dd fs ((x, b) :: ms) := fun H Q hd k =>
  h H _ hd fun a H1 s1 e1 => r H1 _ (s1 _ _ hd) fun as H2 s2 t2 => k (a :: as) H2 (s1.trans s2) ⟨congrArg Nat.succ t2.len, fun i a' m h1 h2 => by
    cases i with
    | zero =>
      cases Option.some.inj h1
      cases Option.some.inj h2
      exact s2 _ _ e1
    | succ i => exact t2.at_ i a' m h1 h2⟩
theorem mark_read {σ : L2.St} {dd a D : Addr} {fs : List (Str × V)} {x : Str} {b : Bool} {i : Nat} {c : V} {cv : Value} (h0 : σ[i]? = some (some (.ref a))) (hc : ∀ u, RelV c u → u = cv) (k : PySem.W.kitOne K (.ref D) cv = some b) :
    Mark (tTup (tCons (tC (.str x)) (tCons (tCB (rIsP K D dd a) (tCons (tVar i) (tCons (tC c) tNil))) tNil))) σ dd fs x b := fun H Q hd q =>
  ⟨_, h0, c, cv, b, fs, rfl, hd, hc, k, by show 2 ≤ sizeLine; decide, fun p np => q p _ (Same.new (Same.refl H) np) upd_same⟩
theorem set_marks {σ : L2.St} {dd : Addr} {fs : List (Str × V)} {t : TA} {u : TS} {i : Nat} {ms : List (Str × Bool)} {H : Hp} {D : Ends} (hd : H dd = some (.xd fs)) (hl : ms.length ≤ 1000) (hM : Marks t σ dd fs ms)
    (k : ∀ l as H', Same H H' → TupsAt H' as ms → H' l = some (.lst (as.map V.ref)) → u D (σ.set i (some (.ref l))) H') : tSeq (tAsg (tLst t) (gName i)) u D σ H :=
  hM H _ hd fun as H1 s1 t1 => ⟨by rw [List.length_map, t1.len]; exact Nat.le_of_lt (small1000 hl), fun l nl => k l as _ (Same.new s1 nl) (t1.same (Same.new (Same.refl _) nl)) upd_same⟩
theorem comp_marks {D : Ends} {H : Hp} {l : Addr} {as : List Addr} {ms : List (Str × Bool)} {x : V} (t : TupsAt H as ms) (hl : H l = some (.lst (as.map V.ref))) (hz : ms.length ≤ 1000)
    (k : ∀ L H', Same H H' → H' L = some (.lst ((ms.filter (·.2)).map fun m => V.str m.1)) → D.rt (.ref L) H') :
    tRet (tLcH K (tVar 1) (gTup K 2 (gCons (gName 2) (gCons (gName 3) gNil))) (tB (tVar 3)) (tVar 2) [2, 3]) D [some x, some (.ref l), none, none] H := by
  refine ⟨.ref l, rfl, l, as.map V.ref, rfl, SqL.of hl, fun L nL => ⟨fun i H' => Same H H' ∧ H' L = some (.lst (((ms.take i).filter (·.2)).map fun m => V.str m.1)), ⟨Same.new (Same.refl H) nL, upd_same⟩, fun i H' _ p => SqL.of (p.1 _ _ hl), fun i z H' hz' p => ?_, fun H' p => ?_⟩⟩
  · obtain ⟨s1, e1⟩ := p
    rw [List.getElem?_map] at hz'
    cases ha : as[i]? with
    | none =>
      rw [ha] at hz'
      cases hz'
    | some a =>
      rw [ha] at hz'
      cases Option.some.inj hz'
      have hi : i < ms.length := by
        rw [← t.len]
        exact (List.getElem?_eq_some_iff.mp ha).1
      obtain ⟨m, hm⟩ : ∃ m, ms[i]? = some m := ⟨ms[i], List.getElem?_eq_getElem hi⟩
      have et := s1 _ _ (t.at_ i a m ha hm)
      have tk : ms.take (i + 1) = ms.take i ++ [m] := by rw [List.take_succ, hm]; rfl
      refine ⟨a, _, rfl, SqT.of et, rfl, _, _, rfl, _, _, rfl, rfl, rfl, _, rfl, m.2, rfl, ?_⟩
      refine iteB (fun hb => ?_) (fun hb => ?_)
      · have fe : ((ms.take (i + 1)).filter (·.2)).map (fun m => V.str m.1) = ((ms.take i).filter (·.2)).map (fun m => V.str m.1) ++ [V.str m.1] := by
          rw [tk, List.filter_append, List.map_append, List.filter_cons, if_pos hb]
          rfl
        refine ⟨_, rfl, _, e1, ?_, fun c o hc => (upd_ne (ne_of_none hc nL)).trans (s1 c o hc), ?_⟩
        · rw [List.length_map]
          exact small1000 (Nat.le_trans (List.length_filter_le _ _) (by rw [List.length_take]; omega))
        · rw [fe]
          exact upd_same
      · have fe : ((ms.take (i + 1)).filter (·.2)).map (fun m => V.str m.1) = ((ms.take i).filter (·.2)).map (fun m => V.str m.1) := by
          rw [tk, List.filter_append, List.map_append, List.filter_cons, if_neg (by rw [hb]; exact Bool.false_ne_true)]
          simp
        exact ⟨s1, by rw [fe]; exact e1⟩
  · obtain ⟨s1, e1⟩ := p
    refine k L H' s1 ?_
    rw [e1, List.length_map, t.len, List.take_length]
abbrev s_classes : Stmt := (top 45)
abbrev s_caught : Stmt := (top 46)
theorem scClasses : FnScope ["error", "marks", "tag", "yes"] ["error"] (defScope (top 45)) := ⟨rfl, rfl, rfl, by decide +kernel, rfl, by decide +kernel, by decide +kernel⟩
theorem scCaught : FnScope ["error", "tags"] ["error"] (defScope (top 46)) := ⟨rfl, rfl, rfl, by decide +kernel, rfl, by decide +kernel, by decide +kernel⟩
/-- the error p is a BadLook with these fields -/
def IsBad (K : PySem.W.Frag) (H : Hp) (p : Addr × Obj) (n : Int) (y : Str) : Prop := ∃ dd, ErrP p (He.ga K "BadLook") dd ∧ H dd = some (.xd [("why", .str y), ("at", .int n)])
def spClasses (K : PySem.W.Frag) : Addr × Obj → Sp := fun p vs H Q _ => ∃ n y, vs = [.ref p.1] ∧ IsBad K H p n y ∧ ∀ l H', Same H H' → H' l = some (.lst [.str "BadLook", .str "EveryError", .str "ValueError"]) → Q (.ref l) H'
theorem ok_classes (Z : Free mg) (ER : Er K mg) (F : FnP K "_law_classes" "_law_classes" s_classes [] f fd) : FnE P w K mg base 1 f fd ["error"] (spClasses K) := by
  refine fnE_of F scClasses (fun p vs H Q E h => ?_) (fun cdv A outer s H vs Q p hot hr h => ?_)
  · obtain ⟨n, y, rfl, _⟩ := h
    rfl
  · obtain ⟨n, y, rfl, ⟨dd, G, hd⟩, k⟩ := h
    have hp : p ∈ (L2H.cxH CX0 P w K mg base ["error", "marks", "tag", "yes"] "_law_classes" (defScope s_classes) f cdv A outer s H E0 p).nox.pn := List.mem_singleton.mpr rfl
    have hc : L2H.HotC (L2H.cxH CX0 P w K mg base ["error", "marks", "tag", "yes"] "_law_classes" (defScope s_classes) f cdv A outer s H E0 p).nox := ⟨p, hot, hp⟩
    refine ⟨_, (pss_cons (ps_set (i := 1) scClasses.nd rfl (Or.inl rfl) (pe_lst (pa_cons (pe_tup (pa_cons pe_str (pa_cons (pe_callB (call_isP ER.ec G hp) (by rfl) Z.isinstance (by decide +kernel) (pa_cons (pv 0) (pa_cons (pe_glob (v := .ref _) rfl ER.m_BadNumber rfl) pa_nil))) pa_nil))) (pa_cons (pe_tup (pa_cons pe_str (pa_cons (pe_callB (call_isP ER.ec G hp) (by rfl) Z.isinstance (by decide +kernel) (pa_cons (pv 0) (pa_cons (pe_glob (v := .ref _) rfl ER.m_BadFloor rfl) pa_nil))) pa_nil))) (pa_cons (pe_tup (pa_cons pe_str (pa_cons (pe_callB (call_isP ER.ec G hp) (by rfl) Z.isinstance (by decide +kernel) (pa_cons (pv 0) (pa_cons (pe_glob (v := .ref _) rfl ER.m_NotFloor rfl) pa_nil))) pa_nil))) (pa_cons (pe_tup (pa_cons pe_str (pa_cons (pe_callB (call_isP ER.ec G hp) (by rfl) Z.isinstance (by decide +kernel) (pa_cons (pv 0) (pa_cons (pe_glob (v := .ref _) rfl ER.m_BadPiece rfl) pa_nil))) pa_nil))) (pa_cons (pe_tup (pa_cons pe_str (pa_cons (pe_callB (call_isP ER.ec G hp) (by rfl) Z.isinstance (by decide +kernel) (pa_cons (pv 0) (pa_cons (pe_glob (v := .ref _) rfl ER.m_BadTally rfl) pa_nil))) pa_nil))) (pa_cons (pe_tup (pa_cons pe_str (pa_cons (pe_callB (call_isP ER.ec G hp) (by rfl) Z.isinstance (by decide +kernel) (pa_cons (pv 0) (pa_cons (pe_glob (v := .ref _) rfl ER.m_BadTurning rfl) pa_nil))) pa_nil))) (pa_cons (pe_tup (pa_cons pe_str (pa_cons (pe_callB (call_isP ER.ec G hp) (by rfl) Z.isinstance (by decide +kernel) (pa_cons (pv 0) (pa_cons (pe_glob (v := .ref _) rfl ER.m_BadMap rfl) pa_nil))) pa_nil))) (pa_cons (pe_tup (pa_cons pe_str (pa_cons (pe_callB (call_isP ER.ec G hp) (by rfl) Z.isinstance (by decide +kernel) (pa_cons (pv 0) (pa_cons (pe_glob (v := .ref _) rfl ER.m_BadLook rfl) pa_nil))) pa_nil))) (pa_cons (pe_tup (pa_cons pe_str (pa_cons (pe_callB (call_isP ER.ec G hp) (by rfl) Z.isinstance (by decide +kernel) (pa_cons (pv 0) (pa_cons (pe_glob (v := .ref _) rfl ER.m_BadSaying rfl) pa_nil))) pa_nil))) (pa_cons (pe_tup (pa_cons pe_str (pa_cons (pe_callB (call_isP ER.ec G hp) (by rfl) Z.isinstance (by decide +kernel) (pa_cons (pv 0) (pa_cons (pe_glob (v := .ref _) rfl ER.m_BadBook rfl) pa_nil))) pa_nil))) (pa_cons (pe_tup (pa_cons pe_str (pa_cons (pe_callB (call_isP ER.ec G hp) (by rfl) Z.isinstance (by decide +kernel) (pa_cons (pv 0) (pa_cons (pe_glob (v := .ref _) rfl ER.m_BadVerdict rfl) pa_nil))) pa_nil))) (pa_cons (pe_tup (pa_cons pe_str (pa_cons (pe_callB (call_isP ER.ec G hp) (by rfl) Z.isinstance (by decide +kernel) (pa_cons (pv 0) (pa_cons (pe_glob (v := .ref _) rfl ER.m_BadLayers rfl) pa_nil))) pa_nil))) (pa_cons (pe_tup (pa_cons pe_str (pa_cons (pe_callB (call_isP ER.ec G hp) (by rfl) Z.isinstance (by decide +kernel) (pa_cons (pv 0) (pa_cons (pe_glob (v := .ref _) rfl ER.m_NotLayers rfl) pa_nil))) pa_nil))) (pa_cons (pe_tup (pa_cons pe_str (pa_cons (pe_callB (call_isP ER.ec G hp) (by rfl) Z.isinstance (by decide +kernel) (pa_cons (pv 0) (pa_cons (pe_glob (v := .ref _) rfl ER.m_BadCover rfl) pa_nil))) pa_nil))) (pa_cons (pe_tup (pa_cons pe_str (pa_cons (pe_callB (call_isP ER.ec G hp) (by rfl) Z.isinstance (by decide +kernel) (pa_cons (pv 0) (pa_cons (pe_glob (v := .ref _) rfl ER.m_BadMeasure rfl) pa_nil))) pa_nil))) (pa_cons (pe_tup (pa_cons pe_str (pa_cons (pe_callB (call_isP ER.ec G hp) (by rfl) Z.isinstance (by decide +kernel) (pa_cons (pv 0) (pa_cons (pe_glob (v := .ref _) rfl ER.m_BadScript rfl) pa_nil))) pa_nil))) (pa_cons (pe_tup (pa_cons pe_str (pa_cons (pe_callB (call_isP ER.ec G hp) (by rfl) Z.isinstance (by decide +kernel) (pa_cons (pv 0) (pa_cons (pe_glob (v := .ref _) rfl ER.m_Unlike rfl) pa_nil))) pa_nil))) (pa_cons (pe_tup (pa_cons pe_str (pa_cons (pe_callB (call_isP ER.ec G hp) (by rfl) Z.isinstance (by decide +kernel) (pa_cons (pv 0) (pa_cons (pe_glob (v := .ref _) rfl ER.m_OutOf rfl) pa_nil))) pa_nil))) (pa_cons (pe_tup (pa_cons pe_str (pa_cons (pe_callB (call_isP ER.ec G hp) (by rfl) Z.isinstance (by decide +kernel) (pa_cons (pv 0) (pa_cons (pe_glob (v := .ref _) rfl ER.m_TooMany rfl) pa_nil))) pa_nil))) (pa_cons (pe_tup (pa_cons pe_str (pa_cons (pe_callB (call_isP ER.ec G hp) (by rfl) Z.isinstance (by decide +kernel) (pa_cons (pv 0) (pa_cons (pe_glob (v := .ref _) rfl ER.m_NoSuch rfl) pa_nil))) pa_nil))) (pa_cons (pe_tup (pa_cons pe_str (pa_cons (pe_callB (call_isP ER.ec G hp) (by rfl) Z.isinstance (by decide +kernel) (pa_cons (pv 0) (pa_cons (pe_glob (v := .ref _) rfl ER.m_Ended rfl) pa_nil))) pa_nil))) (pa_cons (pe_tup (pa_cons pe_str (pa_cons (pe_callB (call_isP ER.ec G hp) (by rfl) Z.isinstance (by decide +kernel) (pa_cons (pv 0) (pa_cons (pe_glob (v := .ref _) rfl ER.m_EveryError rfl) pa_nil))) pa_nil))) (pa_cons (pe_tup (pa_cons pe_str (pa_cons (pe_callB (call_isP ER.ec G hp) (by rfl) Z.isinstance (by decide +kernel) (pa_cons (pv 0) (pa_cons (pe_bltn (v := .ty "ValueError") (by rfl) ER.f_ValueError (by decide +kernel) rfl) pa_nil))) pa_nil))) (pa_cons (pe_tup (pa_cons pe_str (pa_cons (pe_callB (call_isP ER.ec G hp) (by rfl) Z.isinstance (by decide +kernel) (pa_cons (pv 0) (pa_cons (pe_bltn (v := .ty "LookupError") (by rfl) ER.f_LookupError (by decide +kernel) rfl) pa_nil))) pa_nil))) (pa_cons (pe_tup (pa_cons pe_str (pa_cons (pe_callB (call_isP ER.ec G hp) (by rfl) Z.isinstance (by decide +kernel) (pa_cons (pv 0) (pa_cons (pe_bltn (v := .ty "KeyError") (by rfl) ER.f_KeyError (by decide +kernel) rfl) pa_nil))) pa_nil))) (pa_cons (pe_tup (pa_cons pe_str (pa_cons (pe_callB (call_isP ER.ec G hp) (by rfl) Z.isinstance (by decide +kernel) (pa_cons (pv 0) (pa_cons (pe_bltn (v := .ty "IndexError") (by rfl) ER.f_IndexError (by decide +kernel) rfl) pa_nil))) pa_nil))) (pa_cons (pe_tup (pa_cons pe_str (pa_cons (pe_callB (call_isP ER.ec G hp) (by rfl) Z.isinstance (by decide +kernel) (pa_cons (pv 0) (pa_cons (pe_bltn (v := .ty "RuntimeError") (by rfl) ER.f_RuntimeError (by decide +kernel) rfl) pa_nil))) pa_nil))) pa_nil)))))))))))))))))))))))))))))
      (pss_one (ps_ret (pe_lcH (own := [("tag", 2), ("yes", 3)]) (g := (gTup K 2 (gCons (gName 2) (gCons (gName 3) gNil)))) hc scClasses.nd (pv 1) (blkOk_by (own := [("tag", 2), ("yes", 3)]) (N := ["error", "marks", "tag", "yes"]) (sc := defScope (top 45)) (by decide +kernel)) (fun _ _ _ _ _ hs => (pg_tupH hs (pgs_cons (pg_name (i := 2) scClasses.nd rfl (Or.inl rfl)) (pgs_cons (pg_name (i := 3) scClasses.nd rfl (Or.inl rfl)) pgs_nil)))) (fun _ _ _ _ _ hs => (pts_one (pt_val (pv 3)))) (fun _ _ _ _ _ hs => (pv 2)))))), ?_⟩
    refine set_marks (ms := [("BadNumber", false), ("BadFloor", false), ("NotFloor", false), ("BadPiece", false), ("BadTally", false), ("BadTurning", false), ("BadMap", false), ("BadLook", true), ("BadSaying", false), ("BadBook", false), ("BadVerdict", false), ("BadLayers", false), ("NotLayers", false), ("BadCover", false), ("BadMeasure", false), ("BadScript", false), ("Unlike", false), ("OutOf", false), ("TooMany", false), ("NoSuch", false), ("Ended", false), ("EveryError", true), ("ValueError", true), ("LookupError", false), ("KeyError", false), ("IndexError", false), ("RuntimeError", false)]) hd (by decide) ?_ (fun l as H1 s1 t1 e1 => ?_)
    · refine marks_cons (mark_read rfl (fun u r => r) ER.k_BadNumber) ?_
      refine marks_cons (mark_read rfl (fun u r => r) ER.k_BadFloor) ?_
      refine marks_cons (mark_read rfl (fun u r => r) ER.k_NotFloor) ?_
      refine marks_cons (mark_read rfl (fun u r => r) ER.k_BadPiece) ?_
      refine marks_cons (mark_read rfl (fun u r => r) ER.k_BadTally) ?_
      refine marks_cons (mark_read rfl (fun u r => r) ER.k_BadTurning) ?_
      refine marks_cons (mark_read rfl (fun u r => r) ER.k_BadMap) ?_
      refine marks_cons (mark_read rfl (fun u r => r) ER.k_BadLook) ?_
      refine marks_cons (mark_read rfl (fun u r => r) ER.k_BadSaying) ?_
      refine marks_cons (mark_read rfl (fun u r => r) ER.k_BadBook) ?_
      refine marks_cons (mark_read rfl (fun u r => r) ER.k_BadVerdict) ?_
      refine marks_cons (mark_read rfl (fun u r => r) ER.k_BadLayers) ?_
      refine marks_cons (mark_read rfl (fun u r => r) ER.k_NotLayers) ?_
      refine marks_cons (mark_read rfl (fun u r => r) ER.k_BadCover) ?_
      refine marks_cons (mark_read rfl (fun u r => r) ER.k_BadMeasure) ?_
      refine marks_cons (mark_read rfl (fun u r => r) ER.k_BadScript) ?_
      refine marks_cons (mark_read rfl (fun u r => r) ER.k_Unlike) ?_
      refine marks_cons (mark_read rfl (fun u r => r) ER.k_OutOf) ?_
      refine marks_cons (mark_read rfl (fun u r => r) ER.k_TooMany) ?_
      refine marks_cons (mark_read rfl (fun u r => r) ER.k_NoSuch) ?_
      refine marks_cons (mark_read rfl (fun u r => r) ER.k_Ended) ?_
      refine marks_cons (mark_read rfl (fun u r => r) ER.k_EveryError) ?_
      refine marks_cons (mark_read rfl (fun u r => r) ER.k_ValueError) ?_
      refine marks_cons (mark_read rfl (fun u r => r) ER.k_LookupError) ?_
      refine marks_cons (mark_read rfl (fun u r => r) ER.k_KeyError) ?_
      refine marks_cons (mark_read rfl (fun u r => r) ER.k_IndexError) ?_
      refine marks_cons (mark_read rfl (fun u r => r) ER.k_RuntimeError) ?_
      exact marks_nil
    · refine comp_marks t1 e1 (by decide) fun L H2 s2 e2 => k L H2 (s1.trans s2) (e2.trans ?_)
      rfl
def spCaught (K : PySem.W.Frag) : Addr × Obj → Sp := fun p vs H Q _ => ∃ n y, vs = [.ref p.1] ∧ IsBad K H p n y ∧ ¬ (y = "") ∧ y.length ≤ 1000 ∧ ∀ l H', Same H H' → H' l = some (.tup [.str "BadLook", .int n]) → Q (.ref l) H'
theorem ok_caught (Z : Free mg) (ER : Er K mg) (F : FnP K "_law_caught" "_law_caught" s_caught [] f fd) {f1 : Addr} {fd1 : FuncData} (G1 : FnE P w K mg base 1 f1 fd1 ["error"] (spClasses K)) (m1 : mg "_law_classes" = some (.ref f1)) (k1 : PySem.W.keepIn K (.ref f1) = true) (b1 : Binds K fd1 ["error"] []) :
    FnE P w K mg base 2 f fd ["error"] (spCaught K) := by
  refine fnE_of F scCaught (fun p vs H Q E h => ?_) (fun cdv A outer s H vs Q p hot hr h => ?_)
  · obtain ⟨n, y, rfl, _⟩ := h
    rfl
  · obtain ⟨n, y, rfl, ⟨dd, G, hd⟩, hy, hl, k⟩ := h
    have hp : p ∈ (L2H.cxH CX0 P w K mg base ["error", "tags"] "_law_caught" (defScope s_caught) f cdv A outer s H E0 p).nox.pn := List.mem_singleton.mpr rfl
    have hu64 : (A.deeper (envOfC "_law_caught" (defScope s_caught) s.heap.objs.size f cdv)).units + 64 < cLine := by have := hr.un; omega
    refine ⟨_, (pss_cons (ps_set (i := 1) scCaught.nd rfl (Or.inl rfl) (pe_callE G1 hr hot hp rfl m1 k1 b1 (pa_cons (pv 0) pa_nil)))
      (pss_cons (ps_if (PW.pt (pw_or (pt_cmpR op_ne (pe_callB call_len_seq (by rfl) Z.len PySem.boot_len (pa_cons (pv 1) pa_nil)) pe_int (nomark _)) (pw_or1 (pt_cmpR (op_neD hu64) (pe_slice sl_list (pv 1) (po_some pe_int) po_none) (pe_lst (pa_cons pe_str (pa_cons pe_str pa_nil))) (nomark _))))) 
        (pss_one ps_never) pss_nil)
      (pss_cons (ps_if (PW.pt (pw_and (pt_cmpR op_eq (pe_slice sl_str (pe_ix ix_list (pv 1) pe_int (fun _ _ => rfl)) po_none (po_some pe_int)) pe_str (nomark _)) (pw_and1 (PW.pt (pw_or (pt_not (pt_val (pe_callB call_isi (by rfl) Z.isinstance (by decide +kernel) (pa_cons (pe_fldP ER.xf ER.nwhy G hp (pv 0)) (pa_cons (pe_bltn (v := .ty "str") (by rfl) Z.str (by decide +kernel) rfl) pa_nil))))) (pw_or1 (pt_cmpR op_eq (pe_fldP ER.xf ER.nwhy G hp (pv 0)) pe_str (nomark _)))))))) 
        (pss_one ps_never) pss_nil)
      (pss_cons (ps_if (pt_cmpR op_in_seq (pe_ix ix_list (pv 1) pe_int (fun _ _ => rfl)) (pe_tup (pa_cons pe_str (pa_cons pe_str pa_nil))) (by rfl)) 
        (pss_one ps_never) pss_nil)
      (pss_cons (ps_if (pt_cmpR op_in_seq (pe_ix ix_list (pv 1) pe_int (fun _ _ => rfl)) (pe_tup (pa_cons pe_str (pa_cons pe_str pa_nil))) (by rfl)) 
        (pss_one ps_never) pss_nil)
      (pss_cons (ps_if (pt_cmpR op_in_seq (pe_ix ix_list (pv 1) pe_int (fun _ _ => rfl)) (pe_tup (pa_cons pe_str (pa_cons pe_str pa_nil))) (by rfl)) 
        (pss_one ps_never) pss_nil)
      (pss_one (ps_ret (pe_ifExp (pt_cmpR op_eq (pe_ix ix_list (pv 1) pe_int (fun _ _ => rfl)) pe_str (nomark _)) (pe_tup (pa_cons (pe_ix ix_list (pv 1) pe_int (fun _ _ => rfl)) (pa_cons (pe_fldP ER.xf ER.nat G hp (pv 0)) pa_nil))) pe_never))))))))), ?_⟩
    walk_at "x"
    walk_at "g"
    refine ⟨n, y, rfl, ⟨dd, G, hd⟩, fun l H1 s1 e1 => ?_⟩
    have hd1 := s1 _ _ hd
    walk_at "g"
    refine iteB (fun hb => absurd (V.str.inj (of_decide_eq_true hb)) hy) (fun _ => ?_)
    walk_at "g"
    exact k _ _ (by walk_at "same") upd_same
end
end K9
set_option Elab.async false
set_option linter.all false
set_option maxRecDepth 100000
set_option maxHeartbeats 4000000
namespace K9
open PySem PySem.Spec PyProof.Rows L2
/-! ### steps through a reading -/
/-- H a = some o, where H is told by its stores -/
local macro_rules | `(tactic| walk_at "look") => `(tactic| first
  | assumption
  | exact upd_same
  | (refine Eq.trans (upd_ne ?_) ?_ <;> first
      | assumption
      | exact Ne.symm (by assumption)
      | exact ne_nw (by assumption) (by walk_at "look")
      | exact Ne.symm (ne_nw (by assumption) (by walk_at "look"))
      | walk_at "look"))
local macro_rules | `(tactic| walk_at "sq") => `(tactic| first
  | assumption
  | exact SqL.of (by walk_at "look")
  | exact SqT.of (by walk_at "look"))
local macro_rules | `(tactic| walk_at "c") => `(tactic| first
  | decide
  | omega
  | assumption
  | exact Or.inr ⟨by decide, by decide⟩
  | exact ⟨by decide, by decide⟩
  | exact Nat.le_of_ble_eq_true rfl
  | exact line1000 (by assumption)
  | (intro z; omega)
  | (dsimp only; first | assumption | omega)
  | (constructor <;> first | decide | omega))
local macro_rules | `(tactic| walk_at "fl") => `(tactic| first
  | assumption
  | rfl
  | exact flat_ints _
  | decide +kernel
  | (simp only [List.all_map, List.all_cons, List.all_nil]; rfl))
local macro_rules | `(tactic| walk_at "ty") => `(tactic| first
  | exact TyX.base (TyOf.str _)
  | exact TyX.base (TyOf.int _)
  | exact TyX.base (TyOf.bl _)
  | exact TyX.base TyOf.non
  | exact TyX.base (TyOf.tup (by walk_at "look"))
  | exact TyX.base (TyOf.lst (by walk_at "look"))
  | exact TyX.base (TyOf.dK (by walk_at "look")))
local macro_rules | `(tactic| walk_at "kit") => `(tactic| first
  | assumption
  | exact kit_str_bool
  | exact kit_str_int
  | exact kit_str_str
  | exact kit_str_dict
  | exact kit_str_list
  | exact kit_str_tuple
  | exact kit_int_bool
  | exact kit_int_int
  | exact kit_int_str
  | exact kit_int_dict
  | exact kit_int_list
  | exact kit_int_tuple
  | exact kit_bool_bool
  | exact kit_bool_int
  | exact kit_bool_str
  | exact kit_bool_dict
  | exact kit_bool_list
  | exact kit_bool_tuple
  | exact kit_list_bool
  | exact kit_list_int
  | exact kit_list_str
  | exact kit_list_dict
  | exact kit_list_list
  | exact kit_list_tuple
  | exact kit_tuple_bool
  | exact kit_tuple_int
  | exact kit_tuple_str
  | exact kit_tuple_dict
  | exact kit_tuple_list
  | exact kit_tuple_tuple
  | exact kit_dict_bool
  | exact kit_dict_int
  | exact kit_dict_str
  | exact kit_dict_dict
  | exact kit_dict_list
  | exact kit_dict_tuple
  | exact kit_NoneType_bool
  | exact kit_NoneType_int
  | exact kit_NoneType_str
  | exact kit_NoneType_dict
  | exact kit_NoneType_list
  | exact kit_NoneType_tuple)
local macro_rules | `(tactic| walk_at "g") => `(tactic| repeat (first
  | refine gc_i ?_
  | refine ⟨_, rfl, ?_⟩
  | refine ⟨rfl, ?_⟩
  | intro _ _
  | refine ⟨_, _, rfl, rfl, ?_⟩
  | refine ⟨_, _, _, _, rfl, rfl, by walk_at "sq", by first | rfl | assumption, ?_⟩
  | refine And.intro (by walk_at "c") ?_
  | refine iteTk (by decide +kernel) ?_
  | refine iteFk (by decide +kernel) ?_
  | refine iteT ?_
  | refine iteF ?_
  | refine ⟨_, _, _, _, rfl, rfl, by walk_at "look", by rfl, ?_⟩
  | refine Or.inl ⟨_, rfl, ?_⟩
  | refine ⟨_, _, rfl, Or.inl (by walk_at "sq"), ?_⟩
  | refine ⟨_, _, rfl, Or.inr (by walk_at "sq"), ?_⟩
  | refine ⟨_, _, rfl, by walk_at "sq", ?_⟩
  | refine ⟨_, _, rfl, Or.inr (by walk_at "sq"), by rfl, by rfl, ?_⟩
  | refine ⟨_, _, rfl, Or.inl (by walk_at "sq"), by rfl, by rfl, ?_⟩
  | refine ⟨_, _, rfl, by walk_at "look", by rfl, ?_⟩
  | refine ⟨_, _, _, _, _, rfl, by walk_at "look", by assumption, by assumption, by rfl, ?_⟩
  | refine ⟨_, _, _, _, _, rfl, ClsV.ty _, by walk_at "ty", by walk_at "kit", ?_⟩
  | refine rNe_nil (by walk_at "sq") (by walk_at "fl") (by walk_at "sq") ?_
  | refine rEq_nil (by walk_at "sq") (by walk_at "fl") (by walk_at "sq") ?_
  | refine rNe_flat (by walk_at "sq") (by walk_at "sq") (by walk_at "fl") (by walk_at "fl") ?_
  | refine rEq_flat (by walk_at "sq") (by walk_at "sq") (by walk_at "fl") (by walk_at "fl") ?_))
local macro_rules | `(tactic| walk_at "but") => `(tactic| first
  | assumption
  | exact But.refl _ _
  | (refine But.upd ?_; walk_at "but")
  | (refine But.new ?_ (by assumption); walk_at "but"))
local macro_rules | `(tactic| walk_at "same") => `(tactic| first
  | assumption
  | exact Same.refl _
  | (refine Same.new ?_ (by assumption); walk_at "same")
  | (refine Same.trans (by assumption) ?_; walk_at "same"))
local macro_rules | `(tactic| walk_at "x") => `(tactic| (dsimp only [Cx.nox, Cx.wish, cxOf, L2H.cxH]))
abbrev s_same : Stmt := (top 44)
theorem scSame : FnScope ["told", "due", "spot", "k"] ["told", "due"] (defScope (top 44)) := ⟨rfl, rfl, rfl, by decide +kernel, rfl, by decide +kernel, by decide +kernel⟩
/-- a string or an int -/
def Plain1 (x : V) : Prop := (∃ s, x = .str s) ∨ ∃ n, x = .int n
def spSame0 : Sp := fun vs H Q _ => ∃ x, vs = [x, x] ∧ Plain1 x ∧ Q (.bl true) H
def spSame : Sp := fun vs H Q _ => ∃ (a b : Addr) (xs : List V), vs = [.ref a, .ref b] ∧ H a = some (.tup xs) ∧ H b = some (.tup xs) ∧ xs.length ≤ 1000 ∧ (∀ x ∈ xs, Plain1 x) ∧ ∀ H', Same H H' → Q (.bl true) H'
section
variable {P : Program} {w : World} {K : PySem.W.Frag} {mg : Str → Option Value} {base : Heap} {f : Addr} {fd : FuncData}
theorem ok_same0 (Z : Free mg) (F : FnP K "_law_same" "_law_same" s_same [] f fd) : FnOk P w K mg base CX0 1 f fd ["told", "due"] spSame0 := by
  refine F.ok scSame (fun vs H Q E h => ?_) (fun cdv A outer s H vs Q E hr h => ?_)
  · obtain ⟨x, rfl, _⟩ := h
    rfl
  · have hu := hu_of hr
    have hu64 : (A.deeper (envOfC "_law_same" (defScope s_same) s.heap.objs.size f cdv)).units + 64 < cLine := hr.units
    obtain ⟨x, rfl, hx, k⟩ := h
    refine ⟨_, PSs.nox (pss_cons (ps_if (pt_val (pe_callB call_isi (by rfl) Z.isinstance (by decide +kernel) (pa_cons (pv 1) (pa_cons (pe_bltn (v := .ty "bool") (by rfl) Z.bool (by decide +kernel) rfl) pa_nil)))) 
        (pss_one (ps_ret (pe_and (pe_callB call_isi (by rfl) Z.isinstance (by decide +kernel) (pa_cons (pv 0) (pa_cons (pe_bltn (v := .ty "bool") (by rfl) Z.bool (by decide +kernel) rfl) pa_nil))) (pe_one (pe_cmpR op_eq (pv 0) (pv 1) (nomark _)))))) pss_nil)
      (pss_cons (ps_if (pt_val (pe_callB call_isi (by rfl) Z.isinstance (by decide +kernel) (pa_cons (pv 1) (pa_cons (pe_bltn (v := .ty "int") (by rfl) Z.int (by decide +kernel) rfl) pa_nil)))) 
        (pss_one (ps_ret (pe_and (pe_callB call_isi (by rfl) Z.isinstance (by decide +kernel) (pa_cons (pv 0) (pa_cons (pe_bltn (v := .ty "int") (by rfl) Z.int (by decide +kernel) rfl) pa_nil))) (pe_and (pe_not (pe_callB call_isi (by rfl) Z.isinstance (by decide +kernel) (pa_cons (pv 0) (pa_cons (pe_bltn (v := .ty "bool") (by rfl) Z.bool (by decide +kernel) rfl) pa_nil)))) (pe_one (pe_cmpR op_eq (pv 0) (pv 1) (nomark _))))))) pss_nil)
      (pss_cons (ps_if (pt_val (pe_callB call_isi (by rfl) Z.isinstance (by decide +kernel) (pa_cons (pv 1) (pa_cons (pe_bltn (v := .ty "str") (by rfl) Z.str (by decide +kernel) rfl) pa_nil)))) 
        (pss_one (ps_ret (pe_and (pe_callB call_isi (by rfl) Z.isinstance (by decide +kernel) (pa_cons (pv 0) (pa_cons (pe_bltn (v := .ty "str") (by rfl) Z.str (by decide +kernel) rfl) pa_nil))) (pe_one (pe_cmpR op_eq (pv 0) (pv 1) (nomark _)))))) pss_nil)
      (pss_cons (ps_if (pt_val (pe_callB call_isi (by rfl) Z.isinstance (by decide +kernel) (pa_cons (pv 1) (pa_cons (pe_bltn (v := .ty "dict") (by rfl) Z.dict (by decide +kernel) rfl) pa_nil)))) 
        (pss_cons ps_never
        (pss_one ps_never)) pss_nil)
      (pss_cons (ps_if (PW.pt (pw_or (pt_val (pe_callB call_isi (by rfl) Z.isinstance (by decide +kernel) (pa_cons (pv 1) (pa_cons (pe_bltn (v := .ty "list") (by rfl) Z.list (by decide +kernel) rfl) pa_nil)))) (pw_or1 (pt_val (pe_callB call_isi (by rfl) Z.isinstance (by decide +kernel) (pa_cons (pv 1) (pa_cons (pe_bltn (v := .ty "tuple") (by rfl) Z.tuple (by decide +kernel) rfl) pa_nil))))))) 
        (pss_cons ps_never
        (pss_one ps_never)) pss_nil)
      (pss_one (ps_ret (pe_and (pe_cmpR op_isN (pv 1) pe_non (nomark _)) (pe_one (pe_cmpR op_isN (pv 0) pe_non (nomark _))))))))))), ?_⟩
    rcases hx with ⟨y, rfl⟩ | ⟨n, rfl⟩
    all_goals
      walk_at "g"
      simpa using k
theorem ok_same (Z : Free mg) (F : FnP K "_law_same" "_law_same" s_same [] f fd) {fd1 : FuncData} {f1 : Addr} (Cs : Cal P w K mg base CX0 1 "_law_same" ["told", "due"] spSame0 f1 fd1) : FnOk P w K mg base CX0 2 f fd ["told", "due"] spSame := by
  refine F.ok scSame (fun vs H Q E h => ?_) (fun cdv A outer s H vs Q E hr h => ?_)
  · obtain ⟨a, b, xs, rfl, _⟩ := h
    rfl
  · have hu := hu_of hr
    have hu64 : (A.deeper (envOfC "_law_same" (defScope s_same) s.heap.objs.size f cdv)).units + 64 < cLine := hr.units
    obtain ⟨a, b, xs, rfl, ha, hb, hl, hx, k⟩ := h
    refine ⟨_, PSs.nox (pss_cons (ps_if (pt_val (pe_callB call_isi (by rfl) Z.isinstance (by decide +kernel) (pa_cons (pv 1) (pa_cons (pe_bltn (v := .ty "bool") (by rfl) Z.bool (by decide +kernel) rfl) pa_nil)))) 
        (pss_one (ps_ret (pe_and (pe_callB call_isi (by rfl) Z.isinstance (by decide +kernel) (pa_cons (pv 0) (pa_cons (pe_bltn (v := .ty "bool") (by rfl) Z.bool (by decide +kernel) rfl) pa_nil))) (pe_one (pe_cmpR op_eq (pv 0) (pv 1) (nomark _)))))) pss_nil)
      (pss_cons (ps_if (pt_val (pe_callB call_isi (by rfl) Z.isinstance (by decide +kernel) (pa_cons (pv 1) (pa_cons (pe_bltn (v := .ty "int") (by rfl) Z.int (by decide +kernel) rfl) pa_nil)))) 
        (pss_one (ps_ret (pe_and (pe_callB call_isi (by rfl) Z.isinstance (by decide +kernel) (pa_cons (pv 0) (pa_cons (pe_bltn (v := .ty "int") (by rfl) Z.int (by decide +kernel) rfl) pa_nil))) (pe_and (pe_not (pe_callB call_isi (by rfl) Z.isinstance (by decide +kernel) (pa_cons (pv 0) (pa_cons (pe_bltn (v := .ty "bool") (by rfl) Z.bool (by decide +kernel) rfl) pa_nil)))) (pe_one (pe_cmpR op_eq (pv 0) (pv 1) (nomark _))))))) pss_nil)
      (pss_cons (ps_if (pt_val (pe_callB call_isi (by rfl) Z.isinstance (by decide +kernel) (pa_cons (pv 1) (pa_cons (pe_bltn (v := .ty "str") (by rfl) Z.str (by decide +kernel) rfl) pa_nil)))) 
        (pss_one (ps_ret (pe_and (pe_callB call_isi (by rfl) Z.isinstance (by decide +kernel) (pa_cons (pv 0) (pa_cons (pe_bltn (v := .ty "str") (by rfl) Z.str (by decide +kernel) rfl) pa_nil))) (pe_one (pe_cmpR op_eq (pv 0) (pv 1) (nomark _)))))) pss_nil)
      (pss_cons (ps_if (pt_val (pe_callB call_isi (by rfl) Z.isinstance (by decide +kernel) (pa_cons (pv 1) (pa_cons (pe_bltn (v := .ty "dict") (by rfl) Z.dict (by decide +kernel) rfl) pa_nil)))) 
        (pss_cons ps_never
        (pss_one ps_never)) pss_nil)
      (pss_cons (ps_if (PW.pt (pw_or (pt_val (pe_callB call_isi (by rfl) Z.isinstance (by decide +kernel) (pa_cons (pv 1) (pa_cons (pe_bltn (v := .ty "list") (by rfl) Z.list (by decide +kernel) rfl) pa_nil)))) (pw_or1 (pt_val (pe_callB call_isi (by rfl) Z.isinstance (by decide +kernel) (pa_cons (pv 1) (pa_cons (pe_bltn (v := .ty "tuple") (by rfl) Z.tuple (by decide +kernel) rfl) pa_nil))))))) 
        (pss_cons (ps_if (PW.pt (pw_or (pt_cmpR op_ne (pe_callB call_isi (by rfl) Z.isinstance (by decide +kernel) (pa_cons (pv 0) (pa_cons (pe_bltn (v := .ty "list") (by rfl) Z.list (by decide +kernel) rfl) pa_nil))) (pe_callB call_isi (by rfl) Z.isinstance (by decide +kernel) (pa_cons (pv 1) (pa_cons (pe_bltn (v := .ty "list") (by rfl) Z.list (by decide +kernel) rfl) pa_nil))) (nomark _)) (pw_or (pt_cmpR op_ne (pe_callB call_isi (by rfl) Z.isinstance (by decide +kernel) (pa_cons (pv 0) (pa_cons (pe_bltn (v := .ty "tuple") (by rfl) Z.tuple (by decide +kernel) rfl) pa_nil))) (pe_callB call_isi (by rfl) Z.isinstance (by decide +kernel) (pa_cons (pv 1) (pa_cons (pe_bltn (v := .ty "tuple") (by rfl) Z.tuple (by decide +kernel) rfl) pa_nil))) (nomark _)) (pw_or1 (pt_cmpR op_ne (pe_callB call_len_seq (by rfl) Z.len PySem.boot_len (pa_cons (pv 0) pa_nil)) (pe_callB call_len_seq (by rfl) Z.len PySem.boot_len (pa_cons (pv 1) pa_nil)) (nomark _)))))) 
          (pss_one (ps_ret pe_bl)) pss_nil)
        (pss_one (ps_ret (pe_cmpR (op_eqD hu64) (pe_lc (own := [("k", 3)]) (g := (gName 3)) (by rfl) scSame.nd (pi_range1 (by rfl) Z.range (pa_cons (pe_callB call_len_seq (by rfl) Z.len PySem.boot_len (pa_cons (pv 1) pa_nil)) pa_nil)) (blkOk_by (own := [("k", 3)]) (N := ["told", "due", "spot", "k"]) (sc := defScope (top 44)) (by decide +kernel)) (fun _ _ _ _ _ => (pg_name (i := 3) scSame.nd rfl (Or.inl rfl))) (fun _ _ _ _ _ => (pts_one (pt_not (pt_val (pe_call Cs.ok (hr.mono (by omega)) rfl Cs.mg Cs.kp Cs.b .nil pass0 (pa_cons (pe_ix (show IxR _ (rIxT K) from ix_tup) (pv 0) (pv 3) (fun _ _ => rfl)) (pa_cons (pe_ix (show IxR _ (rIxT K) from ix_tup) (pv 1) (pv 3) (fun _ _ => rfl)) pa_nil))))))) (fun _ _ _ _ _ => pe_int)) (pe_lst pa_nil) (nomark _))))) pss_nil)
      (pss_one (ps_ret (pe_and (pe_cmpR op_isN (pv 1) pe_non (nomark _)) (pe_one (pe_cmpR op_isN (pv 0) pe_non (nomark _))))))))))), ?_⟩
    walk_at "g"
    refine iteB (fun hn => absurd hn (by simp)) (fun _ => ?_)
    walk_at "g"
    rename_i D nD
    refine lc_range (fun i H' => H' = upd H D (.lst [])) rfl (fun i H' hi e => ?_) (fun H' e => ?_)
    · subst e
      have hn : i < xs.length := by omega
      have h1 : atI xs (0 + (i : Int)) = some xs[i] := by rw [Int.zero_add]; exact atI_nat (List.getElem?_eq_getElem hn)
      have ea := (upd_ne (o := HO.lst []) (ne_nw nD ha)).trans ha
      have eb := (upd_ne (o := HO.lst []) (ne_nw nD hb)).trans hb
      refine ⟨rfl, ?_⟩
      refine ⟨_, rfl, _, rfl, ⟨_, _, _, _, rfl, rfl, SqT.of ea, h1, ?_⟩⟩
      refine ⟨_, rfl, _, rfl, ⟨_, _, _, _, rfl, rfl, SqT.of eb, h1, ?_⟩⟩
      refine ⟨_, rfl, hx _ (List.getElem_mem hn), ?_⟩
      exact ⟨_, rfl, rfl⟩
    · subst e
      walk_at "g"
      exact k _ (by walk_at "same")
end
end K9
set_option Elab.async false
set_option linter.all false
set_option maxRecDepth 100000
set_option maxHeartbeats 4000000
/-! A dict that the module has written, told by all its pairs: its keys walked, k in d, d[k], dict(d). -/
namespace K9
open PySem PySem.Spec PySem.Calls PyProof.Rows L2
/-- at d: a written dict with these pairs -/
structure KPairs (K : PySem.W.Frag) (w : World) (d : Addr) (kvs : List (Str × V)) : Prop where
  low : (d == sysModules) = false
  small : kvs.length ≤ 1000
  nodup : (kvs.map (·.1)).Nodup
  ex : ∃ es n, K.lookup d = some ⟨.type "dict", none, .dict es n, #[]⟩ ∧ Paired (fun (e : DictEntry) (p : Str × V) => (∃ t, e.key = .str p.1 t) ∧ e.hash = PyData.keyHash w.params p.1 ∧ RelV p.2 e.val) es.toList kvs
/-- its pairs as a tracked dict has them -/
def kp (kvs : List (Str × V)) : List (Key × V) := kvs.map fun p => (.inr p.1, p.2)
theorem abs_rel {u : Value} {x : V} (h : absV u = some x) : RelV x u := by
  cases u <;> simp only [absV, Option.some.injEq, reduceCtorEq] at h <;> subst h <;> first | rfl | exact ⟨_, rfl⟩
theorem pairs_of {w : World} : ∀ {l : List DictEntry} {ks : List Str} {vs : List V}, l.map He.keyOf = He.keysIn w.params ks → l.map (fun e => absV e.val) = vs.map some →
    Paired (fun (e : DictEntry) (p : Str × V) => (∃ t, e.key = .str p.1 t) ∧ e.hash = PyData.keyHash w.params p.1 ∧ RelV p.2 e.val) l (ks.zip vs)
  | [], [], [], _, _ => .nil
  | [], [], _ :: _, _, h => by cases h
  | [], _ :: _, _, h, _ => by cases h
  | _ :: _, [], _, h, _ => by cases h
  | _ :: _, _ :: _, [], _, h => by cases h
  | e :: r, k :: ks, v :: vs, h, g => by
    have h1 : He.keyOf e :: r.map He.keyOf = some (k, PyData.keyHash w.params k) :: He.keysIn w.params ks := h
    have g1 : absV e.val :: r.map (fun e => absV e.val) = some v :: vs.map some := g
    injection h1 with h2 h3
    injection g1 with g2 g3
    refine .cons ⟨?_, ?_, abs_rel g2⟩ (pairs_of h3 g3)
    · unfold He.keyOf at h2
      split at h2
      · rename_i x t q
        obtain ⟨h5, h6⟩ := Prod.mk.inj (Option.some.inj h2)
        exact ⟨t, by rw [q, h5]⟩
      · cases h2
    · unfold He.keyOf at h2
      split at h2
      · exact (Prod.mk.inj (Option.some.inj h2)).2
      · cases h2
theorem KPairs.of {K : PySem.W.Frag} {w : World} {a : Addr} {ks : List Str} {vs : List V} (h1 : He.dicW K a = some (He.keysIn w.params ks)) (h2 : valsK K a = some (vs.map some)) (hn : ks.Nodup) (hl : ks.length ≤ vs.length) (hz : ks.length ≤ 1000) : KPairs K w a (ks.zip vs) := by
  refine ⟨?_, by rw [List.length_zip]; omega, by rw [List.map_fst_zip hl]; exact hn, ?_⟩
  all_goals
    unfold He.dicW at h1
    unfold valsK at h2
    split at h1
    · rename_i c es n sl e
      rw [e] at h2
      split at h1
      · rename_i q
        simp only [Bool.and_eq_true, Bool.not_eq_true', decide_eq_true_eq] at q
        obtain ⟨q1, q2, q3⟩ := q
        subst q1
        first
          | exact q3
          | refine ⟨es, n, ?_, pairs_of (Option.some.inj h1) (Option.some.inj h2)⟩
            rw [e, show sl = #[] from by simpa using q2]
      · cases h1
    · cases h1
section
variable {K : PySem.W.Frag} {w : World} {d : Addr} {kvs : List (Str × V)} {P : Program} {h : Heap}
theorem kp_ex : ∀ {l : List DictEntry} {kvs : List (Str × V)}, Paired (fun (e : DictEntry) (p : Str × V) => (∃ t, e.key = .str p.1 t) ∧ e.hash = PyData.keyHash w.params p.1 ∧ RelV p.2 e.val) l kvs →
    ∃ vs, KV (kp kvs) vs ∧ Pairs (mixKind P w) l vs ∧ vs.map (·.1) = kvs.map (fun p => (Sum.inr p.1 : Key)) ∧ ∀ e ∈ l, ∃ k, (mixKind P w).is k e.key = true ∧ e.hash = (mixKind P w).hash k
  | _, _, .nil => ⟨[], .nil, .nil, rfl, fun e he => absurd he (by simp)⟩
  | _, _, .cons (a := e) (b := p) ⟨⟨t, h1⟩, h2, h3⟩ r => by
    obtain ⟨vs, a1, a2, a3, a4⟩ := kp_ex r
    have hk : (mixKind P w).is (.inr p.1) e.key = true := by rw [h1]; exact mixKind_str P w p.1 t
    refine ⟨(.inr p.1, e.val) :: vs, .cons ⟨rfl, h3⟩ a1, .cons hk rfl a2, by rw [List.map_cons, a3]; rfl, fun e' he => ?_⟩
    rcases List.mem_cons.mp he with rfl | he
    · exact ⟨_, hk, h2⟩
    · exact a4 e' he
theorem KPairs.at (D : KPairs K w d kvs) (X : K.In h) : ∃ vs o es ep, KV (kp kvs) vs ∧ h.get? d = some o ∧ o.ExactDict ∧ o.data = .dict es ep ∧ es.size = kvs.length ∧ h.DictAt (mixKind P w) d vs ep := by
  obtain ⟨es, n, e, r⟩ := D.ex
  obtain ⟨vs, a1, a2, a3, a4⟩ := kp_ex (P := P) r
  have g := X _ _ e
  refine ⟨vs, _, es, n, a1, g, ⟨rfl, rfl, rfl⟩, rfl, by have := r.length; rwa [Array.length_toList] at this, _, es, g, ⟨rfl, rfl, rfl⟩, rfl, fun e he => a4 e (Array.mem_toList_iff.mpr he), a2, ?_⟩
  rw [a3]
  have hh : kvs.map (fun p => (Sum.inr p.1 : Key)) = (kvs.map (·.1)).map Sum.inr := by rw [List.map_map]; rfl
  rw [hh]
  exact (List.pairwise_map.mpr (D.nodup.imp fun hne he => hne (Sum.inr.inj he)))
theorem kp_val (k : Str) : ∀ kvs : List (Str × V), valV (kp kvs) (.inr k) = (kvs.lookup k)
  | [] => rfl
  | p :: r => by
    obtain ⟨a, b⟩ := p
    by_cases e : a = k
    · subst e
      rw [show kp ((a, b) :: r) = (.inr a, b) :: kp r from rfl, valV_pos rfl, List.lookup_cons_self]
    · rw [show kp ((a, b) :: r) = (.inr a, b) :: kp r from rfl, valV_neg (fun z => e (Sum.inr.inj z)), kp_val k r, List.lookup_cons, show (k == a) = false from beq_eq_false_iff_ne.mpr (Ne.symm e)]
end
section
variable {X : Cx}
/-- k in d -/
def rInK (K : PySem.W.Frag) (w : World) : R2 := fun x y H Q => ∃ d kvs k, x = .str k ∧ y = .ref d ∧ KPairs K w d kvs ∧ Q (.bl (kvs.lookup k).isSome) H
theorem op_inK : OpR X (compareOp .In) (rInK X.K X.w) := by
  intro pins s σ H x y v u Q I rx ry h
  obtain ⟨d, kvs, k, rfl, rfl, D, q⟩ := h
  cases ry
  obtain ⟨t, rfl⟩ := rx
  obtain ⟨vs, o, es, ep, kv, _, _, _, _, dd⟩ := D.at (P := X.prog) I.kIn
  refine wpAny_in_of (mixKind_str X.prog X.w k t) D.low dd.dictOf.mapOf ?_
  rw [← (kv.val (.inr k)).isSome_eq, kp_val]
  exact ⟨.bl _, H, I.tok _, rfl, q⟩
/-- d[k] -/
def rIxK (K : PySem.W.Frag) (w : World) : R2 := fun x y H Q => ∃ d kvs k v, x = .ref d ∧ y = .str k ∧ KPairs K w d kvs ∧ kvs.lookup k = some v ∧ Q v H
theorem ix_K : IxR X (rIxK X.K X.w) := by
  intro value slice pins s σ H x y v u Q I rx ry h hs
  obtain ⟨d, kvs, k, r, rfl, rfl, D, hl, q⟩ := h
  obtain rfl : v = Value.ref d := rx
  obtain ⟨t, rfl⟩ := ry
  obtain ⟨vs, o, es, ep, kv, _, _, _, _, dd⟩ := D.at (P := X.prog) I.kIn
  obtain ⟨w', hw, rw'⟩ := RelO.some_of (v := r) (o := valueAt vs (.inr k)) (by rw [← hl, ← kp_val]; exact kv.val _)
  exact tail_any dd.dictOf.mapOf.typeIs slot_dict_getitem.lookup (wpAny_getItem_of (mixKind_str X.prog X.w k t) dd.dictOf.mapOf hw ⟨r, H, I.tok _, rw', q⟩) hs
/-- dict(d) -/
def rDictK (K : PySem.W.Frag) (w : World) : List V → Hp → VK → Prop := fun xs H Q => ∃ d kvs, xs = [.ref d] ∧ KPairs K w d kvs ∧ ∀ p, H p = none → Q (.ref p) (upd H p (.dK (kp kvs)))
theorem call_dictK : CallR X (.type "dict") (rDictK X.K X.w) := by
  intro pins s σ H xs us Q I r q
  obtain ⟨d, kvs, rfl, D, q⟩ := q
  obtain ⟨u, rfl, rx⟩ := vals1 r
  obtain rfl : u = Value.ref d := rx
  obtain ⟨vs, o, es, ep, kv, _, _, _, _, dd⟩ := D.at (P := X.prog) I.kIn
  have z : (kp kvs).length ≤ sizeLine := by
    unfold kp
    rw [List.length_map]
    have := D.small
    rw [sizeLine_eq]
    omega
  refine kt_call_dict D.low dd.dictOf (by rw [← Paired.length kv]; exact z) fun h' d' hs => ?_
  have hm : (s.heap.objs.size == sysModules) = false := beq_eq_false_iff_ne.mpr (Nat.ne_of_gt I.big)
  exact ⟨.ref s.heap.objs.size, upd H s.heap.objs.size (.dK (kp kvs)), I.laid (t' := s.toks) (fun b u e => (hs.2 b (Nat.ne_of_lt (Heap.lt_size e))).trans (Heap.get?_push_of_some _ e)) (Nat.le_refl _)
    (show ObjOk X.prog X.w _ _ _ (.dK (kp kvs)) from ⟨z, hm, vs, kv, d'⟩), rfl, q _ (I.hok.fresh (Nat.le_refl _))⟩
/-- its keys in their order -/
def ItK (ks : List Str) : It := ⟨fun i H => i < ks.length, fun i H x H' => H' = H ∧ ∃ k, ks[i]? = some k ∧ x = .str k, fun i H => ks.length ≤ i⟩
theorem turn_K {P : Program} {w : World} {K : PySem.W.Frag} {tg : Expr} {d : Addr} {kvs : List (Str × V)} (it : Addr) (D : KPairs K w d kvs) {es : Array DictEntry} {ep : Nat} (hl : K.lookup d = some ⟨.type "dict", none, .dict es ep, #[]⟩) :
    Turn P w K tg (ItK (kvs.map (·.1))) [it] it (fun i h => h.IsKeyIter it d i kvs.length ep) where
  mem := by simp
  obj := fun i h st b hb => by
    have e : b = it := by simpa using hb
    subst e
    obtain ⟨oi, e, c, dd⟩ := st
    exact ⟨oi, e, fun v z => by rw [dd] at z; cases z⟩
  keep := fun i h h' st k => st.at fun oi e => k it (by simp) oi e
  item := by
    intro X hP hw hK hc i pins s σ H E I hf st hg
    subst hP hw hK
    have hi : i < kvs.length := by simpa [ItK] using hg
    obtain ⟨f0, f1, f2, f3, f4, f5⟩ := hf it (by simp)
    obtain ⟨vs, o, es', ep', kv, ho, hx, hdt, hsz, hm⟩ := D.at (P := X.prog) I.kIn
    have ho2 := I.kIn _ _ hl
    rw [ho2] at ho
    cases ho
    cases hdt
    have hkv : (kp kvs)[i]? = some (.inr kvs[i].1, kvs[i].2) := by
      unfold kp
      rw [List.getElem?_map, List.getElem?_eq_getElem hi]
      rfl
    obtain ⟨u, hu, ru⟩ := kv_get kv hkv
    have hlen : kvs.length = vs.length := by rw [← Paired.length kv]; simp [kp]
    rw [hlen] at st
    refine wpAny_pyNext_dict_item st hm hu fun key h' hkey st' sb => ?_
    have I1 : Inv X pins σ H { s with heap := h' } := I.turned (t' := s.toks) (fun b ob hb e => (sb.2 b hb).trans e) f0 f1 f3 f4 f5
    obtain ⟨oi, e, c, dd⟩ := id st'
    refine ⟨key, rfl, go_of (s := { s with heap := h' }) e c dd (by decide) ⟨.str kvs[i].1, H, I1, relV_key (k := .inr kvs[i].1) (show keyIs (.inr kvs[i].1) key = true from hkey), ⟨rfl, kvs[i].1, by rw [List.getElem?_map, List.getElem?_eq_getElem hi]; rfl, rfl⟩, ?_, fun b hb => (hf b hb).1⟩⟩
    show h'.IsKeyIter it d (i + 1) kvs.length _
    rw [hlen]
    exact st'
  done := by
    intro X hP hw hK hc i pins s σ H E I hf st hg
    subst hP hw hK
    have hi : kvs.length ≤ i := by simpa [ItK] using hg
    obtain ⟨f0, f1, f2, f3, f4, f5⟩ := hf it (by simp)
    obtain ⟨vs, o, es', ep', kv, ho, hx, hdt, hsz, hm⟩ := D.at (P := X.prog) I.kIn
    have ho2 := I.kIn _ _ hl
    rw [ho2] at ho
    cases ho
    cases hdt
    exact next_key_end (I.ok.hd hc) st ho2 rfl hsz hi fun h' eb => ⟨rfl, I.turned (t' := s.toks) (fun b ob hb e => eb b ob hb e) f0 f1 f3 f4 f5⟩
  self := fun A i s Q E st h => wpAny_pyIter_keyiter st h
def iKeysK (K : PySem.W.Frag) (w : World) (td : TE) : TI := fun σ H R => td σ H fun x H1 => ∃ d kvs, x = .ref d ∧ KPairs K w d kvs ∧ R (ItK (kvs.map (·.1))) H1
theorem pi_keysK {tg e : Expr} {td : TE} (he : PE X e td) : PI X tg e (iKeysK X.K X.w td) := by
  refine ⟨fun pins s σ H R I h => ?_⟩
  refine thn (he.run pins s σ H _ I h) fun u s1 ⟨x, H1, I1, rx, d, kvs, ex, D, q⟩ => ?_
  subst ex
  obtain rfl : u = Value.ref d := rx
  obtain ⟨es, n, hl, r⟩ := D.ex
  have ho := I1.kIn _ _ hl
  have hsz : es.size = kvs.length := by have := r.length; rwa [Array.length_toList] at this
  refine iter_keys D.low ho ⟨rfl, rfl, rfl⟩ rfl (pi_one (tk := s1.toks) I1 _ (turn_K _ D hl) ⟨_, Heap.get?_push_size _ rfl, rfl, ?_⟩ q)
  rw [hsz] <;> rfl
end
/-- over the keys of a written dict -/
theorem for_K {ks : List Str} {g : TG} {tb : TS} {D : Ends} {σ : L2.St} {H : Hp} (Pv : Nat → L2.St → Hp → Prop) (h0 : Pv 0 σ H)
    (hs : ∀ i k σ H, ks[i]? = some k → Pv i σ H → g (.str k) σ H fun σ2 H2 => tb { D with nx := Pv (i + 1), ct := Pv (i + 1), bk := D.nx } σ2 H2) (hd : ∀ σ H, Pv ks.length σ H → D.nx σ H) :
    ∃ W : Nat → Nat → L2.St → Hp → Prop, (∃ m, W 0 m σ H) ∧ ∀ i m σ H, W i m σ H →
      ((ItK ks).stop i H ∧ D.nx σ H) ∨ ((ItK ks).go i H ∧ ∃ N : L2.St → Hp → Prop, (∀ σ' H', N σ' H' → ∃ m', m' < m ∧ W (i + 1) m' σ' H') ∧ ∀ x H', (ItK ks).yld i H x H' → g x σ H' fun σ2 H2 => tb { D with nx := N, ct := N, bk := D.nx } σ2 H2) := by
  refine ⟨fun i m σ H => m = ks.length - i ∧ i ≤ ks.length ∧ Pv i σ H, ⟨ks.length, by simp, Nat.zero_le _, h0⟩, ?_⟩
  rintro i m σ H ⟨rfl, hi, p⟩
  by_cases hlt : i < ks.length
  · refine .inr ⟨hlt, Pv (i + 1), fun σ' H' p' => ⟨ks.length - (i + 1), by omega, rfl, hlt, p'⟩, fun x H' y => ?_⟩
    obtain ⟨e, k, hk, rfl⟩ := y
    subst e
    exact hs i k σ _ hk p
  · have e : i = ks.length := by omega
    subst e
    exact .inl ⟨Nat.le_refl _, hd σ H p⟩
end K9
set_option Elab.async false
set_option linter.all false
set_option maxRecDepth 100000
set_option maxHeartbeats 4000000
namespace K9
open PySem PySem.Spec PyProof.Rows L2
/-! ### steps through a reading -/
/-- H a = some o, where H is told by its stores -/
local macro_rules | `(tactic| walk_at "look") => `(tactic| first
  | assumption
  | exact upd_same
  | (refine Eq.trans (upd_ne ?_) ?_ <;> first
      | assumption
      | exact Ne.symm (by assumption)
      | exact ne_nw (by assumption) (by walk_at "look")
      | exact Ne.symm (ne_nw (by assumption) (by walk_at "look"))
      | walk_at "look"))
local macro_rules | `(tactic| walk_at "sq") => `(tactic| first
  | assumption
  | exact SqL.of (by walk_at "look")
  | exact SqT.of (by walk_at "look"))
local macro_rules | `(tactic| walk_at "c") => `(tactic| first
  | decide
  | omega
  | assumption
  | exact Or.inr ⟨by decide, by decide⟩
  | exact ⟨by decide, by decide⟩
  | exact Nat.le_of_ble_eq_true rfl
  | exact line1000 (by assumption)
  | (intro z; omega)
  | (dsimp only; first | assumption | omega)
  | (constructor <;> first | decide | omega))
local macro_rules | `(tactic| walk_at "fl") => `(tactic| first
  | assumption
  | rfl
  | exact flat_ints _
  | decide +kernel
  | (simp only [List.all_map, List.all_cons, List.all_nil]; rfl))
local macro_rules | `(tactic| walk_at "ty") => `(tactic| first
  | exact TyX.base (TyOf.str _)
  | exact TyX.base (TyOf.int _)
  | exact TyX.base (TyOf.bl _)
  | exact TyX.base TyOf.non
  | exact TyX.base (TyOf.tup (by walk_at "look"))
  | exact TyX.base (TyOf.lst (by walk_at "look"))
  | exact TyX.base (TyOf.dK (by walk_at "look")))
local macro_rules | `(tactic| walk_at "kit") => `(tactic| first
  | assumption
  | exact kit_str_bool
  | exact kit_str_int
  | exact kit_str_str
  | exact kit_str_dict
  | exact kit_str_list
  | exact kit_str_tuple
  | exact kit_int_bool
  | exact kit_int_int
  | exact kit_int_str
  | exact kit_int_dict
  | exact kit_int_list
  | exact kit_int_tuple
  | exact kit_bool_bool
  | exact kit_bool_int
  | exact kit_bool_str
  | exact kit_bool_dict
  | exact kit_bool_list
  | exact kit_bool_tuple
  | exact kit_list_bool
  | exact kit_list_int
  | exact kit_list_str
  | exact kit_list_dict
  | exact kit_list_list
  | exact kit_list_tuple
  | exact kit_tuple_bool
  | exact kit_tuple_int
  | exact kit_tuple_str
  | exact kit_tuple_dict
  | exact kit_tuple_list
  | exact kit_tuple_tuple
  | exact kit_dict_bool
  | exact kit_dict_int
  | exact kit_dict_str
  | exact kit_dict_dict
  | exact kit_dict_list
  | exact kit_dict_tuple
  | exact kit_NoneType_bool
  | exact kit_NoneType_int
  | exact kit_NoneType_str
  | exact kit_NoneType_dict
  | exact kit_NoneType_list
  | exact kit_NoneType_tuple)
local macro_rules | `(tactic| walk_at "g") => `(tactic| repeat (first
  | refine gc_i ?_
  | refine ⟨_, rfl, ?_⟩
  | refine ⟨rfl, ?_⟩
  | intro _ _
  | refine ⟨_, _, rfl, rfl, ?_⟩
  | refine ⟨_, _, _, _, rfl, rfl, by walk_at "sq", by first | rfl | assumption, ?_⟩
  | refine And.intro (by walk_at "c") ?_
  | refine iteTk (by decide +kernel) ?_
  | refine iteFk (by decide +kernel) ?_
  | refine iteT ?_
  | refine iteF ?_
  | refine ⟨_, _, _, _, rfl, rfl, by walk_at "look", by rfl, ?_⟩
  | refine Or.inl ⟨_, rfl, ?_⟩
  | refine ⟨_, _, rfl, Or.inl (by walk_at "sq"), ?_⟩
  | refine ⟨_, _, rfl, Or.inr (by walk_at "sq"), ?_⟩
  | refine ⟨_, _, rfl, by walk_at "sq", ?_⟩
  | refine ⟨_, _, rfl, Or.inr (by walk_at "sq"), by rfl, by rfl, ?_⟩
  | refine ⟨_, _, rfl, Or.inl (by walk_at "sq"), by rfl, by rfl, ?_⟩
  | refine ⟨_, _, rfl, by walk_at "look", by rfl, ?_⟩
  | refine ⟨_, _, _, _, _, rfl, by walk_at "look", by assumption, by assumption, by rfl, ?_⟩
  | refine ⟨_, _, _, _, _, rfl, ClsV.ty _, by walk_at "ty", by walk_at "kit", ?_⟩
  | refine rNe_nil (by walk_at "sq") (by walk_at "fl") (by walk_at "sq") ?_
  | refine rEq_nil (by walk_at "sq") (by walk_at "fl") (by walk_at "sq") ?_
  | refine rNe_flat (by walk_at "sq") (by walk_at "sq") (by walk_at "fl") (by walk_at "fl") ?_
  | refine rEq_flat (by walk_at "sq") (by walk_at "sq") (by walk_at "fl") (by walk_at "fl") ?_))
local macro_rules | `(tactic| walk_at "but") => `(tactic| first
  | assumption
  | exact But.refl _ _
  | (refine But.upd ?_; walk_at "but")
  | (refine But.new ?_ (by assumption); walk_at "but"))
local macro_rules | `(tactic| walk_at "same") => `(tactic| first
  | assumption
  | exact Same.refl _
  | (refine Same.new ?_ (by assumption); walk_at "same")
  | (refine Same.trans (by assumption) ?_; walk_at "same"))
local macro_rules | `(tactic| walk_at "x") => `(tactic| (dsimp only [Cx.nox, Cx.wish, cxOf, L2H.cxH]))
/-! ### the program's tables -/
def stepL : List (Str × Int × Int) := [("r", -1, 0), ("u", 0, -1), ("r?", 1, 0), ("u?", 0, 1)]
structure Tb (K : PySem.W.Frag) (w : World) (mg : Str → Option Value) : Prop where
  m_LIMITS : mg "LIMITS" = some (.ref (He.ga K "LIMITS"))
  m_STEPS : mg "STEPS" = some (.ref (He.ga K "STEPS"))
  m_LEAVES : mg "LEAVES" = some (.ref (He.ga K "LEAVES"))
  m_MIRRORED : mg "MIRRORED" = some (.ref (He.ga K "MIRRORED"))
  m_TURNED : mg "TURNED" = some (.ref (He.ga K "TURNED"))
  k_LIMITS : KPairs K w (He.ga K "LIMITS") (kvI limits)
  k_MIRRORED : KPairs K w (He.ga K "MIRRORED") (kvS mirr)
  k_TURNED : KPairs K w (He.ga K "TURNED") (kvS turn)
  k_STEPS : ∃ a b c d : Addr, KPairs K w (He.ga K "STEPS") [("r", .ref a), ("u", .ref b), ("r?", .ref c), ("u?", .ref d)] ∧ (∀ H, SqT K H a [.int (-1), .int 0]) ∧ (∀ H, SqT K H b [.int 0, .int (-1)]) ∧ (∀ H, SqT K H c [.int 1, .int 0]) ∧ ∀ H, SqT K H d [.int 0, .int 1]
  k_LEAVES : ∀ H, SqT K H (He.ga K "LEAVES") [.str "all", .str "none"]
abbrev s_bounds : Stmt := (top 25)
abbrev s_goes : Stmt := (top 31)
abbrev s_fault : Stmt := (top 33)
abbrev s_exch : Stmt := (top 35)
abbrev s_mirr : Stmt := (top 36)
abbrev s_turn : Stmt := (top 37)
theorem scBounds : FnScope ["found", "word"] ["found"] (defScope (top 25)) := ⟨rfl, rfl, rfl, by decide +kernel, rfl, by decide +kernel, by decide +kernel⟩
theorem scGoes : FnScope ["word", "wanted", "state"] ["word", "wanted", "state"] (defScope (top 31)) := ⟨rfl, rfl, rfl, by decide +kernel, rfl, by decide +kernel, by decide +kernel⟩
theorem scFault : FnScope ["text", "words", "count", "word"] ["text", "words", "count"] (defScope (top 33)) := ⟨rfl, rfl, rfl, by decide +kernel, rfl, by decide +kernel, by decide +kernel⟩
theorem scExch : FnScope ["text", "words", "word"] ["text", "words"] (defScope (top 35)) := ⟨rfl, rfl, rfl, by decide +kernel, rfl, by decide +kernel, by decide +kernel⟩
theorem scMirr : FnScope ["text"] ["text"] (defScope (top 36)) := ⟨rfl, rfl, rfl, by decide +kernel, rfl, by decide +kernel, by decide +kernel⟩
theorem scTurn : FnScope ["text"] ["text"] (defScope (top 37)) := ⟨rfl, rfl, rfl, by decide +kernel, rfl, by decide +kernel, by decide +kernel⟩
/-- nothing in the dict is above its limit -/
def Below (kvs : List (Key × V)) : Prop := ∀ p ∈ limits, ∀ v, valV kvs (.inr p.1) = some v → ∃ i, v = .int i ∧ i ≤ p.2
def spBounds : Sp := fun vs H Q _ => ∃ (d : Addr) (kvs : List (Key × V)), vs = [.ref d] ∧ H d = some (.dK kvs) ∧ Below kvs ∧ Q .non H
def leafB (word : Str) : Bool := decide (word = "all") || decide (word = "none")
def opB (word : Str) : Bool := decide (word = "+") || decide (word = "&")
def goesOn (word : Str) (wanted : Bool) (state : Str) : Bool :=
  if wanted = true then leafB word || (decide (word = "(") || (stepL.lookup word).isSome) else if state = "first" then opB word else decide (word = ")")
theorem in2 (x a b : Str) : inV (.str x) [.str a, .str b] = (decide (x = a) || decide (x = b)) := by
  show (decide (a = x) || (decide (b = x) || false)) = _
  rw [Bool.or_false, decide_eq_decide.mpr (eq_comm (a := a)), decide_eq_decide.mpr (eq_comm (a := b))]
theorem decS (x y : Str) : decide (V.str x = V.str y) = decide (x = y) := decide_eq_decide.mpr ⟨V.str.inj, congrArg _⟩
theorem look4 {α β : Type} (word : Str) (a b c d : α) (a' b' c' d' : β) : (List.lookup word [(("r" : Str), a), ("u", b), ("r?", c), ("u?", d)]).isSome = (List.lookup word [(("r" : Str), a'), ("u", b'), ("r?", c'), ("u?", d')]).isSome := by
  simp only [List.lookup]
  split <;> first | rfl | (split <;> first | rfl | (split <;> first | rfl | (split <;> rfl)))
def spGoes : Sp := fun vs H Q _ => ∃ (word : Str) (wanted : Bool) (state : Str), vs = [.str word, .bl wanted, .str state] ∧ ∀ H', Same H H' → Q (.bl (goesOn word wanted state)) H'
section
variable {P : Program} {w : World} {K : PySem.W.Frag} {mg : Str → Option Value} {base : Heap} {f : Addr} {fd : FuncData}
theorem ok_bounds (Z : Free mg) (TB : Tb K w mg) (F : FnP K "check_bounds" "check_bounds" s_bounds [] f fd) : FnOk P w K mg base CX0 1 f fd ["found"] spBounds := by
  refine F.ok scBounds (fun vs H Q E h => ?_) (fun cdv A outer s H vs Q E hr h => ?_)
  · obtain ⟨a, b, rfl, _⟩ := h
    rfl
  · have hu := hu_of hr
    have hu64 : (A.deeper (envOfC "check_bounds" (defScope s_bounds) s.heap.objs.size f cdv)).units + 64 < cLine := hr.units
    obtain ⟨d, kvs, rfl, hd, hB, k⟩ := h
    refine ⟨_, PSs.nox (pss_one (ps_for PassesOwn.never rfl (pi_keysK (pe_glob (v := .ref _) rfl TB.m_LIMITS rfl)) (pg_name (i := 1) scBounds.nd rfl (Or.inl rfl)) 
        (pss_one (ps_if (PW.pt (pw_and (pt_cmp (pc_din hu (pv 1) (pv 0))) (pw_and1 (pt_cmpR op_gt (pe_dget hu (pv 0) (pv 1) (fun _ _ => rfl)) (pe_ix ix_K (pe_glob (v := .ref _) rfl TB.m_LIMITS rfl) (pv 1) (fun _ _ => rfl)) (nomark _))))) 
          (pss_one ps_never) pss_nil)))), ?_⟩
    refine ⟨_, _, rfl, TB.k_LIMITS, ?_⟩
    refine for_K (fun i σ' H' => H' = H ∧ ∃ x, σ' = [some (.ref d), x]) ⟨rfl, _, rfl⟩ (fun i word σ' H' hi ⟨e, x, es⟩ => ?_) (fun σ' H' ⟨e, x, es⟩ => by subst e; exact k)
    subst e es
    have hw : ∃ lim, (word, lim) ∈ limits := by
      unfold kvI at hi
      rw [List.map_map, List.getElem?_map] at hi
      obtain ⟨p, hp, e⟩ := Option.map_eq_some_iff.mp hi
      have e2 : p.1 = word := e
      subst e2
      exact ⟨p.2, List.mem_of_getElem? hp⟩
    obtain ⟨lim, hlim⟩ := hw
    walk_at "g"
    refine ⟨d, _, rfl, .inl ⟨kvs, .inr word, .inl hd, rfl, rfl⟩, _, rfl, ?_⟩
    cases hv : valV kvs (.inr word) with
    | none => exact ⟨rfl, _, rfl⟩
    | some v =>
      obtain ⟨j, rfl, hj⟩ := hB _ hlim v hv
      have hlk : (kvI limits).lookup word = some (.int lim) := by
        have : ∀ p ∈ limits, (kvI limits).lookup p.1 = some (.int p.2) := by decide +kernel
        exact this _ hlim
      refine ⟨_, rfl, _, rfl, d, _, rfl, .inl ⟨kvs, .inr word, .inl hd, rfl, hv.symm⟩, ?_⟩
      refine ⟨_, rfl, ?_⟩
      refine ⟨_, _, _, _, rfl, rfl, TB.k_LIMITS, hlk, ?_⟩
      walk_at "g"
      exact iteB (fun hb => absurd (of_decide_eq_true hb) (by have : j ≤ lim := hj; omega)) (fun _ => ⟨rfl, _, rfl⟩)
theorem ok_goes (Z : Free mg) (TB : Tb K w mg) (F : FnP K "goes_on" "goes_on" s_goes [] f fd) : FnOk P w K mg base CX0 1 f fd ["word", "wanted", "state"] spGoes := by
  refine F.ok scGoes (fun vs H Q E h => ?_) (fun cdv A outer s H vs Q E hr h => ?_)
  · obtain ⟨a, b, c, rfl, _⟩ := h
    rfl
  · have hu := hu_of hr
    obtain ⟨word, wanted, state, rfl, k⟩ := h
    refine ⟨_, PSs.nox (pss_cons (ps_if (pt_val (pv 1)) 
        (pss_one (ps_ret (pe_or (pe_cmpR op_in_seq (pv 0) (pe_glob (v := .ref _) rfl TB.m_LEAVES rfl) (by rfl)) (pe_or (pe_cmpR op_eq (pv 0) pe_str (nomark _)) (pe_one (pe_cmpR op_inK (pv 0) (pe_glob (v := .ref _) rfl TB.m_STEPS rfl) (by rfl))))))) pss_nil)
      (pss_one (ps_ret (pe_ifExp (pt_cmpR op_eq (pv 2) pe_str (nomark _)) (pe_cmpR op_in_seq (pv 0) (pe_tup (pa_cons pe_str (pa_cons pe_str pa_nil))) (by rfl)) (pe_cmpR op_eq (pv 0) pe_str (nomark _)))))), ?_⟩
    walk_at "g"
    cases wanted with
    | true =>
      refine iteT ?_
      walk_at "g"
      refine ⟨_, _, rfl, .inr (TB.k_LEAVES _), rfl, rfl, ?_⟩
      rw [if_neg Bool.false_ne_true, in2]
      refine ⟨_, rfl, ?_⟩
      have e0 : goesOn word true state = (leafB word || (decide (word = "(") || (stepL.lookup word).isSome)) := rfl
      rw [e0] at k
      cases h1 : leafB word with
      | true =>
        rw [h1] at k
        rw [show (decide (word = "all") || decide (word = "none")) = true from h1]
        exact k _ (Same.refl _)
      | false =>
        rw [h1] at k
        rw [show (decide (word = "all") || decide (word = "none")) = false from h1]
        refine iteF ?_
        walk_at "g"
        rw [Bool.false_or] at k
        rw [decS]
        cases h2 : decide (word = "(") with
        | true =>
          rw [h2] at k
          exact k _ (Same.refl _)
        | false =>
          rw [h2, Bool.false_or] at k
          refine iteF ?_
          obtain ⟨a, b, c, d, D, _⟩ := TB.k_STEPS
          refine ⟨_, rfl, ?_⟩
          refine ⟨_, _, _, rfl, rfl, D, ?_⟩
          rw [look4 word (V.ref a) (V.ref b) (V.ref c) (V.ref d) ((-1, 0) : Int × Int) (0, -1) (1, 0) (0, 1)]
          exact k _ (Same.refl _)
    | false =>
      refine iteF ?_
      walk_at "g"
      refine iteB (fun hs => ?_) (fun hs => ?_)
      · walk_at "g"
        rw [if_neg Bool.false_ne_true, in2]
        rw [show goesOn word false state = (decide (word = "+") || decide (word = "&")) from by
          unfold goesOn
          rw [if_neg Bool.false_ne_true, if_pos (V.str.inj (of_decide_eq_true hs))]
          rfl] at k
        exact k _ (by walk_at "same")
      · walk_at "g"
        rw [decS]
        rw [show goesOn word false state = decide (word = ")") from by
          unfold goesOn
          rw [if_neg Bool.false_ne_true, if_neg (fun e => (of_decide_eq_false hs) (congrArg V.str e))]] at k
        exact k _ (by walk_at "same")
end
end K9
set_option Elab.async false
set_option linter.all false
set_option maxRecDepth 100000
set_option maxHeartbeats 4000000
namespace K9
open PySem PySem.Spec PyProof.Rows L2
/-! ### steps through a reading -/
/-- H a = some o, where H is told by its stores -/
local macro_rules | `(tactic| walk_at "look") => `(tactic| first
  | assumption
  | exact upd_same
  | (refine Eq.trans (upd_ne ?_) ?_ <;> first
      | assumption
      | exact Ne.symm (by assumption)
      | exact ne_nw (by assumption) (by walk_at "look")
      | exact Ne.symm (ne_nw (by assumption) (by walk_at "look"))
      | walk_at "look"))
local macro_rules | `(tactic| walk_at "sq") => `(tactic| first
  | assumption
  | exact SqL.of (by walk_at "look")
  | exact SqT.of (by walk_at "look"))
local macro_rules | `(tactic| walk_at "c") => `(tactic| first
  | decide
  | omega
  | assumption
  | exact Or.inr ⟨by decide, by decide⟩
  | exact ⟨by decide, by decide⟩
  | exact Nat.le_of_ble_eq_true rfl
  | exact line1000 (by assumption)
  | (intro z; omega)
  | (dsimp only; first | assumption | omega)
  | (constructor <;> first | decide | omega))
local macro_rules | `(tactic| walk_at "fl") => `(tactic| first
  | assumption
  | rfl
  | exact flat_ints _
  | decide +kernel
  | (simp only [List.all_map, List.all_cons, List.all_nil]; rfl))
local macro_rules | `(tactic| walk_at "ty") => `(tactic| first
  | exact TyX.base (TyOf.str _)
  | exact TyX.base (TyOf.int _)
  | exact TyX.base (TyOf.bl _)
  | exact TyX.base TyOf.non
  | exact TyX.base (TyOf.tup (by walk_at "look"))
  | exact TyX.base (TyOf.lst (by walk_at "look"))
  | exact TyX.base (TyOf.dK (by walk_at "look")))
local macro_rules | `(tactic| walk_at "kit") => `(tactic| first
  | assumption
  | exact kit_str_bool
  | exact kit_str_int
  | exact kit_str_str
  | exact kit_str_dict
  | exact kit_str_list
  | exact kit_str_tuple
  | exact kit_int_bool
  | exact kit_int_int
  | exact kit_int_str
  | exact kit_int_dict
  | exact kit_int_list
  | exact kit_int_tuple
  | exact kit_bool_bool
  | exact kit_bool_int
  | exact kit_bool_str
  | exact kit_bool_dict
  | exact kit_bool_list
  | exact kit_bool_tuple
  | exact kit_list_bool
  | exact kit_list_int
  | exact kit_list_str
  | exact kit_list_dict
  | exact kit_list_list
  | exact kit_list_tuple
  | exact kit_tuple_bool
  | exact kit_tuple_int
  | exact kit_tuple_str
  | exact kit_tuple_dict
  | exact kit_tuple_list
  | exact kit_tuple_tuple
  | exact kit_dict_bool
  | exact kit_dict_int
  | exact kit_dict_str
  | exact kit_dict_dict
  | exact kit_dict_list
  | exact kit_dict_tuple
  | exact kit_NoneType_bool
  | exact kit_NoneType_int
  | exact kit_NoneType_str
  | exact kit_NoneType_dict
  | exact kit_NoneType_list
  | exact kit_NoneType_tuple)
local macro_rules | `(tactic| walk_at "g") => `(tactic| repeat (first
  | refine gc_i ?_
  | refine ⟨_, rfl, ?_⟩
  | refine ⟨rfl, ?_⟩
  | intro _ _
  | refine ⟨_, _, rfl, rfl, ?_⟩
  | refine ⟨_, _, _, _, rfl, rfl, by walk_at "sq", by first | rfl | assumption, ?_⟩
  | refine And.intro (by walk_at "c") ?_
  | refine iteTk (by decide +kernel) ?_
  | refine iteFk (by decide +kernel) ?_
  | refine iteT ?_
  | refine iteF ?_
  | refine ⟨_, _, _, _, rfl, rfl, by walk_at "look", by rfl, ?_⟩
  | refine Or.inl ⟨_, rfl, ?_⟩
  | refine ⟨_, _, rfl, Or.inl (by walk_at "sq"), ?_⟩
  | refine ⟨_, _, rfl, Or.inr (by walk_at "sq"), ?_⟩
  | refine ⟨_, _, rfl, by walk_at "sq", ?_⟩
  | refine ⟨_, _, rfl, Or.inr (by walk_at "sq"), by rfl, by rfl, ?_⟩
  | refine ⟨_, _, rfl, Or.inl (by walk_at "sq"), by rfl, by rfl, ?_⟩
  | refine ⟨_, _, rfl, by walk_at "look", by rfl, ?_⟩
  | refine ⟨_, _, _, _, _, rfl, by walk_at "look", by assumption, by assumption, by rfl, ?_⟩
  | refine ⟨_, _, _, _, _, rfl, ClsV.ty _, by walk_at "ty", by walk_at "kit", ?_⟩
  | refine rNe_nil (by walk_at "sq") (by walk_at "fl") (by walk_at "sq") ?_
  | refine rEq_nil (by walk_at "sq") (by walk_at "fl") (by walk_at "sq") ?_
  | refine rNe_flat (by walk_at "sq") (by walk_at "sq") (by walk_at "fl") (by walk_at "fl") ?_
  | refine rEq_flat (by walk_at "sq") (by walk_at "sq") (by walk_at "fl") (by walk_at "fl") ?_))
local macro_rules | `(tactic| walk_at "but") => `(tactic| first
  | assumption
  | exact But.refl _ _
  | (refine But.upd ?_; walk_at "but")
  | (refine But.new ?_ (by assumption); walk_at "but"))
local macro_rules | `(tactic| walk_at "same") => `(tactic| first
  | assumption
  | exact Same.refl _
  | (refine Same.new ?_ (by assumption); walk_at "same")
  | (refine Same.trans (by assumption) ?_; walk_at "same"))
local macro_rules | `(tactic| walk_at "x") => `(tactic| (dsimp only [Cx.nox, Cx.wish, cxOf, L2H.cxH]))
theorem updd {H : Hp} {D : Addr} {a b : HO} : upd (upd H D a) D b = upd H D b := by
  funext x
  by_cases e : x = D
  · subst e; rw [upd_same, upd_same]
  · rw [upd_ne e, upd_ne e, upd_ne e]
theorem grow {α : Type} {H : Hp} {D : Addr} {xs : List α} {F : α → V} {i : Nat} {x : α} (h : xs[i]? = some x) :
    upd (upd H D (.lst ((xs.take i).map F))) D (.lst ((xs.take i).map F ++ [F x])) = upd H D (.lst ((xs.take (i + 1)).map F)) := by
  rw [updd, List.take_add_one, h, List.map_append]
  rfl
theorem sum_le {m : Nat} : ∀ {l : List Str}, (∀ z ∈ l, z.length ≤ m) → (l.map (·.length)).sum ≤ l.length * m
  | [], _ => Nat.zero_le _
  | a :: l, h => by
    have h1 := h a List.mem_cons_self
    have h2 := sum_le (l := l) fun z hz => h z (List.mem_cons_of_mem _ hz)
    rw [List.map_cons, List.sum_cons, List.length_cons, Nat.succ_mul]
    omega
theorem look_mem {α β : Type} [BEq α] [LawfulBEq α] {z : α} {y : β} : ∀ {l : List (α × β)}, l.lookup z = some y → ∃ p ∈ l, p.2 = y
  | [], h => by cases h
  | (a, b) :: l, h => by
    rw [List.lookup_cons] at h
    cases e : z == a with
    | true => rw [e] at h; exact ⟨_, List.mem_cons_self, Option.some.inj h⟩
    | false =>
      rw [e] at h
      obtain ⟨p, hp, q⟩ := look_mem h
      exact ⟨p, List.mem_cons_of_mem _ hp, q⟩
section
variable {P : Program} {w : World} {K : PySem.W.Frag} {mg : Str → Option Value} {base : Heap} {f : Addr} {fd : FuncData}
def spFault (K : PySem.W.Frag) : Sp := fun vs H Q _ => ∃ (x : Str) (p : Addr) (ws : List Str) (n : Nat), vs = [.str x, .ref p, .int n] ∧ H p = some (.lst (ws.map V.str)) ∧ n ≤ ws.length ∧ ws.length ≤ 1000 ∧ x.length ≤ 1000 ∧ (∀ z ∈ ws, z.length ≤ 1000) ∧ ∀ H', Same H H' → Q (.int (if n = ws.length then (x.length : Int) else (((ws.take n).map fun z => (z.length : Int) + 1)).sum)) H'
theorem cutNat (xs : List V) (n : Nat) (h : n ≤ xs.length) : cutV xs none (some (n : Int)) = xs.take n := by
  unfold cutV
  rw [HT.sIx_nat, HT.sIx_none, List.drop_zero, Nat.sub_zero, Nat.min_eq_left h]
theorem ok_fault (Z : Free mg) (F : FnP K "fault_of" "fault_of" s_fault [] f fd) : FnOk P w K mg base CX0 1 f fd ["text", "words", "count"] (spFault K) := by
  refine F.ok scFault (fun vs H Q E h => ?_) (fun cdv A outer s H vs Q E hr h => ?_)
  · obtain ⟨a, b, c, d, rfl, _⟩ := h
    rfl
  · have hu := hu_of hr
    obtain ⟨x, p, ws, n, rfl, hp, hn, hl, hxl, hwl, k⟩ := h
    refine ⟨_, PSs.nox (pss_cons (ps_if (pt_cmpR op_eq (pv 2) (pe_callB call_len_seq (by rfl) Z.len PySem.boot_len (pa_cons (pv 1) pa_nil)) (nomark _)) 
        (pss_one (ps_ret (pe_callB call_len_str (by rfl) Z.len PySem.boot_len (pa_cons (pv 0) pa_nil)))) pss_nil)
      (pss_one (ps_ret (pe_callB (cr_sum rfl) (by rfl) Z.sum (by decide +kernel) (pa_cons (pe_lc (own := [("word", 3)]) (g := (gName 3)) (by rfl) scFault.nd (pi_list (pe_slice sl_list (pv 1) po_none (po_some (pv 2)))) (blkOk_by (own := [("word", 3)]) (N := ["text", "words", "count", "word"]) (sc := defScope (top 33)) (by decide +kernel)) (fun _ _ _ _ _ => (pg_name (i := 3) scFault.nd rfl (Or.inl rfl))) (fun _ _ _ _ _ => pts_nil) (fun _ _ _ _ _ => (pe_op op_add (pe_callB call_len_str (by rfl) Z.len PySem.boot_len (pa_cons (pv 3) pa_nil)) pe_int))) pa_nil))))), ?_⟩
    walk_at "g"
    refine iteB (fun hb => ?_) (fun hb => ?_)
    · walk_at "g"
      have e : n = ws.length := by have := of_decide_eq_true hb; simp at this; omega
      rw [if_pos e] at k
      exact k _ (Same.refl _)
    · have e : ¬ n = ws.length := fun e => of_decide_eq_false hb (by rw [e, List.length_map])
      rw [if_neg e] at k
      walk_at "g"
      rw [cutNat _ _ (by rw [List.length_map]; exact hn), ← List.map_take]
      rename_i p1 n1
      refine ⟨⟨_, SqL.of upd_same⟩, fun D nD => lc_list (xs := (ws.take n).map V.str) (fun i H' => H' = upd (upd H p1 (.lst ((ws.take n).map V.str))) D (.lst (((ws.take n).take i).map fun z => V.int ((z.length : Int) + 1)))) ?_ (fun i H' hi e => ?_) (fun i y H' hi e => ?_) fun H' e => ?_⟩
      · rfl
      · subst e
        exact SqL.of ((upd_ne (ne_nw nD upd_same)).trans upd_same)
      · subst e
        rw [List.getElem?_map] at hi
        obtain ⟨z, hz, rfl⟩ := Option.map_eq_some_iff.mp hi
        have hzm : z.length ≤ 1000 := hwl _ (List.mem_of_mem_take (List.mem_of_getElem? hz))
        walk_at "g"
        exact ⟨_, upd_same, by rw [List.length_map, List.length_take, List.length_take]; exact small1000 (by omega), grow hz⟩
      · subst e
        rw [show (ws.take n).take ((ws.take n).map V.str).length = ws.take n from by rw [List.length_map, List.take_length]]
        refine ⟨D, (ws.take n).map fun z => (z.length : Int) + 1, rfl, SqL.of ?_, k _ (Same.new (Same.new (Same.refl _) n1) nD)⟩
        rw [upd_same, List.map_map]
        rfl
def spExch : Sp := fun vs H Q _ => ∃ (x : Str) (d : Addr) (kvs : List (Str × Str)), vs = [.str x, .ref d] ∧ H d = some (.dK (kp (kvS kvs))) ∧ x.length ≤ 1000 ∧ (∀ p ∈ kvs, p.2.length ≤ 10) ∧
  ∀ H', Same H H' → Q (.str (Txt.join " " ((Txt.split x " ").map fun z => (kvs.lookup z).getD z))) H'
theorem kvS_look (z : Str) : ∀ kvs : List (Str × Str), valV (kp (kvS kvs)) (.inr z) = (kvs.lookup z).map V.str
  | [] => rfl
  | p :: r => by
    rw [kp_val]
    obtain ⟨a, b⟩ := p
    show List.lookup z ((a, V.str b) :: kvS r) = _
    rw [List.lookup_cons, List.lookup_cons]
    cases z == a with
    | true => rfl
    | false =>
      show List.lookup z (kvS r) = _
      rw [← kp_val]
      exact kvS_look z r
theorem ok_exch (Z : Free mg) (F : FnP K "exchanged" "exchanged" s_exch [] f fd) : FnOk P w K mg base CX0 1 f fd ["text", "words"] spExch := by
  refine F.ok scExch (fun vs H Q E h => ?_) (fun cdv A outer s H vs Q E hr h => ?_)
  · obtain ⟨a, b, c, rfl, _⟩ := h
    rfl
  · have hu := hu_of hr
    obtain ⟨x, d, kvs, rfl, hd, hxl, hvl, k⟩ := h
    refine ⟨_, PSs.nox (pss_one (ps_ret (pe_join pe_str (pe_lc (own := [("word", 2)]) (g := (gName 2)) (by rfl) scExch.nd (pi_list (pe_split (pv 0) pe_str)) (blkOk_by (own := [("word", 2)]) (N := ["text", "words", "word"]) (sc := defScope (top 35)) (by decide +kernel)) (fun _ _ _ _ _ => (pg_name (i := 2) scExch.nd rfl (Or.inl rfl))) (fun _ _ _ _ _ => pts_nil) (fun _ _ _ _ _ => (pe_dget2 hu (pv 1) (pv 2) (pv 2) ⟨by rfl, by rfl, by rfl, by rfl⟩)))))), ?_⟩
    refine ⟨⟨_, rfl⟩, ?_⟩
    walk_at "g"
    refine ⟨⟨_, rfl⟩, ?_⟩
    refine ⟨_, _, rfl, rfl, by decide, Nat.le_trans (show x.length + 2 ≤ 1002 by omega) (Nat.le_of_ble_eq_true rfl), fun p n1 => ?_⟩
    have hlen : (Txt.split x " ").length ≤ 1002 := Nat.le_trans (split_le x " ") (by omega)
    refine ⟨p, rfl, ⟨_, SqL.of upd_same⟩, fun D nD => lc_list (xs := (Txt.split x " ").map V.str) (fun i H' => H' = upd (upd H p (.lst ((Txt.split x " ").map V.str))) D (.lst (((Txt.split x " ").take i).map fun z => V.str ((kvs.lookup z).getD z)))) rfl (fun i H' hi e => ?_) (fun i y H' hi e => ?_) fun H' e => ?_⟩
    · subst e
      exact SqL.of ((upd_ne (ne_nw nD upd_same)).trans upd_same)
    · subst e
      rw [List.getElem?_map] at hi
      obtain ⟨z, hz, rfl⟩ := Option.map_eq_some_iff.mp hi
      have hd1 : upd (upd H p (.lst ((Txt.split x " ").map V.str))) D (.lst (((Txt.split x " ").take i).map fun z => V.str ((kvs.lookup z).getD z))) d = some (.dK (kp (kvS kvs))) := by
        have e1 := (upd_ne (o := HO.lst ((Txt.split x " ").map V.str)) (ne_nw n1 hd)).trans hd
        exact (upd_ne (ne_nw nD e1)).trans e1
      refine ⟨rfl, ?_⟩
      refine ⟨_, rfl, d, rfl, .inl ⟨_, .inl hd1⟩, _, rfl, _, rfl, _, .inl ⟨_, .inr z, .inl hd1, rfl, rfl⟩, ?_⟩
      rw [kvS_look]
      have ev : (((kvs.lookup z).map V.str).getD (V.str z)) = V.str ((kvs.lookup z).getD z) := by cases kvs.lookup z <;> rfl
      rw [ev]
      exact ⟨_, upd_same, by rw [List.length_map, List.length_take]; exact Nat.lt_of_le_of_lt (show min i _ ≤ 1002 by omega) (Nat.lt_of_succ_le (Nat.le_of_ble_eq_true rfl)), grow (F := fun z => V.str ((kvs.lookup z).getD z)) hz⟩
    · subst e
      rw [show (Txt.split x " ").take ((Txt.split x " ").map V.str).length = Txt.split x " " from by rw [List.length_map, List.take_length]]
      refine ⟨_, _, (Txt.split x " ").map fun z => (kvs.lookup z).getD z, rfl, rfl, .inl (SqL.of ?_), ?_, k _ (Same.new (Same.new (Same.refl _) n1) nD)⟩
      · rw [upd_same, List.map_map]
        rfl
      · have hz : ∀ z ∈ (Txt.split x " ").map (fun z => (kvs.lookup z).getD z), z.length ≤ 1000 := fun z hz => by
          obtain ⟨y, hy, rfl⟩ := List.mem_map.mp hz
          cases e : kvs.lookup y with
          | none => exact Nat.le_trans (part_short hy) hxl
          | some v =>
            obtain ⟨q, hq, rfl⟩ := look_mem e
            exact Nat.le_trans (hvl q hq) (by decide)
        have h1 := sum_le hz
        rw [List.length_map] at h1 ⊢
        have h2 : (Str.ofString " ").length = 1 := by decide
        rw [h2]
        have h3 := Nat.mul_le_mul_right 1000 hlen
        omega
def spText : (Str → Str) → Sp := fun F vs H Q _ => ∃ x, vs = [.str x] ∧ x.length ≤ 1000 ∧ ∀ H', Same H H' → Q (.str (F x)) H'
def exch (kvs : List (Str × Str)) (x : Str) : Str := Txt.join " " ((Txt.split x " ").map fun z => (kvs.lookup z).getD z)
theorem ok_mirr (Z : Free mg) (TB : Tb K w mg) (F : FnP K "mirrored_text" "mirrored_text" s_mirr [] f fd) {fd1 : FuncData} {f1 : Addr} (Cx : Cal P w K mg base CX0 1 "exchanged" ["text", "words"] spExch f1 fd1) : FnOk P w K mg base CX0 2 f fd ["text"] (spText (exch mirr)) := by
  refine F.ok scMirr (fun vs H Q E h => ?_) (fun cdv A outer s H vs Q E hr h => ?_)
  · obtain ⟨a, rfl, _⟩ := h
    rfl
  · obtain ⟨x, rfl, hxl, k⟩ := h
    refine ⟨_, PSs.nox (pss_one (ps_ret (pe_call Cx.ok (hr.mono (by omega)) rfl Cx.mg Cx.kp Cx.b .nil pass0 (pa_cons (pv 0) (pa_cons (pe_callTy call_dictK (by rfl) Z.dict (by decide +kernel) (pa_cons (pe_glob (v := .ref _) rfl TB.m_MIRRORED rfl) pa_nil)) pa_nil))))), ?_⟩
    refine ⟨_, rfl, _, _, rfl, TB.k_MIRRORED, fun p n1 => ?_⟩
    exact ⟨x, p, mirr, rfl, upd_same, hxl, by decide +kernel, fun H2 s2 => k H2 (fun b o e => s2 b o (Same.new (Same.refl _) n1 b o e))⟩
theorem ok_turn (Z : Free mg) (TB : Tb K w mg) (F : FnP K "turned_text" "turned_text" s_turn [] f fd) {fd1 : FuncData} {f1 : Addr} (Cx : Cal P w K mg base CX0 1 "exchanged" ["text", "words"] spExch f1 fd1) : FnOk P w K mg base CX0 2 f fd ["text"] (spText (exch turn)) := by
  refine F.ok scTurn (fun vs H Q E h => ?_) (fun cdv A outer s H vs Q E hr h => ?_)
  · obtain ⟨a, rfl, _⟩ := h
    rfl
  · obtain ⟨x, rfl, hxl, k⟩ := h
    refine ⟨_, PSs.nox (pss_one (ps_ret (pe_call Cx.ok (hr.mono (by omega)) rfl Cx.mg Cx.kp Cx.b .nil pass0 (pa_cons (pv 0) (pa_cons (pe_callTy call_dictK (by rfl) Z.dict (by decide +kernel) (pa_cons (pe_glob (v := .ref _) rfl TB.m_TURNED rfl) pa_nil)) pa_nil))))), ?_⟩
    refine ⟨_, rfl, _, _, rfl, TB.k_TURNED, fun p n1 => ?_⟩
    exact ⟨x, p, turn, rfl, upd_same, hxl, by decide +kernel, fun H2 s2 => k H2 (fun b o e => s2 b o (Same.new (Same.refl _) n1 b o e))⟩
end
end K9
set_option Elab.async false
set_option linter.all false
set_option maxRecDepth 100000
set_option maxHeartbeats 4000000
/-! The reading of a look as a plain function, and lists of tuples on the tracked heap. -/
namespace K9
open PySem PySem.Spec PyProof.Rows L2
abbrev Sg := Str × Int × Int
abbrev Fr := Str × Int × Int × Int
def sgV (x : Sg) : List V := [.str x.1, .int x.2.1, .int x.2.2]
def frV (x : Fr) : List V := [.str x.1, .int x.2.1, .int x.2.2.1, .int x.2.2.2]
/-- the reader's state; the stack's top first -/
structure Rd where
  signs : List Sg
  stack : List Fr
  right : Int
  up : Int
  wanted : Bool
def topKind : List Fr → Str
  | [] => ""
  | f :: _ => f.1
def closes : List Fr → List Fr
  | [] => []
  | f :: r => if f.1 = "step" then closes r else f :: r
def rdStep (R : Rd) (w : Str) : Option Rd :=
  if ((!R.wanted && R.stack.isEmpty) || !goesOn w R.wanted (topKind R.stack)) = true then none else
  match stepL.lookup w with
  | some (dx, dy) => some ⟨R.signs ++ [(w, R.right, R.up)], ("step", 0, R.right, R.up) :: R.stack, R.right + dx, R.up + dy, R.wanted⟩
  | none =>
    if w = "(" then some ⟨R.signs ++ [(w, R.right, R.up)], ("first", (R.signs.length : Int), R.right, R.up) :: R.stack, R.right, R.up, R.wanted⟩
    else if opB w = true then (match R.stack with
      | [] => none
      | f :: r => some ⟨R.signs.set f.2.1.toNat (w, f.2.2.1, f.2.2.2), ("second", f.2.1, f.2.2.1, f.2.2.2) :: r, f.2.2.1, f.2.2.2, true⟩)
    else if w = ")" then (match R.stack with
      | [] => none
      | _ :: r => some ⟨R.signs, closes r, R.right, R.up, false⟩)
    else some ⟨R.signs ++ [(w, R.right, R.up)], closes R.stack, R.right, R.up, false⟩
def rdAll : Nat → Rd → List Str → Nat × Bool × List Sg
  | n, R, [] => (n, !R.wanted && R.stack.isEmpty, R.signs)
  | n, R, w :: ws => match rdStep R w with
    | none => (n, false, R.signs)
    | some R' => rdAll (n + 1) R' ws
def rd0 : Rd := ⟨[], [], 0, 0, true⟩
/-- every frame's place is a place of the signs -/
structure OkR (R : Rd) (n : Nat) : Prop where
  fr : ∀ f ∈ R.stack, 0 ≤ f.2.1 ∧ f.2.1 < R.signs.length
  sl : R.signs.length ≤ n
  tl : R.stack.length ≤ n
theorem OkR.to {R R' : Rd} {n : Nat} (h : OkR R n) (h1 : R.signs.length ≤ R'.signs.length) (h2 : R'.signs.length ≤ R.signs.length + 1) (h3 : R'.stack.length ≤ R.stack.length + 1)
    (h4 : ∀ f ∈ R'.stack, (∃ g ∈ R.stack, f.2.1 = g.2.1) ∨ (0 ≤ f.2.1 ∧ f.2.1 < R'.signs.length)) : OkR R' (n + 1) := by
  refine ⟨fun f hf => ?_, Nat.le_trans h2 (Nat.succ_le_succ h.sl), Nat.le_trans h3 (Nat.succ_le_succ h.tl)⟩
  rcases h4 f hf with ⟨g, hg, e⟩ | z
  · have := h.fr g hg
    rw [e]
    exact ⟨this.1, by omega⟩
  · exact z
theorem closes_sub : ∀ {l : List Fr} {f : Fr}, f ∈ closes l → f ∈ l
  | g :: r, f, h => by
    unfold closes at h
    by_cases e : g.1 = "step"
    · rw [if_pos e] at h
      exact List.mem_cons_of_mem _ (closes_sub h)
    · rwa [if_neg e] at h
theorem closes_len : ∀ l : List Fr, (closes l).length ≤ l.length
  | [] => Nat.le_refl _
  | g :: r => by
    unfold closes
    by_cases e : g.1 = "step"
    · rw [if_pos e]
      exact Nat.le_trans (closes_len r) (Nat.le_succ _)
    · rw [if_neg e]
      exact Nat.le_refl _
theorem rdAll_none {n : Nat} {R : Rd} {x : Str} {ws : List Str} (h : rdStep R x = none) : rdAll n R (x :: ws) = (n, false, R.signs) := by
  show (match rdStep R x with | none => _ | some R' => _) = _
  rw [h]
theorem rdAll_some {n : Nat} {R R' : Rd} {x : Str} {ws : List Str} (h : rdStep R x = some R') : rdAll n R (x :: ws) = rdAll (n + 1) R' ws := by
  show (match rdStep R x with | none => _ | some R' => _) = _
  rw [h]
theorem ixN_of {n : Nat} {k : Int} (h0 : 0 ≤ k) (h1 : k < n) : ixN n k = some k.toNat := by
  unfold ixN
  rw [if_pos h0, if_pos (by omega)]
theorem goes_op {wd k : Str} {wn : Bool} (ho : opB wd = true) (hg : goesOn wd wn k = true) : wn = false ∧ k = "first" := by
  have hw : wd = "+" ∨ wd = "&" := by
    unfold opB at ho
    simpa using ho
  cases wn with
  | true =>
    exfalso
    unfold goesOn at hg
    rw [if_pos rfl] at hg
    rcases hw with rfl | rfl <;> revert hg <;> decide +kernel
  | false =>
    refine ⟨rfl, ?_⟩
    unfold goesOn at hg
    rw [if_neg Bool.false_ne_true] at hg
    by_cases e : k = "first"
    · exact e
    · rw [if_neg e] at hg
      exfalso
      rcases hw with rfl | rfl <;> revert hg <;> decide +kernel
theorem goes_close {k : Str} {wn : Bool} (hg : goesOn ")" wn k = true) : wn = false ∧ k ≠ "first" := by
  cases wn with
  | true =>
    exfalso
    unfold goesOn at hg
    rw [if_pos rfl] at hg
    revert hg
    decide +kernel
  | false =>
    refine ⟨rfl, fun e => ?_⟩
    unfold goesOn at hg
    rw [if_neg Bool.false_ne_true, if_pos e] at hg
    revert hg
    decide +kernel
/-! ### a list of tuples -/
structure LRa (H : Hp) (p : Addr) (as : List Addr) (rows : List (List V)) : Prop where
  l : H p = some (.lst (as.map V.ref))
  r : Paired (fun a r => H a = some (.tup r)) as rows
def LR (H : Hp) (p : Addr) (rows : List (List V)) : Prop := ∃ as, LRa H p as rows
theorem paired_mono {α β : Type} {F G : α → β → Prop} (h : ∀ a b, F a b → G a b) : ∀ {l : List α} {m : List β}, Paired F l m → Paired G l m
  | _, _, .nil => .nil
  | _, _, .cons a b => .cons (h _ _ a) (paired_mono h b)
theorem paired_get {α β : Type} {F : α → β → Prop} : ∀ {l : List α} {m : List β}, Paired F l m → ∀ {i : Nat} {a : α} {b : β}, l[i]? = some a → m[i]? = some b → F a b
  | _, _, .nil, i, _, _, h, _ => by simp at h
  | _, _, .cons h t, 0, _, _, e1, e2 => by
    cases Option.some.inj e1
    cases Option.some.inj e2
    exact h
  | _, _, .cons h t, i + 1, _, _, e1, e2 => paired_get t e1 e2
section
variable {H H' : Hp} {p q : Addr} {as : List Addr} {rows : List (List V)} {row : List V}
theorem LRa.len (h : LRa H p as rows) : as.length = rows.length := h.r.length
theorem LRa.same (h : LRa H p as rows) (s : Same H H') : LRa H' p as rows := ⟨s _ _ h.l, paired_mono (fun a b e => s _ _ e) h.r⟩
theorem LR.same (h : LR H p rows) (s : Same H H') : LR H' p rows := let ⟨as, z⟩ := h; ⟨as, z.same s⟩
theorem LRa.but {j : Addr} (h : LRa H p as rows) (s : But j H H') (ne : p ≠ j) (nl : ∀ r, H j ≠ some (.tup r)) : LRa H' p as rows :=
  ⟨s _ _ h.l ne, paired_mono (fun a b e => s _ _ e (fun z => nl b (z ▸ e))) h.r⟩
/-- another list is written -/
theorem LRa.other {xs ys : List V} (h : LRa H p as rows) (hq : H q = some (.lst xs)) (ne : p ≠ q) : LRa (upd H q (.lst ys)) p as rows :=
  ⟨(upd_ne ne).trans h.l, paired_mono (fun a b e => (upd_ne (fun z => by rw [z, hq] at e; cases e)).trans e) h.r⟩
theorem LRa.rowU {xs : List V} (h : LRa H p as rows) : Paired (fun a r => upd H p (.lst xs) a = some (.tup r)) as rows :=
  paired_mono (fun a b e => (upd_ne (fun z => by rw [z, h.l] at e; cases e)).trans e) h.r
theorem LRa.push (h : LRa H p as rows) (hq : H q = some (.tup row)) : LRa (upd H p (.lst (as.map V.ref ++ [.ref q]))) p (as ++ [q]) (rows ++ [row]) :=
  ⟨by rw [upd_same, List.map_append]; rfl, h.rowU.snoc ((upd_ne (fun z => by rw [z, h.l] at hq; cases hq)).trans hq)⟩
theorem LRa.last (h : LRa H p as (rows ++ [row])) : ∃ bs b, as = bs ++ [b] ∧ H b = some (.tup row) ∧ LRa (upd H p (.lst (as.map V.ref).dropLast)) p bs rows := by
  have hl := h.len
  rw [List.length_append, List.length_singleton] at hl
  obtain ⟨bs, b, rfl⟩ : ∃ bs b, as = bs ++ [b] := ⟨as.dropLast, as.getLast (by intro z; subst z; simp at hl), (List.dropLast_concat_getLast _).symm⟩
  rw [List.length_append, List.length_singleton] at hl
  have hl : bs.length = rows.length := by omega
  have h1 : H b = some (.tup row) := paired_get h.r (i := bs.length) (by simp) (by rw [hl]; simp)
  refine ⟨bs, b, rfl, h1, ?_, ?_⟩
  · rw [upd_same, List.map_append, List.map_singleton, List.dropLast_concat]
  · have hr := h.rowU (xs := ((bs ++ [b]).map V.ref).dropLast)
    have : ∀ {l : List Addr} {m : List (List V)} {F : Addr → List V → Prop}, Paired F (l ++ [b]) (m ++ [row]) → l.length = m.length → Paired F l m := by
      intro l
      induction l with
      | nil =>
        intro m F _ e
        cases m with
        | nil => exact .nil
        | cons _ _ => cases e
      | cons x l ih =>
        intro m F z e
        cases m with
        | nil => cases e
        | cons y m =>
          cases z with
          | cons z1 z2 => exact .cons z1 (ih z2 (Nat.succ.inj e))
    exact this hr hl
theorem LRa.set {i : Nat} (h : LRa H p as rows) (hq : H q = some (.tup row)) : LRa (upd H p (.lst ((as.map V.ref).set i (.ref q)))) p (as.set i q) (rows.set i row) := by
  refine ⟨by rw [upd_same, List.map_set], ?_⟩
  have hr := h.rowU (xs := (as.map V.ref).set i (.ref q))
  have hz : upd H p (.lst ((as.map V.ref).set i (.ref q))) q = some (.tup row) := (upd_ne (fun z => by rw [z, h.l] at hq; cases hq)).trans hq
  have : ∀ {l : List Addr} {m : List (List V)} {F : Addr → List V → Prop} (i : Nat), Paired F l m → F q row → Paired F (l.set i q) (m.set i row) := by
    intro l
    induction l with
    | nil =>
      intro m F i z w
      cases z
      exact .nil
    | cons x l ih =>
      intro m F i z w
      cases z with
      | cons z1 z2 =>
        cases i with
        | zero => exact .cons w z2
        | succ i => exact .cons z1 (ih i z2 w)
  exact this i hr hz
theorem LRa.fresh (h : LRa H p as rows) (n : H q = none) {o : HO} : LRa (upd H q o) p as rows := h.same (Same.new (Same.refl _) n)
theorem LRa.emp {st : List Fr} (h : LRa H p as (st.reverse.map frV)) : (as.map V.ref).isEmpty = st.isEmpty := by
  have e := h.len
  rw [List.length_map, List.length_reverse] at e
  cases as <;> cases st <;> first | rfl | (simp at e)
theorem LRa.tru {K : PySem.W.Frag} {st : List Fr} (h : LRa H p as (st.reverse.map frV)) : TruV K (.ref p) H (!st.isEmpty) := .inl ⟨_, SqL.of h.l, by rw [h.emp]⟩
theorem LRa.top {f : Fr} {r : List Fr} (h : LRa H p as ((f :: r).reverse.map frV)) : ∃ b, atI (as.map V.ref) (-1) = some (.ref b) ∧ H b = some (.tup (frV f)) := by
  rw [List.reverse_cons, List.map_append] at h
  obtain ⟨bs, b, rfl, hb, _⟩ := LRa.last (row := frV f) h
  exact ⟨b, by rw [List.map_append]; exact atI_last _ _, hb⟩
theorem sameU {H0 : Hp} {o : HO} (s : Same H0 H) (n : H0 p = none) : Same H0 (upd H p o) := fun b u h => (upd_ne (fun z => by rw [z, n] at h; cases h)).trans (s b u h)
theorem two_push {H0 : Hp} {T : Addr} {bs : List Addr} {rows2 : List (List V)} (l1 : LRa H p as rows) (l2 : LRa H q bs rows2) (s1 : Same H0 H) (ne : p ≠ q) (n : H0 p = none) (nT : H T = none) :
    LRa (upd (upd H T (.tup row)) p (.lst (as.map V.ref ++ [.ref T]))) p (as ++ [T]) (rows ++ [row]) ∧ LRa (upd (upd H T (.tup row)) p (.lst (as.map V.ref ++ [.ref T]))) q bs rows2 ∧ Same H0 (upd (upd H T (.tup row)) p (.lst (as.map V.ref ++ [.ref T]))) :=
  ⟨(l1.fresh nT).push upd_same, (l2.fresh nT).other (l1.fresh nT).l (Ne.symm ne), sameU (Same.new s1 nT) n⟩
theorem two_set {H0 : Hp} {T : Addr} {i : Nat} {bs : List Addr} {rows2 : List (List V)} (l1 : LRa H p as rows) (l2 : LRa H q bs rows2) (s1 : Same H0 H) (ne : p ≠ q) (n : H0 p = none) (nT : H T = none) :
    LRa (upd (upd H T (.tup row)) p (.lst ((as.map V.ref).set i (.ref T)))) p (as.set i T) (rows.set i row) ∧ LRa (upd (upd H T (.tup row)) p (.lst ((as.map V.ref).set i (.ref T)))) q bs rows2 ∧ Same H0 (upd (upd H T (.tup row)) p (.lst ((as.map V.ref).set i (.ref T)))) :=
  ⟨(l1.fresh nT).set upd_same, (l2.fresh nT).other (l1.fresh nT).l (Ne.symm ne), sameU (Same.new s1 nT) n⟩
end
end K9
set_option Elab.async false
set_option linter.all false
set_option maxRecDepth 100000
set_option maxHeartbeats 4000000
/-! One lemma for each form of a reading, by its head. -/
namespace K9
open PySem PySem.Spec PyProof.Rows L2
section
variable {σ : L2.St} {H : Hp} {Q : VK} {ta tb tc te : TE} {t tr : TA} {D : Ends}
theorem tVar_i {i : Nat} {v : V} (h : σ[i]? = some (some v)) (k : Q v H) : tVar i σ H Q := ⟨v, h, k⟩
theorem tC_i {v : V} (k : Q v H) : tC v σ H Q := k
theorem tNil_i {Q : List V → Hp → Prop} (k : Q [] H) : tNil σ H Q := k
theorem tCons_i {Q : List V → Hp → Prop} (k : ta σ H fun x H1 => tr σ H1 fun xs H2 => Q (x :: xs) H2) : tCons ta tr σ H Q := k
theorem tOp_i {r : R2} (k : ta σ H fun x H1 => tb σ H1 fun y H2 => r x y H2 Q) : tOp r ta tb σ H Q := k
theorem tUn_i {r : V → Hp → VK → Prop} (k : ta σ H fun x H1 => r x H1 Q) : tUn r ta σ H Q := k
theorem tCB_i {r : List V → Hp → VK → Prop} (k : t σ H fun vs H1 => r vs H1 Q) : tCB r t σ H Q := k
theorem tCall_i {sp : Sp} {dvs : List V} {E : XK} (k : t σ H fun vs H1 => sp (vs ++ dvs) H1 Q E) : tCall sp dvs E t σ H Q := k
theorem tTup_i (k : t σ H fun xs H1 => xs.length ≤ sizeLine ∧ ∀ p, H1 p = none → Q (.ref p) (upd H1 p (.tup xs))) : tTup t σ H Q := k
theorem tLst_i (k : t σ H fun xs H1 => xs.length ≤ sizeLine ∧ ∀ p, H1 p = none → Q (.ref p) (upd H1 p (.lst xs))) : tLst t σ H Q := k
theorem tSeq_i {t u : TS} (k : t { D with nx := u D } σ H) : tSeq t u D σ H := k
theorem tAsg_i {g : TG} (k : te σ H fun x H1 => g x σ H1 D.nx) : tAsg te g D σ H := k
theorem tDrop_i (k : te σ H fun _ H1 => D.nx σ H1) : tDrop te D σ H := k
theorem tRet_i (k : te σ H D.rt) : tRet te D σ H := k
theorem tRetN_i (k : D.rt .non H) : tRetN D σ H := k
theorem tNext_i (k : D.nx σ H) : tNext D σ H := k
theorem tIfS_i {c : TT} {t u : TS} (k : c σ H fun b H1 => if b = true then t D σ H1 else u D σ H1) : tIfS c t u D σ H := k
theorem tIf_i {c : TT} (k : c σ H fun b H1 => if b = true then ta σ H1 Q else tb σ H1 Q) : tIf c ta tb σ H Q := k
theorem tTest_i {Q : Bool → Hp → Prop} (k : te σ H fun x H' => ∃ k, x = .bl k ∧ Q k H') : tTest te σ H Q := k
theorem tB_i {Q : Bool → Hp → Prop} (k : te σ H fun x H' => ∃ k, x = .bl k ∧ Q k H') : tB te σ H Q := k
theorem tNot_i {c : TT} {Q : Bool → Hp → Prop} (k : c σ H fun c H1 => Q (!c) H1) : tNot c σ H Q := k
theorem tAnd_i {t u : TT} {Q : Bool → Hp → Prop} (k : t σ H fun c H1 => if c = true then u σ H1 Q else Q false H1) : tAnd t u σ H Q := k
theorem tOr_i {t u : TT} {Q : Bool → Hp → Prop} (k : t σ H fun c H1 => if c = true then Q true H1 else u σ H1 Q) : tOr t u σ H Q := k
theorem tAndV_i (k : ta σ H fun x H1 => ∃ c, x = .bl c ∧ if c = true then tb σ H1 Q else Q (.bl false) H1) : tAndV ta tb σ H Q := k
theorem tOrV_i (k : ta σ H fun x H1 => ∃ c, x = .bl c ∧ if c = true then Q (.bl true) H1 else tb σ H1 Q) : tOrV ta tb σ H Q := k
theorem tNotV_i (k : ta σ H fun x H1 => ∃ c, x = .bl c ∧ Q (.bl (!c)) H1) : tNotV ta σ H Q := k
theorem tNotT_i {K : PySem.W.Frag} (k : ta σ H fun x H1 => ∃ k, TruV K x H1 k ∧ Q (.bl (!k)) H1) : tNotT K ta σ H Q := k
theorem bl_i {b : Bool} {Q : Bool → Prop} (k : Q b) : ∃ c, V.bl b = .bl c ∧ Q c := ⟨b, rfl, k⟩
theorem gName_i {i : Nat} {v : V} {Q : L2.St → Hp → Prop} (k : Q (σ.set i (some v)) H) : gName i v σ H Q := k
theorem gNil_i {Q : L2.St → Hp → Prop} (k : Q σ H) : gNil [] σ H Q := ⟨rfl, k⟩
theorem gTup_i {K : PySem.W.Frag} {n : Nat} {u : TGs} {a : Addr} {xs : List V} {Q : L2.St → Hp → Prop} (h : SqT K H a xs) (hl : xs.length = n) (k : u xs σ H Q) : gTup K n u (.ref a) σ H Q := ⟨a, xs, rfl, h, hl, k⟩
theorem tPar_i {i j : Nat} (k : t σ H fun vs H1 => ∃ v w, vs = [v, w] ∧ D.nx ((σ.set i (some v)).set j (some w)) H1) : tPar i j t D σ H := k
theorem tPar3_i {i j l : Nat} (k : t σ H fun vs H1 => ∃ u v w, vs = [u, v, w] ∧ D.nx (((σ.set i (some u)).set j (some v)).set l (some w)) H1) : tPar3 i j l t D σ H := k
theorem par2_i {v w : V} {P : V → V → Prop} (k : P v w) : ∃ a b, [v, w] = [a, b] ∧ P a b := ⟨v, w, rfl, k⟩
theorem par3_i {u v w : V} {P : V → V → V → Prop} (k : P u v w) : ∃ a b c, [u, v, w] = [a, b, c] ∧ P a b c := ⟨u, v, w, rfl, k⟩
theorem rI0_i {g : Int → Int → V} {i j : Int} (k : Q (g i j) H) : rI0 g (.int i) (.int j) H Q := ⟨i, j, rfl, rfl, k⟩
theorem rI_i {C : Int → Int → Prop} {g : Int → Int → V} {i j : Int} (h : C i j) (k : Q (g i j) H) : rI C g (.int i) (.int j) H Q := ⟨i, j, rfl, rfl, h, k⟩
theorem rEq_i {x y : V} (h : scal x y = true) (k : Q (.bl (decide (x = y))) H) : rEq x y H Q := ⟨h, k⟩
theorem rNe_i {x y : V} (h : scal x y = true) (k : Q (.bl (!decide (x = y))) H) : rNe x y H Q := ⟨h, k⟩
theorem rIxL_i {K : PySem.W.Frag} {p : Addr} {xs : List V} {i : Int} {v : V} (h : SqL K H p xs) (e : atI xs i = some v) (k : Q v H) : rIxL K (.ref p) (.int i) H Q := ⟨p, xs, i, v, rfl, rfl, h, e, k⟩
theorem rIxT_i {K : PySem.W.Frag} {p : Addr} {xs : List V} {i : Int} {v : V} (h : SqT K H p xs) (e : atI xs i = some v) (k : Q v H) : rIxT K (.ref p) (.int i) H Q := ⟨p, xs, i, v, rfl, rfl, h, e, k⟩
theorem tBM_iL {K : PySem.W.Frag} {r : V → List V → Hp → VK → Prop} {to : TE} (k : to σ H fun x H1 => tyV K "list" x H1 ∧ t σ H1 fun xs H2 => r x xs H2 Q) : tBM K "list" r to t σ H Q := k
theorem tBM0_iL {K : PySem.W.Frag} {r : V → List V → Hp → VK → Prop} {to : TE} (k : to σ H fun x H1 => tyV K "list" x H1 ∧ r x [] H1 Q) : tBM0 K "list" r to σ H Q := k
theorem ty_i {K : PySem.W.Frag} {p : Addr} {xs : List V} {R : Prop} (h : SqL K H p xs) (k : R) : tyV K "list" (.ref p) H ∧ R := ⟨.inl ⟨rfl, xs, h⟩, k⟩
theorem rAppend_i {l : Addr} {xs : List V} {y : V} (h : H l = some (.lst xs)) (hz : xs.length < sizeLine) (k : Q .non (upd H l (.lst (xs ++ [y])))) : rAppend (.ref l) [y] H Q := ⟨l, xs, y, rfl, rfl, h, hz, k⟩
theorem rPop_i {l : Addr} {xs : List V} {y : V} (h : H l = some (.lst xs)) (hy : xs[xs.length - 1]? = some y) (k : Q y (upd H l (.lst xs.dropLast))) : rPop (.ref l) [] H Q := ⟨l, xs, y, rfl, rfl, h, hy, k⟩
theorem tM1_i {r : V → List V → Hp → VK → Prop} {to : TE} (k : to σ H fun x H1 => (∃ a, x = .str a) ∧ te σ H1 fun y H2 => r x [y] H2 Q) : tM1 r to te σ H Q := k
theorem tM0_i {r : V → List V → Hp → VK → Prop} {to : TE} (k : to σ H fun x H1 => (∃ a, x = .str a) ∧ r x [] H1 Q) : tM0 r to σ H Q := k
theorem str_i {x : Str} {R : Prop} (k : R) : (∃ a, V.str x = .str a) ∧ R := ⟨⟨x, rfl⟩, k⟩
theorem rU_i {g : Int → V} {i : Int} (k : Q (g i) H) : rU g (.int i) H Q := ⟨i, rfl, k⟩
theorem max2_i {a b : Int} {P : Int → Int → Prop} (k : P a b) : ∃ i j, [V.int a, .int b] = [.int i, .int j] ∧ P i j := ⟨a, b, rfl, k⟩
theorem len_i {K : PySem.W.Frag} {p : Addr} {xs : List V} {P : List V → Prop} (h : SqL K H p xs) (k : P xs) : ∃ q ys, [V.ref p] = [.ref q] ∧ (SqL K H q ys ∨ SqT K H q ys) ∧ P ys := ⟨p, xs, rfl, .inl h, k⟩
theorem lenT_i {K : PySem.W.Frag} {p : Addr} {xs : List V} {P : List V → Prop} (h : SqT K H p xs) (k : P xs) : ∃ q ys, [V.ref p] = [.ref q] ∧ (SqL K H q ys ∨ SqT K H q ys) ∧ P ys := ⟨p, xs, rfl, .inr h, k⟩
theorem tSl_i {r : V → Option Int → Option Int → Hp → VK → Prop} {tl th : TO} (k : te σ H fun x H1 => tl σ H1 fun l H2 => th σ H2 fun u H3 => r x l u H3 Q) : L2.tSl r te tl th σ H Q := k
theorem rSlL_i {K : PySem.W.Frag} {a : Addr} {xs : List V} {lo hi : Option Int} (h : SqL K H a xs) (k : ∀ p, H p = none → Q (.ref p) (upd H p (.lst (cutV xs lo hi)))) : rSlL K (.ref a) lo hi H Q := ⟨a, xs, rfl, h, k⟩
theorem rInT_i {K : PySem.W.Frag} {p : Addr} {xs : List V} {x : V} (h : SqT K H p xs) (fx : flatV x = true) (fs : xs.all flatV = true) (k : Q (.bl (inV x xs)) H) : rIn K false x (.ref p) H Q := ⟨p, xs, rfl, .inr h, fx, fs, by rw [if_neg Bool.false_ne_true]; exact k⟩
theorem rInL_i {K : PySem.W.Frag} {p : Addr} {xs : List V} {x : V} (h : SqL K H p xs) (fx : flatV x = true) (fs : xs.all flatV = true) (k : Q (.bl (inV x xs)) H) : rIn K false x (.ref p) H Q := ⟨p, xs, rfl, .inl h, fx, fs, by rw [if_neg Bool.false_ne_true]; exact k⟩
theorem rIxK_i {K : PySem.W.Frag} {w : World} {d : Addr} {kvs : List (Str × V)} {x : Str} {v : V} (h : KPairs K w d kvs) (e : kvs.lookup x = some v) (k : Q v H) : rIxK K w (.ref d) (.str x) H Q := ⟨d, kvs, x, v, rfl, rfl, h, e, k⟩
theorem rInK_i {K : PySem.W.Frag} {w : World} {d : Addr} {kvs : List (Str × V)} {x : Str} (h : KPairs K w d kvs) (k : Q (.bl (kvs.lookup x).isSome) H) : rInK K w (.str x) (.ref d) H Q := ⟨d, kvs, x, rfl, rfl, h, k⟩
theorem gSub_i {to ti : TE} {t : TSet} {v : V} {Q : L2.St → Hp → Prop} (k : to σ H fun o H1 => ti σ H1 fun i H2 => t o i v H2 fun H3 => Q σ H3) : gSub to ti t v σ H Q := k
theorem rSetL_i {p : Addr} {xs : List V} {k : Int} {j : Nat} {v : V} {Q : Hp → Prop} (h : H p = some (.lst xs)) (e : ixN xs.length k = some j) (q : Q (upd H p (.lst (xs.set j v)))) : rSetL (.ref p) (.int k) v H Q := ⟨p, xs, k, j, rfl, rfl, h, e, q⟩
theorem tRevL_i {K : PySem.W.Frag} (k : te σ H fun x H1 => ∃ a xs, x = .ref a ∧ SqL K H1 a xs ∧ ∀ p, H1 p = none → Q (.ref p) (upd H1 p (.lst xs.reverse))) : tRevL K te σ H Q := k
theorem rev_i {K : PySem.W.Frag} {p : Addr} {xs : List V} {P : List V → Prop} (h : SqL K H p xs) (k : P xs) : ∃ q ys, V.ref p = .ref q ∧ SqL K H q ys ∧ P ys := ⟨p, xs, rfl, h, k⟩
theorem tFld_i {K : PySem.W.Frag} {f : Str} (k : ta σ H fun x H1 => ∃ a C dx fs v, x = .ref a ∧ H1 a = some (.ins C dx fs) ∧ Cls K C ∧ NoAttr K C f ∧ fs.lookup f = some v ∧ Q v H1) : tFld K ta f σ H Q := k
theorem fld_i {K : PySem.W.Frag} {f : Str} {a C dx : Addr} {fs : List (Str × V)} {v : V} {P : V → Prop} (e : H a = some (.ins C dx fs)) (c : Cls K C) (n : NoAttr K C f) (l : fs.lookup f = some v) (k : P v) :
    ∃ b D dy gs u, V.ref a = .ref b ∧ H b = some (.ins D dy gs) ∧ Cls K D ∧ NoAttr K D f ∧ gs.lookup f = some u ∧ P u := ⟨a, C, dx, fs, v, rfl, e, c, n, l, k⟩
theorem sFld_i {K : PySem.W.Frag} {f : Str} {tv : TE} (k : tv σ H fun y H1 => ta σ H1 fun x H2 => ∃ a C dx fs, x = .ref a ∧ H2 a = some (.ins C dx fs) ∧ Cls K C ∧ NoAttr K C f ∧ fs.length < 1000 ∧ D.nx σ (upd H2 a (.ins C dx (putF f y fs)))) : sFld K ta tv f D σ H := k
theorem sfld_i {f : Str} {K : PySem.W.Frag} {a C dx : Addr} {fs : List (Str × V)} {P : Addr → Addr → Addr → List (Str × V) → Prop} (e : H a = some (.ins C dx fs)) (c : Cls K C) (n : NoAttr K C f) (l : fs.length < 1000) (k : P a C dx fs) :
    ∃ b D dy gs, V.ref a = .ref b ∧ H b = some (.ins D dy gs) ∧ Cls K D ∧ NoAttr K D f ∧ gs.length < 1000 ∧ P b D dy gs := ⟨a, C, dx, fs, rfl, e, c, n, l, k⟩
theorem tDisp_i {trs : List (TE × TE)} (k : ∀ p, H p = none → tPairs trs σ (upd H p (.dK [])) fun ps H2 => H2 p = some (.dK []) ∧ ∃ kvs : List (Key × V), ps = kvs.map (fun kv => (kV kv.1, kv.2)) ∧ kvs.length ≤ 15 ∧ Q (.ref p) (upd H2 p (.dK (mergeK [] kvs)))) : tDisp trs σ H Q := k
theorem tPairs0_i {Q : List (V × V) → Hp → Prop} (k : Q [] H) : tPairs [] σ H Q := k
theorem tPairs1_i {trs : List (TE × TE)} {Q : List (V × V) → Hp → Prop} (k : ta σ H fun x H1 => tb σ H1 fun y H2 => tPairs trs σ H2 fun ps H3 => Q ((x, y) :: ps) H3) : tPairs ((ta, tb) :: trs) σ H Q := k
theorem disp1_i {p : Addr} {x : Str} {v : V} {P : List (Key × V) → Prop} (h : H p = some (.dK [])) (k : P [(.inr x, v)]) : H p = some (.dK []) ∧ ∃ kvs : List (Key × V), [(V.str x, v)] = kvs.map (fun kv => (kV kv.1, kv.2)) ∧ kvs.length ≤ 15 ∧ P kvs := ⟨h, [(.inr x, v)], rfl, by show 1 ≤ 15; decide, k⟩
theorem disp2_i {p : Addr} {x y : Str} {v u : V} {P : List (Key × V) → Prop} (h : H p = some (.dK [])) (k : P [(.inr x, v), (.inr y, u)]) : H p = some (.dK []) ∧ ∃ kvs : List (Key × V), [(V.str x, v), (V.str y, u)] = kvs.map (fun kv => (kV kv.1, kv.2)) ∧ kvs.length ≤ 15 ∧ P kvs := ⟨h, [(.inr x, v), (.inr y, u)], rfl, by show 2 ≤ 15; decide, k⟩
theorem rCat_i {l b : Addr} {xs zs : List V} (h : H l = some (.lst xs)) (g : H b = some (.lst zs)) (hz : xs.length + zs.length ≤ sizeLine) (k : ∀ p, H p = none → Q (.ref p) (upd H p (.lst (xs ++ zs)))) : rCat (.ref l) (.ref b) H Q := ⟨l, b, xs, zs, rfl, rfl, h, g, hz, k⟩
theorem rIsi_i {K : PySem.W.Frag} {x : V} {n : String} {t : Value} {b : Bool} (ty : TyX K H x t) (e : PySem.W.kitOne K t (.type n) = some b) (k : Q (.bl b) H) : rIsi K [x, .ty n] H Q := ⟨x, _, t, _, b, rfl, ClsV.ty n, ty, e, k⟩
theorem tFor_i {wi : TI} {g : TG} {tb : TS} (k : wi σ H fun J H1 => ∃ W : Nat → Nat → L2.St → Hp → Prop, (∃ m, W 0 m σ H1) ∧ ∀ i m σ H, W i m σ H →
  (J.stop i H ∧ D.nx σ H) ∨ (J.go i H ∧ ∃ N : L2.St → Hp → Prop, (∀ σ' H', N σ' H' → ∃ m', m' < m ∧ W (i + 1) m' σ' H') ∧ ∀ x H', J.yld i H x H' → g x σ H' fun σ2 H2 => tb { D with nx := N, ct := N, bk := D.nx } σ2 H2)) : tFor wi g tb D σ H := k
theorem tLc_i {wi : TI} {g : TG} {tt : TT} {vs : List Nat} (k : wi σ H fun J H1 => ∀ D, H1 D = none → ∃ W : Nat → Nat → Hp → Prop, (∃ m, W 0 m (upd H1 D (.lst []))) ∧ ∀ i m H, W i m H →
  (J.stop i H ∧ Q (.ref D) H) ∨ (J.go i H ∧ ∃ Nx : Hp → Prop, (∀ H', Nx H' → ∃ m', m' < m ∧ W (i + 1) m' H') ∧ ∀ x H', J.yld i H x H' → g x (wipe σ vs) H' fun σ2 H2 => wipe σ2 vs = wipe σ vs ∧ tt σ2 H2 fun b H3 =>
    if b = true then te σ2 H3 fun y H4 => ∃ acc, H4 D = some (.lst acc) ∧ acc.length < sizeLine ∧ Nx (upd H4 D (.lst (acc ++ [y]))) else Nx H3)) : tLc wi g tt te vs σ H Q := k
section
variable {K : PySem.W.Frag} {R : It → Hp → Prop}
theorem iEnum_i (k : t σ H fun vs H1 => ∃ a xs, vs = [.ref a] ∧ SqL K H1 a xs ∧ R (Ite K a) H1) : iEnum K t σ H R := k
theorem enum_i {a : Addr} {xs : List V} {P : Addr → Prop} (h : SqL K H a xs) (k : P a) : ∃ b ys, [V.ref a] = [.ref b] ∧ SqL K H b ys ∧ P b := ⟨a, xs, rfl, h, k⟩
theorem iList_i (k : te σ H fun x H1 => ∃ a, x = .ref a ∧ (∃ xs, SqL K H1 a xs) ∧ R (Itl K a) H1) : iList K te σ H R := k
theorem list_i {a : Addr} {xs : List V} {P : Addr → Prop} (h : SqL K H a xs) (k : P a) : ∃ b, V.ref a = .ref b ∧ (∃ ys, SqL K H b ys) ∧ P b := ⟨a, rfl, ⟨xs, h⟩, k⟩
theorem iTup_i (k : te σ H fun x H1 => ∃ a, x = .ref a ∧ (∃ xs, SqT K H1 a xs) ∧ R (Itt K a) H1) : iTup K te σ H R := k
theorem tup_i {a : Addr} {xs : List V} {P : Addr → Prop} (h : SqT K H a xs) (k : P a) : ∃ b, V.ref a = .ref b ∧ (∃ ys, SqT K H b ys) ∧ P b := ⟨a, rfl, ⟨xs, h⟩, k⟩
theorem iRng1_i (k : t σ H fun vs H1 => ∃ j : Int, vs = [.int j] ∧ -(2 ^ 62) ≤ j ∧ j < 2 ^ 62 ∧ R (Itr 0 j.toNat) H1) : iRng1 t σ H R := k
theorem rng1_i {n : Int} {P : Int → Prop} (h : -(2 ^ 62) ≤ n ∧ n < 2 ^ 62) (k : P n) : ∃ j : Int, [V.int n] = [.int j] ∧ -(2 ^ 62) ≤ j ∧ j < 2 ^ 62 ∧ P j := ⟨n, rfl, h.1, h.2, k⟩
end
end
theorem tJs0_i {acc : Str} {σ : L2.St} {H : Hp} {Q : Str → Hp → Prop} (k : Q acc H) : tJs [] acc σ H Q := k
theorem tJs1_i {t : TE} {ts : List TE} {acc : Str} {σ : L2.St} {H : Hp} {Q : Str → Hp → Prop} (k : t σ H fun x H1 => ∃ y : Str, x = .str y ∧ (acc ++ y).length ≤ sizeLine ∧ tJs ts (acc ++ y) σ H1 Q) : tJs (t :: ts) acc σ H Q := k
theorem js_i {acc y : Str} {P : Str → Prop} (h : (acc ++ y).length ≤ sizeLine) (k : P y) : ∃ z : Str, V.str y = .str z ∧ (acc ++ z).length ≤ sizeLine ∧ P z := ⟨y, rfl, h, k⟩
theorem tFmt_i {te : TE} {σ : L2.St} {H : Hp} {Q : VK} (k : te σ H fun x H1 => (∃ y : Str, x = .str y ∧ y.length ≤ sizeLine ∧ Q (.str y) H1) ∨ ∃ i : Int, x = .int i ∧ i.natAbs.log2 < 1920 ∧ Q (.str (toString i)) H1) : tFmt te σ H Q := k
theorem fmtS_i {y : Str} {P : Str → Prop} {W : Prop} (h : y.length ≤ sizeLine) (k : P y) : (∃ z : Str, V.str y = .str z ∧ z.length ≤ sizeLine ∧ P z) ∨ W := .inl ⟨y, rfl, h, k⟩
theorem slen (a b : Str) : (a ++ b).length = a.length + b.length := Str.length_append a b
theorem sline {n : Nat} (h : n ≤ 4000) : n ≤ sizeLine := Nat.le_trans h (Nat.le_of_ble_eq_true rfl)
end K9
set_option Elab.async false
set_option linter.all false
set_option maxRecDepth 100000
set_option maxHeartbeats 4000000
namespace K9
open PySem PySem.Spec PyProof.Rows L2
/-! ### steps through a reading -/
/-- H a = some o, where H is told by its stores -/
local macro_rules | `(tactic| walk_at "look") => `(tactic| first
  | assumption
  | exact upd_same
  | (refine Eq.trans (upd_ne ?_) ?_ <;> first
      | assumption
      | exact Ne.symm (by assumption)
      | exact ne_nw (by assumption) (by walk_at "look")
      | exact Ne.symm (ne_nw (by assumption) (by walk_at "look"))
      | walk_at "look"))
local macro_rules | `(tactic| walk_at "sq") => `(tactic| first
  | assumption
  | exact SqL.of (by walk_at "look")
  | exact SqT.of (by walk_at "look"))
local macro_rules | `(tactic| walk_at "c") => `(tactic| first
  | decide
  | omega
  | assumption
  | exact Or.inr ⟨by decide, by decide⟩
  | exact ⟨by decide, by decide⟩
  | exact Nat.le_of_ble_eq_true rfl
  | exact line1000 (by assumption)
  | (intro z; omega)
  | (dsimp only; first | assumption | omega)
  | (constructor <;> first | decide | omega))
local macro_rules | `(tactic| walk_at "fl") => `(tactic| first
  | assumption
  | rfl
  | exact flat_ints _
  | decide +kernel
  | (simp only [List.all_map, List.all_cons, List.all_nil]; rfl))
local macro_rules | `(tactic| walk_at "ty") => `(tactic| first
  | exact TyX.base (TyOf.str _)
  | exact TyX.base (TyOf.int _)
  | exact TyX.base (TyOf.bl _)
  | exact TyX.base TyOf.non
  | exact TyX.base (TyOf.tup (by walk_at "look"))
  | exact TyX.base (TyOf.lst (by walk_at "look"))
  | exact TyX.base (TyOf.dK (by walk_at "look")))
local macro_rules | `(tactic| walk_at "kit") => `(tactic| first
  | assumption
  | exact kit_str_bool
  | exact kit_str_int
  | exact kit_str_str
  | exact kit_str_dict
  | exact kit_str_list
  | exact kit_str_tuple
  | exact kit_int_bool
  | exact kit_int_int
  | exact kit_int_str
  | exact kit_int_dict
  | exact kit_int_list
  | exact kit_int_tuple
  | exact kit_bool_bool
  | exact kit_bool_int
  | exact kit_bool_str
  | exact kit_bool_dict
  | exact kit_bool_list
  | exact kit_bool_tuple
  | exact kit_list_bool
  | exact kit_list_int
  | exact kit_list_str
  | exact kit_list_dict
  | exact kit_list_list
  | exact kit_list_tuple
  | exact kit_tuple_bool
  | exact kit_tuple_int
  | exact kit_tuple_str
  | exact kit_tuple_dict
  | exact kit_tuple_list
  | exact kit_tuple_tuple
  | exact kit_dict_bool
  | exact kit_dict_int
  | exact kit_dict_str
  | exact kit_dict_dict
  | exact kit_dict_list
  | exact kit_dict_tuple
  | exact kit_NoneType_bool
  | exact kit_NoneType_int
  | exact kit_NoneType_str
  | exact kit_NoneType_dict
  | exact kit_NoneType_list
  | exact kit_NoneType_tuple)
local macro_rules | `(tactic| walk_at "len") => `(tactic| (refine sline ?_; (try simp only [slen, show ("( " : Str).length = 2 from rfl, show (" " : Str).length = 1 from rfl, show (" )" : Str).length = 2 from rfl, show Str.empty.length = 0 from rfl]); omega))
local macro_rules | `(tactic| walk_at "w1") => `(tactic| (first
  | ((with_reducible apply tVar_i); exact rfl)
  | with_reducible refine tC_i ?_
  | with_reducible refine tCons_i ?_
  | with_reducible refine tNil_i ?_
  | with_reducible refine tOp_i ?_
  | with_reducible refine tSeq_i ?_
  | with_reducible refine tAsg_i ?_
  | with_reducible refine tDrop_i ?_
  | with_reducible refine tRet_i ?_
  | with_reducible refine tNext_i ?_
  | with_reducible refine tIfS_i ?_
  | with_reducible refine tIf_i ?_
  | with_reducible refine tTest_i ?_
  | with_reducible refine tB_i ?_
  | with_reducible refine tNot_i ?_
  | with_reducible refine tAnd_i ?_
  | with_reducible refine tOr_i ?_
  | with_reducible refine tAndV_i ?_
  | with_reducible refine tOrV_i ?_
  | with_reducible refine tNotV_i ?_
  | with_reducible refine tNotT_i ?_
  | with_reducible refine tUn_i ?_
  | with_reducible refine tCB_i ?_
  | with_reducible refine tCall_i ?_
  | with_reducible refine tTup_i ?_
  | with_reducible refine tLst_i ?_
  | with_reducible refine tPar_i ?_
  | with_reducible refine tPar3_i ?_
  | with_reducible refine tSl_i ?_
  | with_reducible refine bl_i ?_
  | with_reducible refine tFor_i ?_
  | with_reducible refine tLc_i ?_
  | with_reducible refine iEnum_i ?_
  | with_reducible refine iList_i ?_
  | with_reducible refine iTup_i ?_
  | with_reducible refine iRng1_i ?_
  | ((with_reducible apply enum_i); walk_at "sq")
  | ((with_reducible apply list_i); walk_at "sq")
  | ((with_reducible apply tup_i); walk_at "sq")
  | ((with_reducible refine rng1_i ?_ ?_); walk_at "c")
  | with_reducible refine par2_i ?_
  | with_reducible refine par3_i ?_
  | with_reducible refine gName_i ?_
  | with_reducible refine gc_i ?_
  | with_reducible refine gNil_i ?_
  | with_reducible refine rI0_i ?_
  | with_reducible refine rU_i ?_
  | with_reducible refine max2_i ?_
  | with_reducible refine tM1_i ?_
  | with_reducible refine tM0_i ?_
  | with_reducible refine str_i ?_
  | with_reducible refine tBM_iL ?_
  | with_reducible refine tBM0_iL ?_
  | ((with_reducible refine rEq_i ?_ ?_); exact rfl)
  | ((with_reducible refine rNe_i ?_ ?_); exact rfl)
  | ((with_reducible refine rI_i ?_ ?_); walk_at "c")
  | ((with_reducible apply ty_i); walk_at "sq")
  | ((with_reducible apply gTup_i); walk_at "sq"; exact rfl)
  | ((with_reducible apply rIxL_i); walk_at "sq"; first | exact rfl | assumption)
  | ((with_reducible apply rIxT_i); walk_at "sq"; first | exact rfl | assumption)
  | ((with_reducible apply rInT_i); walk_at "sq"; exact rfl; exact rfl)
  | ((with_reducible apply rInL_i); walk_at "sq"; exact rfl; exact rfl)
  | with_reducible refine gSub_i ?_
  | with_reducible refine tJs1_i ?_
  | with_reducible refine tJs0_i ?_
  | with_reducible refine tFmt_i ?_
  | ((with_reducible refine fmtS_i ?_ ?_); walk_at "len")
  | ((with_reducible refine js_i ?_ ?_); walk_at "len")
  | ((with_reducible apply rCat_i); walk_at "look"; walk_at "look"; walk_at "c")
  | ((with_reducible apply rIsi_i); walk_at "ty"; walk_at "kit")
  | ((with_reducible apply rNe_nil); walk_at "sq"; walk_at "fl"; walk_at "sq")
  | ((with_reducible apply rEq_nil); walk_at "sq"; walk_at "fl"; walk_at "sq")
  | with_reducible refine tDisp_i ?_
  | with_reducible refine tPairs0_i ?_
  | with_reducible refine tPairs1_i ?_
  | ((with_reducible apply disp1_i); walk_at "look")
  | ((with_reducible apply disp2_i); walk_at "look")
  | with_reducible refine tFld_i ?_
  | with_reducible refine sFld_i ?_
  | ((with_reducible apply fld_i); walk_at "look"; assumption; assumption; first | exact rfl | assumption)
  | ((with_reducible apply sfld_i); walk_at "look"; assumption; assumption; walk_at "c")
  | with_reducible refine tRevL_i ?_
  | ((with_reducible apply rev_i); walk_at "sq")
  | ((with_reducible apply rSetL_i); walk_at "look"; first | exact rfl | assumption)
  | ((with_reducible apply rIxK_i); assumption; assumption)
  | ((with_reducible apply rInK_i); assumption)
  | ((with_reducible apply rAppend_i); walk_at "look"; walk_at "c")
  | ((with_reducible apply rPop_i); walk_at "look"; first | exact rfl | assumption)
  | ((with_reducible apply len_i); walk_at "sq")
  | ((with_reducible apply lenT_i); walk_at "sq")
  | ((with_reducible apply rSlL_i); walk_at "sq")
  | with_reducible refine iteT ?_
  | with_reducible refine iteF ?_
  | ((with_reducible refine iteTk ?_ ?_); assumption)
  | ((with_reducible refine iteFk ?_ ?_); assumption)
  | ((with_reducible refine iteTk ?_ ?_); decide +kernel)
  | ((with_reducible refine iteFk ?_ ?_); decide +kernel)
  | ((with_reducible refine iteTk ?_ ?_); exact rfl)
  | ((with_reducible refine iteFk ?_ ?_); exact rfl)
  | with_reducible refine fun (p : Addr) (n : _ = none) => ?_
  | with_reducible refine Or.inl ⟨_, rfl, ?_⟩
  | with_reducible refine ⟨_, rfl, ?_⟩
  | with_reducible refine ⟨_, _, rfl, rfl, ?_⟩
  | ((with_reducible refine ⟨_, _, _, _, _, rfl, ClsV.ty _, ?_, ?_, ?_⟩); walk_at "ty"; walk_at "kit")
  | ((with_reducible refine And.intro ?_ ?_); walk_at "c")))
local macro_rules | `(tactic| walk_at "w") => `(tactic| repeat (walk_at "w1"))
local macro_rules | `(tactic| walk_at "but") => `(tactic| first
  | assumption
  | exact But.refl _ _
  | (refine But.upd ?_; walk_at "but")
  | (refine But.new ?_ (by assumption); walk_at "but"))
local macro_rules | `(tactic| walk_at "same") => `(tactic| first
  | assumption
  | exact Same.refl _
  | (refine Same.new ?_ (by assumption); walk_at "same")
  | (refine Same.trans (by assumption) ?_; walk_at "same"))
local macro_rules | `(tactic| walk_at "x") => `(tactic| (dsimp only [Cx.nox, Cx.wish, cxOf, L2H.cxH]))
abbrev s_signs : Stmt := (top 32)
theorem scSigns : FnScope ["words", "signs", "stack", "right", "up", "wanted", "count", "word", "ended", "state", "at"] ["words"] (defScope (top 32)) := ⟨rfl, rfl, rfl, by decide +kernel, rfl, by decide +kernel, by decide +kernel⟩
def spSigns : Sp := fun vs H Q _ => ∃ (p : Addr) (ws : List Str), vs = [.ref p] ∧ H p = some (.lst (ws.map V.str)) ∧ ws.length ≤ 1000 ∧
  ∀ t p1 H', Same H H' → H p1 = none → H' t = some (.tup [.int (rdAll 0 rd0 ws).1, .bl (rdAll 0 rd0 ws).2.1, .ref p1]) → LR H' p1 ((rdAll 0 rd0 ws).2.2.map sgV) → Q (.ref t) H'
/-- the loop's state at turn i -/
def InvS (ws : List Str) (p p1 p2 : Addr) (H0 : Hp) (i : Nat) (σ : L2.St) (H : Hp) : Prop := ∃ (R : Rd) (as bs : List Addr) (x6 x7 x8 x9 x10 : Option V), σ = [some (.ref p), some (.ref p1), some (.ref p2), some (.int R.right), some (.int R.up), some (.bl R.wanted), x6, x7, x8, x9, x10] ∧
  rdAll i R (ws.drop i) = rdAll 0 rd0 ws ∧ OkR R i ∧ Same H0 H ∧ LRa H p1 as (R.signs.map sgV) ∧ LRa H p2 bs (R.stack.reverse.map frV)
theorem in4 {word : Str} {a b c d : V} : (List.lookup word [(("r" : Str), a), ("u", b), ("r?", c), ("u?", d)]).isSome = (stepL.lookup word).isSome := look4 word a b c d ((-1, 0) : Int × Int) (0, -1) (1, 0) (0, 1)
section
variable {P : Program} {w : World} {K : PySem.W.Frag} {mg : Str → Option Value} {base : Heap} {f : Addr} {fd : FuncData}
theorem Tb.step (TB : Tb K w mg) {word : Str} {d : Int × Int} (h : stepL.lookup word = some d) : ∃ D b, KPairs K w (He.ga K "STEPS") D ∧ D.lookup word = some (.ref b) ∧ ∀ H, SqT K H b [.int d.1, .int d.2] := by
  obtain ⟨a, b, c, e, D, ha, hb, hc, he⟩ := TB.k_STEPS
  by_cases e1 : word = "r"
  · subst e1
    rw [show stepL.lookup ("r" : Str) = some (-1, 0) from by decide +kernel] at h
    cases h
    exact ⟨_, a, D, List.lookup_cons_self, ha⟩
  by_cases e2 : word = "u"
  · subst e2
    rw [show stepL.lookup ("u" : Str) = some (0, -1) from by decide +kernel] at h
    cases h
    refine ⟨_, b, D, ?_, hb⟩
    rw [List.lookup_cons, show (("u" : Str) == "r") = false from by decide +kernel]
    exact List.lookup_cons_self
  by_cases e3 : word = "r?"
  · subst e3
    rw [show stepL.lookup ("r?" : Str) = some (1, 0) from by decide +kernel] at h
    cases h
    refine ⟨_, c, D, ?_, hc⟩
    rw [List.lookup_cons, show (("r?" : Str) == "r") = false from by decide +kernel]
    dsimp only
    rw [List.lookup_cons, show (("r?" : Str) == "u") = false from by decide +kernel]
    exact List.lookup_cons_self
  by_cases e4 : word = "u?"
  · subst e4
    rw [show stepL.lookup ("u?" : Str) = some (0, 1) from by decide +kernel] at h
    cases h
    refine ⟨_, e, D, ?_, he⟩
    rw [List.lookup_cons, show (("u?" : Str) == "r") = false from by decide +kernel]
    dsimp only
    rw [List.lookup_cons, show (("u?" : Str) == "u") = false from by decide +kernel]
    dsimp only
    rw [List.lookup_cons, show (("u?" : Str) == "r?") = false from by decide +kernel]
    exact List.lookup_cons_self
  exfalso
  unfold stepL at h
  simp only [List.lookup, beq_eq_false_iff_ne.mpr e1, beq_eq_false_iff_ne.mpr e2, beq_eq_false_iff_ne.mpr e3, beq_eq_false_iff_ne.mpr e4] at h
  cases h
theorem ok_signs (Z : Free mg) (TB : Tb K w mg) (F : FnP K "signs_of" "signs_of" s_signs [] f fd) {fd1 : FuncData} {f1 : Addr} (Cg : Cal P w K mg base CX0 1 "goes_on" ["word", "wanted", "state"] spGoes f1 fd1) : FnOk P w K mg base CX0 2 f fd ["words"] spSigns := by
  refine F.ok scSigns (fun vs H Q E h => ?_) (fun cdv A outer s H vs Q E hr h => ?_)
  · obtain ⟨a, b, rfl, _⟩ := h
    rfl
  · have hu := hu_of hr
    obtain ⟨p, ws, rfl, hp, hl, k⟩ := h
    refine ⟨_, PSs.nox (pss_cons (ps_set (i := 1) scSigns.nd rfl (Or.inl rfl) (pe_lst pa_nil))
      (pss_cons (ps_set (i := 2) scSigns.nd rfl (Or.inl rfl) (pe_lst pa_nil))
      (pss_cons (ps_asg (pe_tup (pa_cons pe_int (pa_cons pe_int (pa_cons pe_bl pa_nil)))) (pg_tup rfl (pgs_cons (pg_name (i := 3) scSigns.nd rfl (Or.inl rfl)) (pgs_cons (pg_name (i := 4) scSigns.nd rfl (Or.inl rfl)) (pgs_cons (pg_name (i := 5) scSigns.nd rfl (Or.inl rfl)) pgs_nil)))))
      (pss_cons (ps_for PassesOwn.never rfl (pi_enum (by rfl) Z.enumerate (pa_cons (pv 0) pa_nil)) (pg_tup rfl (pgs_cons (pg_name (i := 6) scSigns.nd rfl (Or.inl rfl)) (pgs_cons (pg_name (i := 7) scSigns.nd rfl (Or.inl rfl)) pgs_nil))) 
        (C8.pss_cut (ps_set (i := 8) scSigns.nd rfl (Or.inl rfl) (pe_and (pe_not (pv 5)) (pe_one (pe_notT (pv 2)))))
        (C8.pss_cut (ps_if (PW.pt (pw_or (pt_val (pv 8)) (pw_or1 (pt_not (pt_val (pe_call Cg.ok (hr.mono (by omega)) rfl Cg.mg Cg.kp Cg.b .nil pass0 (pa_cons (pv 7) (pa_cons (pv 5) (pa_cons (pe_ifExp (pt_truth (pv 2) (by intro _; rfl)) (pe_ix ix_tup (pe_ix ix_list (pv 2) (pe_un un_neg pe_int) (fun _ _ => rfl)) pe_int (fun _ _ => rfl)) pe_str) pa_nil))))))))) 
          (pss_one (ps_ret (pe_tup (pa_cons (pv 6) (pa_cons pe_bl (pa_cons (pv 1) pa_nil)))))) pss_nil)
        (pss_one (ps_if (pt_cmpR op_inK (pv 7) (pe_glob (v := .ref _) rfl TB.m_STEPS rfl) (by rfl)) 
          (pss_cons (ps_expr (pe_bm PySem.F.plainAttrs_list PySem.F.slot_list_append PySem.F.type_list_append mt_append (pv 1) (pa_cons (pe_tup (pa_cons (pv 7) (pa_cons (pv 3) (pa_cons (pv 4) pa_nil)))) pa_nil)))
          (pss_cons (ps_expr (pe_bm PySem.F.plainAttrs_list PySem.F.slot_list_append PySem.F.type_list_append mt_append (pv 2) (pa_cons (pe_tup (pa_cons pe_str (pa_cons pe_int (pa_cons (pv 3) (pa_cons (pv 4) pa_nil))))) pa_nil)))
          (pss_one (ps_par (i := 3) (j := 4) rfl scSigns.nd rfl rfl (by decide) rfl rfl (pa_cons (pe_op op_add (pv 3) (pe_ix ix_tup (pe_ix ix_K (pe_glob (v := .ref _) rfl TB.m_STEPS rfl) (pv 7) (fun _ _ => rfl)) pe_int (fun _ _ => rfl))) (pa_cons (pe_op op_add (pv 4) (pe_ix ix_tup (pe_ix ix_K (pe_glob (v := .ref _) rfl TB.m_STEPS rfl) (pv 7) (fun _ _ => rfl)) pe_int (fun _ _ => rfl))) pa_nil)) (by rfl))))) 
          (pss_one (ps_if (pt_cmpR op_eq (pv 7) pe_str (nomark _)) 
            (pss_cons (ps_expr (pe_bm PySem.F.plainAttrs_list PySem.F.slot_list_append PySem.F.type_list_append mt_append (pv 2) (pa_cons (pe_tup (pa_cons pe_str (pa_cons (pe_callB call_len_seq (by rfl) Z.len PySem.boot_len (pa_cons (pv 1) pa_nil)) (pa_cons (pv 3) (pa_cons (pv 4) pa_nil))))) pa_nil)))
            (pss_one (ps_expr (pe_bm PySem.F.plainAttrs_list PySem.F.slot_list_append PySem.F.type_list_append mt_append (pv 1) (pa_cons (pe_tup (pa_cons (pv 7) (pa_cons (pv 3) (pa_cons (pv 4) pa_nil)))) pa_nil))))) 
            (pss_one (ps_if (pt_cmpR op_in_seq (pv 7) (pe_tup (pa_cons pe_str (pa_cons pe_str pa_nil))) (by rfl)) 
              (pss_cons (ps_asg (pe_bm0 PySem.F.plainAttrs_list PySem.F.slot_list_pop PySem.F.type_list_pop mt_pop (pv 2)) (pg_tup rfl (pgs_cons (pg_name (i := 9) scSigns.nd rfl (Or.inl rfl)) (pgs_cons (pg_name (i := 10) scSigns.nd rfl (Or.inl rfl)) (pgs_cons (pg_name (i := 3) scSigns.nd rfl (Or.inl rfl)) (pgs_cons (pg_name (i := 4) scSigns.nd rfl (Or.inl rfl)) pgs_nil))))))
              (pss_cons (ps_asg (pe_tup (pa_cons (pv 7) (pa_cons (pv 3) (pa_cons (pv 4) pa_nil)))) (pg_sub (pv 1) (pv 10) set_list))
              (pss_cons (ps_expr (pe_bm PySem.F.plainAttrs_list PySem.F.slot_list_append PySem.F.type_list_append mt_append (pv 2) (pa_cons (pe_tup (pa_cons pe_str (pa_cons (pv 10) (pa_cons (pv 3) (pa_cons (pv 4) pa_nil))))) pa_nil)))
              (pss_one (ps_set (i := 5) scSigns.nd rfl (Or.inl rfl) pe_bl))))) 
              (C8.pss_cut (ps_if (pt_cmpR op_eq (pv 7) pe_str (nomark _)) 
                (pss_one (ps_expr (pe_bm0 PySem.F.plainAttrs_list PySem.F.slot_list_pop PySem.F.type_list_pop mt_pop (pv 2)))) 
                (pss_one (ps_expr (pe_bm PySem.F.plainAttrs_list PySem.F.slot_list_append PySem.F.type_list_append mt_append (pv 1) (pa_cons (pe_tup (pa_cons (pv 7) (pa_cons (pv 3) (pa_cons (pv 4) pa_nil)))) pa_nil)))))
              (pss_cons (ps_set (i := 5) scSigns.nd rfl (Or.inl rfl) pe_bl)
              (pss_one (ps_while PassesOwn.never (PW.pt (pw_and (pt_truth (pv 2) (by intro _; rfl)) (pw_and1 (pt_cmpR op_eq (pe_ix ix_tup (pe_ix ix_list (pv 2) (pe_un un_neg pe_int) (fun _ _ => rfl)) pe_int (fun _ _ => rfl)) pe_str (nomark _))))) 
                (pss_one (ps_expr (pe_bm0 PySem.F.plainAttrs_list PySem.F.slot_list_pop PySem.F.type_list_pop mt_pop (pv 2)))))))))))))))))
      (pss_one (ps_ret (pe_tup (pa_cons (pe_callB call_len_seq (by rfl) Z.len PySem.boot_len (pa_cons (pv 0) pa_nil)) (pa_cons (pe_and (pe_not (pv 5)) (pe_one (pe_notT (pv 2)))) (pa_cons (pv 1) pa_nil)))))))))), ?_⟩
    walk_at "w"
    rename_i p1 n1 p2 n2 T3 n3
    have hne : p1 ≠ p2 := ne_nw n2 upd_same
    refine for_it (walk_enum (xs := ws.map V.str)) (fun i σ' H' => InvS ws p p1 p2 H i σ' H') ?_ (fun i σ' H' hi h => ?_) (fun i x σ' H1 H2 hi h y => ?_) (fun σ' H' h => ?_)
    · refine ⟨rd0, [], [], none, none, none, none, none, rfl, rfl, ⟨(fun f hf => nomatch hf), Nat.le_refl _, Nat.le_refl _⟩, by walk_at "same", ⟨?_, .nil⟩, ⟨?_, .nil⟩⟩
      · exact (upd_ne (ne_nw n3 (by walk_at "look"))).trans (by walk_at "look")
      · exact (upd_ne (ne_nw n3 (by walk_at "look"))).trans (by walk_at "look")
    · obtain ⟨R, as, bs, x6, x7, x8, x9, x10, rfl, _, _, s1, _⟩ := h
      exact SqL.of (s1 _ _ hp)
    · obtain ⟨⟨sg, st, r, u, wn⟩, as, bs, x6, x7, x8, x9, x10, rfl, hrd, hok, s1, l1, l2⟩ := h
      obtain ⟨T, x1, x2, rfl, nT, rfl, e1, e2⟩ := y
      cases Option.some.inj e1
      have e2 : (ws.map V.str)[i]? = some x2 := e2
      rw [List.getElem?_map] at e2
      obtain ⟨wd, hwd, rfl⟩ := Option.map_eq_some_iff.mp e2
      have hdr : ws.drop i = wd :: ws.drop (i + 1) := by
        have hi' : i < ws.length := by rw [List.length_map] at hi; exact hi
        rw [List.drop_eq_getElem_cons hi']
        congr 1
        exact Option.some.inj ((List.getElem?_eq_getElem hi').symm.trans hwd)
      rw [hdr] at hrd
      refine ⟨T, _, rfl, SqT.of upd_same, rfl, gc_i (gc_i ⟨rfl, ?_⟩)⟩
      refine abs_ends rfl rfl fun D hnx hrt => ?_
      replace hnx : ∀ σ H', InvS ws p p1 p2 H (i + 1) σ H' → D.nx σ H' := hnx
      replace hrt : ∀ v H', Q v H' → D.rt v H' := hrt
      refine ⟨fun σ2 H2 => σ2 = [some (.ref p), some (.ref p1), some (.ref p2), some (.int r), some (.int u), some (.bl wn), some (.int i), some (.str wd), some (.bl (!wn && st.isEmpty)), x9, x10] ∧ H2 = upd H1 T (.tup [.int i, .str wd]), ?_, ?_⟩
      · cases wn with
        | true =>
          walk_at "w"
          first | exact ⟨rfl, rfl⟩ | rfl
        | false =>
          walk_at "w"
          refine ⟨_, (l2.fresh nT).tru, ?_⟩
          rw [Bool.not_not]
          exact ⟨rfl, rfl⟩
      · rintro σ2 H2 ⟨rfl, rfl⟩
        have l1 := l1.fresh nT (o := .tup [.int i, .str wd])
        have l2 := l2.fresh nT (o := .tup [.int i, .str wd])
        have s1 : Same H (upd H1 T (.tup [.int i, .str wd])) := Same.new s1 nT
        generalize upd H1 T (.tup [.int i, .str wd]) = H3 at *
        clear e1 e2 nT
        refine ⟨fun σ2 H2 => σ2 = [some (.ref p), some (.ref p1), some (.ref p2), some (.int r), some (.int u), some (.bl wn), some (.int i), some (.str wd), some (.bl false), x9, x10] ∧ Same H3 H2 ∧ ((!wn && st.isEmpty) || !goesOn wd wn (topKind st)) = false, ?_, ?_⟩
        · --<
          have stop : ∀ H4 T4, ((!wn && st.isEmpty) || !goesOn wd wn (topKind st)) = true → Same H3 H4 → H4 T4 = none → Q (.ref T4) (upd H4 T4 (.tup [.int i, .bl false, .ref p1])) := fun H4 T4 hb s4 n4 => by
            have hz : rdAll 0 rd0 ws = (i, false, sg) := by
              rw [← hrd]
              exact rdAll_none (if_pos hb)
            refine k T4 p1 _ (Same.new (s1.trans s4) n4) n1 ?_ ?_
            · rw [hz]
              exact upd_same
            · rw [hz]
              exact ⟨as, (l1.same s4).fresh n4⟩
          cases he : (!wn && st.isEmpty) with
          | true =>
            walk_at "w"
            exact hrt _ _ (stop _ _ (by rw [he]; rfl) (Same.refl _) (by assumption))
          | false =>
            walk_at "w"
            refine ⟨_, l2.tru, ?_⟩
            cases st with
            | nil =>
              refine iteF ?_
              walk_at "w"
              refine ⟨wd, wn, "", rfl, fun H4 s4 => ⟨_, rfl, ?_⟩⟩
              cases hg : goesOn wd wn "" with
              | true =>
                refine iteF ?_
                exact ⟨rfl, s4, by rw [show topKind [] = "" from rfl, hg]; rfl⟩
              | false =>
                refine iteT ?_
                walk_at "w"
                exact hrt _ _ (stop _ _ (by rw [show topKind [] = "" from rfl, hg, Bool.or_comm]; rfl) s4 (by assumption))
            | cons f rest =>
              refine iteT ?_
              obtain ⟨b, hb1, hb2⟩ := l2.top
              walk_at "w"
              refine ⟨_, _, _, _, rfl, rfl, SqL.of l2.l, hb1, ?_⟩
              refine ⟨_, _, _, V.str f.1, rfl, rfl, SqT.of hb2, rfl, ?_⟩
              walk_at "w"
              refine ⟨wd, wn, f.1, rfl, fun H4 s4 => ⟨_, rfl, ?_⟩⟩
              cases hg : goesOn wd wn f.1 with
              | true =>
                refine iteF ?_
                exact ⟨rfl, s4, by rw [show topKind (f :: rest) = f.1 from rfl, hg]; rfl⟩
              | false =>
                refine iteT ?_
                walk_at "w"
                exact hrt _ _ (stop _ _ (by rw [show topKind (f :: rest) = f.1 from rfl, hg, Bool.or_comm]; rfl) s4 (by assumption))
        · rintro σ2 H2 ⟨rfl, s4, hgo⟩
          replace l1 := l1.same s4
          replace l2 := l2.same s4
          replace s1 := s1.trans s4
          have hnn : ¬ (((!wn && st.isEmpty) || !goesOn wd wn (topKind st)) = true) := by rw [hgo]; exact Bool.false_ne_true
          clear s4 H3
          have hi' : i < ws.length := by rw [List.length_map] at hi; exact hi
          have hlt1 : ∀ H as, LRa H p1 as (sg.map sgV) → (as.map V.ref).length < sizeLine := fun H as l => by
            rw [List.length_map, l.len, List.length_map]
            exact small1000 (Nat.le_trans hok.sl (by omega))
          have hlt2 : ∀ H as, LRa H p2 as (st.reverse.map frV) → (as.map V.ref).length < sizeLine := fun H as l => by
            rw [List.length_map, l.len, List.length_map, List.length_reverse]
            exact small1000 (Nat.le_trans hok.tl (by omega))
          have n2' : H p2 = none := by
            have e := upd_ne (H := H) (o := HO.lst []) (Ne.symm hne)
            rw [e] at n2
            exact n2
          have fin : ∀ (R' : Rd) (as' bs' : List Addr) (H' : Hp), rdStep ⟨sg, st, r, u, wn⟩ wd = some R' → OkR R' (i + 1) → Same H H' → LRa H' p1 as' (R'.signs.map sgV) → LRa H' p2 bs' (R'.stack.reverse.map frV) →
              ∀ x9 x10, D.nx [some (.ref p), some (.ref p1), some (.ref p2), some (.int R'.right), some (.int R'.up), some (.bl R'.wanted), some (.int i), some (.str wd), some (.bl false), x9, x10] H' := fun R' as' bs' H' hR ho hS a1 a2 x9 x10 =>
            hnx _ _ ⟨R', as', bs', _, _, _, x9, x10, rfl, by rw [← hrd]; exact (rdAll_some hR).symm, ho, hS, a1, a2⟩
          obtain ⟨a0, b0, c0, d0, D0, _⟩ := TB.k_STEPS
          refine ⟨_, rfl, _, _, _, rfl, rfl, D0, _, rfl, ?_⟩
          rw [in4]
          cases hs : stepL.lookup wd with
          | some d =>
            refine iteTk rfl ?_
            refine ⟨_, rfl, Or.inl ⟨rfl, _, SqL.of l1.l⟩, ?_⟩
            walk_at "w"
            rename_i T1 m1
            refine ⟨_, _, _, rfl, rfl, (l1.fresh m1).l, hlt1 _ _ l1, ?_⟩
            obtain ⟨l1, l2, s1⟩ := two_push (row := sgV (wd, r, u)) l1 l2 s1 hne n1 m1
            refine ⟨_, rfl, Or.inl ⟨rfl, _, SqL.of l2.l⟩, ?_⟩
            walk_at "w"
            rename_i T2 m2
            refine ⟨_, _, _, rfl, rfl, (l2.fresh m2).l, hlt2 _ _ l2, ?_⟩
            obtain ⟨l2, l1, s1⟩ := two_push (row := frV ("step", 0, r, u)) l2 l1 s1 (Ne.symm hne) n2' m2
            obtain ⟨D1, b1, hD, hlk, hq⟩ := TB.step hs
            walk_at "w"
            refine ⟨_, _, _, V.int d.1, rfl, rfl, hq _, rfl, ?_⟩
            walk_at "w"
            refine ⟨_, _, _, V.int d.2, rfl, rfl, hq _, rfl, ?_⟩
            walk_at "w"
            exact fin ⟨sg ++ [(wd, r, u)], ("step", 0, r, u) :: st, r + d.1, u + d.2, wn⟩ (as ++ [T1]) (bs ++ [T2]) _ (by unfold rdStep; rw [if_neg hnn, hs])
              (hok.to (by simp) (by simp) (by simp) fun f hf => (List.mem_cons.mp hf).elim (fun e => .inr (by rw [e]; exact ⟨Int.le_refl _, by simp⟩)) fun h => .inl ⟨f, h, rfl⟩) s1 (by rw [List.map_append]; exact l1) (by rw [List.reverse_cons, List.map_append]; exact l2) _ _
          | none =>
            refine iteFk rfl ?_
            walk_at "w"
            have hlen1 : (as.map V.ref).length = sg.length := by rw [List.length_map, l1.len, List.length_map]
            refine iteB (fun hb => ?_) (fun hb => ?_)
            · have e : wd = "(" := V.str.inj (of_decide_eq_true hb)
              have h1 := l1.l
              have h2 := l2.l
              have z1 := hlt1 _ _ l1
              have z2 := hlt2 _ _ l2
              walk_at "w"
              rename_i T1 m1 T2 m2
              rw [hlen1] at m2 ⊢
              obtain ⟨l2, l1, s1⟩ := two_push (row := frV ("first", (sg.length : Int), r, u)) l2 l1 s1 (Ne.symm hne) n2' m1
              obtain ⟨l1, l2, s1⟩ := two_push (row := sgV (wd, r, u)) l1 l2 s1 hne n1 m2
              exact fin ⟨sg ++ [(wd, r, u)], ("first", (sg.length : Int), r, u) :: st, r, u, wn⟩ (as ++ [T2]) (bs ++ [T1]) _ (by unfold rdStep; rw [if_neg hnn, hs]; dsimp only; rw [if_pos e])
                (hok.to (by simp) (by simp) (by simp) fun f hf => (List.mem_cons.mp hf).elim (fun e => .inr (by rw [e]; exact ⟨by show (0 : Int) ≤ (sg.length : Int); omega, by simp only [List.length_append, List.length_singleton]; omega⟩)) fun h => .inl ⟨f, h, rfl⟩) s1 (by rw [List.map_append]; exact l1) (by rw [List.reverse_cons, List.map_append]; exact l2) _ _
            · have e : ¬ wd = "(" := fun e => of_decide_eq_false hb (congrArg _ e)
              walk_at "w"
              rename_i T0 m0
              replace l1 := l1.fresh m0 (o := .tup [.str "+", .str "&"])
              replace l2 := l2.fresh m0 (o := .tup [.str "+", .str "&"])
              replace s1 : Same H _ := Same.new s1 m0 (o := .tup [.str "+", .str "&"])
              rw [in2]
              refine iteB (fun ho => ?_) (fun ho => ?_)
              · have ho : opB wd = true := ho
                cases st with
                | nil =>
                  exfalso
                  have hg : goesOn wd wn (topKind []) = true := by simpa using (Bool.or_eq_false_iff.mp hgo).2
                  obtain ⟨rfl, _⟩ := goes_op ho hg
                  simp at hgo
                | cons f rest =>
                  have hx := l2
                  rw [List.reverse_cons, List.map_append] at hx
                  obtain ⟨bs', b, rfl, hb1, l2'⟩ := LRa.last (row := frV f) hx
                  have hg : goesOn wd wn f.1 = true := by
                    have := (Bool.or_eq_false_iff.mp hgo).2
                    show goesOn wd wn (topKind (f :: rest)) = true
                    simpa using this
                  obtain ⟨rfl, hf1⟩ := goes_op ho hg
                  have hfr := hok.fr f List.mem_cons_self
                  have h1 := l1.l
                  have h2 := l2.l
                  have hpop : ((bs' ++ [b]).map V.ref)[((bs' ++ [b]).map V.ref).length - 1]? = some (.ref b) := by simp
                  have hb1 : upd H2 T0 (.tup [.str "+", .str "&"]) b = some (.tup [.str f.1, .int f.2.1, .int f.2.2.1, .int f.2.2.2]) := hb1
                  have hbp : b ≠ p2 := fun z => by rw [z, h2] at hb1; cases hb1
                  have l1' := l1.other h2 hne (ys := ((bs' ++ [b]).map V.ref).dropLast)
                  have hix : ixN (as.map V.ref).length f.2.1 = some f.2.1.toNat := ixN_of hfr.1 (by rw [hlen1]; exact hfr.2)
                  have z2 : (((bs' ++ [b]).map V.ref).dropLast).length < sizeLine := by
                    have := hlt2 _ _ l2
                    rw [List.length_dropLast]
                    omega
                  walk_at "w"
                  rename_i T2 m2 T3 m3
                  have hdl : ((bs' ++ [b]).map V.ref).dropLast = bs'.map V.ref := by simp
                  have s2 := sameU (o := .lst (((bs' ++ [b]).map V.ref).dropLast)) s1 n2'
                  rw [hdl] at l1' l2' m2 m3 s2 ⊢
                  obtain ⟨l1, l2, s1⟩ := two_set (row := sgV (wd, f.2.2.1, f.2.2.2)) (i := f.2.1.toNat) l1' l2' s2 hne n1 m2
                  obtain ⟨l2, l1, s1⟩ := two_push (row := frV ("second", f.2.1, f.2.2.1, f.2.2.2)) l2 l1 s1 (Ne.symm hne) n2' m3
                  exact fin ⟨sg.set f.2.1.toNat (wd, f.2.2.1, f.2.2.2), ("second", f.2.1, f.2.2.1, f.2.2.2) :: rest, f.2.2.1, f.2.2.2, true⟩ _ _ _ (by unfold rdStep; rw [if_neg hnn, hs]; dsimp only; rw [if_neg e, if_pos ho])
                    (hok.to (by simp) (by simp) (by simp) fun g hf => (List.mem_cons.mp hf).elim (fun e => .inl ⟨f, List.mem_cons_self, by rw [e]⟩) fun h => .inl ⟨g, List.mem_cons_of_mem _ h, rfl⟩) s1 (by rw [List.map_set]; exact l1) (by rw [List.reverse_cons, List.map_append]; exact l2) _ _
              · have ho : opB wd = false := ho
                walk_at "w"
                generalize upd H2 T0 (.tup [.str "+", .str "&"]) = H5 at *
                have h1 := l1.l
                have h2 := l2.l
                have z1 := hlt1 _ _ l1
                refine ⟨fun σ2 H6 => ∃ (sg' : List Sg) (st' : List Fr) (as' bs' : List Addr), σ2 = [some (.ref p), some (.ref p1), some (.ref p2), some (.int r), some (.int u), some (.bl wn), some (.int i), some (.str wd), some (.bl false), x9, x10] ∧
                  rdStep ⟨sg, st, r, u, wn⟩ wd = some ⟨sg', closes st', r, u, false⟩ ∧ sg.length ≤ sg'.length ∧ sg'.length ≤ sg.length + 1 ∧ (∀ f ∈ st', f ∈ st) ∧ st'.length ≤ st.length ∧ Same H H6 ∧ LRa H6 p1 as' (sg'.map sgV) ∧ LRa H6 p2 bs' (st'.reverse.map frV), ?_, ?_⟩
                · walk_at "w"
                  refine iteB (fun hc => ?_) (fun hc => ?_)
                  · have hc : wd = ")" := V.str.inj (of_decide_eq_true hc)
                    subst hc
                    cases st with
                    | nil =>
                      exfalso
                      have hg : goesOn ")" wn (topKind []) = true := by simpa using (Bool.or_eq_false_iff.mp hgo).2
                      obtain ⟨rfl, _⟩ := goes_close hg
                      simp at hgo
                    | cons f rest =>
                      have hx := l2
                      rw [List.reverse_cons, List.map_append] at hx
                      obtain ⟨bs', b, rfl, hb1, l2'⟩ := LRa.last (row := frV f) hx
                      have hpop : ((bs' ++ [b]).map V.ref)[((bs' ++ [b]).map V.ref).length - 1]? = some (.ref b) := by simp
                      walk_at "w"
                      exact ⟨sg, rest, as, bs', rfl, by unfold rdStep; rw [if_neg hnn, hs]; dsimp only; rw [if_neg e, if_neg (by rw [ho]; exact Bool.false_ne_true), if_pos rfl], Nat.le_refl _, Nat.le_succ _, fun g hg => List.mem_cons_of_mem _ hg, Nat.le_succ _, sameU s1 n2', l1.other h2 hne, l2'⟩
                  · have hc : ¬ wd = ")" := fun e => of_decide_eq_false hc (congrArg _ e)
                    walk_at "w"
                    rename_i T1 m1
                    obtain ⟨l1, l2, s1⟩ := two_push (row := sgV (wd, r, u)) l1 l2 s1 hne n1 m1
                    exact ⟨sg ++ [(wd, r, u)], st, _, _, rfl, by unfold rdStep; rw [if_neg hnn, hs]; dsimp only; rw [if_neg e, if_neg (by rw [ho]; exact Bool.false_ne_true), if_neg hc], by simp, by simp, fun g hg => hg, Nat.le_refl _, s1, by rw [List.map_append]; exact l1, l2⟩
                · rintro σ2 H6 ⟨sg', st', as', bs', rfl, hR, q1, q2, q3, q4, s1, l1, l2⟩
                  walk_at "w"
                  refine ⟨fun m σ3 H7 => ∃ (st2 : List Fr) (bs2 : List Addr), m = st2.length ∧ closes st2 = closes st' ∧ σ3 = [some (.ref p), some (.ref p1), some (.ref p2), some (.int r), some (.int u), some (.bl false), some (.int i), some (.str wd), some (.bl false), x9, x10] ∧
                    (∀ f ∈ st2, f ∈ st') ∧ st2.length ≤ st'.length ∧ Same H H7 ∧ LRa H7 p1 as' (sg'.map sgV) ∧ LRa H7 p2 bs2 (st2.reverse.map frV), ⟨_, st', bs', rfl, rfl, rfl, fun f h => h, Nat.le_refl _, s1, l1, l2⟩, ?_⟩
                  rintro m σ3 H7 ⟨st2, bs2, rfl, c1, rfl, c2, c3, s1, l1, l2⟩
                  have out : closes st2 = st2 → D.nx [some (.ref p), some (.ref p1), some (.ref p2), some (.int r), some (.int u), some (.bl false), some (.int i), some (.str wd), some (.bl false), x9, x10] H7 := fun hcl =>
                    fin ⟨sg', closes st', r, u, false⟩ as' bs2 _ hR (hok.to q1 q2 (Nat.le_trans (closes_len _) (Nat.le_trans q4 (Nat.le_succ _))) fun g hg => .inl ⟨g, q3 g (closes_sub hg), rfl⟩) s1 l1 (by show LRa _ _ _ ((closes st').reverse.map frV); rw [← c1, hcl]; exact l2) _ _
                  walk_at "w"
                  refine ⟨_, l2.tru, ?_⟩
                  cases st2 with
                  | nil =>
                    walk_at "w"
                    exact out rfl
                  | cons f rest =>
                    obtain ⟨b, hb1, hb2⟩ := l2.top
                    have hb2 : H7 b = some (.tup [.str f.1, .int f.2.1, .int f.2.2.1, .int f.2.2.2]) := hb2
                    have h2 := l2.l
                    walk_at "w"
                    refine iteB (fun hc => ?_) (fun hc => ?_)
                    · have hc : f.1 = "step" := V.str.inj (of_decide_eq_true hc)
                      refine ⟨_, fun _ _ z => z, ?_⟩
                      have hx := l2
                      rw [List.reverse_cons, List.map_append] at hx
                      obtain ⟨bs3, b3, rfl, hb3, l2'⟩ := LRa.last (row := frV f) hx
                      have hpop : ((bs3 ++ [b3]).map V.ref)[((bs3 ++ [b3]).map V.ref).length - 1]? = some (.ref b3) := by simp
                      walk_at "w"
                      exact ⟨rest.length, Nat.lt_succ_self _, rest, bs3, rfl, by rw [← c1]; show closes rest = (if f.1 = "step" then closes rest else _); rw [if_pos hc], rfl, fun g hg => c2 g (List.mem_cons_of_mem _ hg), Nat.le_trans (Nat.le_succ _) c3, sameU s1 n2', l1.other h2 hne, l2'⟩
                    · have hc : ¬ f.1 = "step" := fun e => of_decide_eq_false hc (congrArg _ e)
                      walk_at "w"
                      exact out (by show (if f.1 = "step" then _ else _) = _; rw [if_neg hc])
    · obtain ⟨R, as, bs, x6, x7, x8, x9, x10, rfl, hrd, hok, s1, l1, l2⟩ := h
      rw [List.length_map, List.drop_length] at hrd
      have hrd : rdAll 0 rd0 ws = (ws.length, !R.wanted && R.stack.isEmpty, R.signs) := hrd.symm
      have hp1 := s1 _ _ hp
      have fin : ∀ t H', Same H H' → H' t = some (.tup [.int ((ws.map V.str).length : Nat), .bl (!R.wanted && R.stack.isEmpty), .ref p1]) → LR H' p1 (R.signs.map sgV) → Q (.ref t) H' := fun t H' s2 ht hl2 => k t p1 H' s2 n1 (by rw [hrd]; rw [List.length_map] at ht; exact ht) (by rw [hrd]; exact hl2)
      walk_at "w"
      cases hw : R.wanted with
      | true =>
        rw [hw] at fin
        walk_at "w"
        rename_i T1 m1
        exact fin _ _ (Same.new s1 m1) upd_same ⟨as, l1.fresh m1⟩
      | false =>
        rw [hw] at fin
        walk_at "w"
        refine ⟨_, l2.tru, ?_⟩
        rw [Bool.not_not]
        walk_at "w"
        rename_i T1 m1
        exact fin _ _ (Same.new s1 m1) upd_same ⟨as, l1.fresh m1⟩
end
end K9
set_option Elab.async false
set_option linter.all false
set_option maxRecDepth 100000
set_option maxHeartbeats 4000000
namespace K9
open PySem PySem.Spec PyProof.Rows L2
/-! ### steps through a reading -/
/-- H a = some o, where H is told by its stores -/
local macro_rules | `(tactic| walk_at "look") => `(tactic| first
  | assumption
  | exact upd_same
  | (refine Eq.trans (upd_ne ?_) ?_ <;> first
      | assumption
      | exact Ne.symm (by assumption)
      | exact ne_nw (by assumption) (by walk_at "look")
      | exact Ne.symm (ne_nw (by assumption) (by walk_at "look"))
      | walk_at "look"))
local macro_rules | `(tactic| walk_at "sq") => `(tactic| first
  | assumption
  | exact SqL.of (by walk_at "look")
  | exact SqT.of (by walk_at "look"))
local macro_rules | `(tactic| walk_at "c") => `(tactic| first
  | decide
  | omega
  | assumption
  | exact Or.inr ⟨by decide, by decide⟩
  | exact ⟨by decide, by decide⟩
  | exact Nat.le_of_ble_eq_true rfl
  | exact line1000 (by assumption)
  | (intro z; omega)
  | (dsimp only; first | assumption | omega)
  | (constructor <;> first | decide | omega))
local macro_rules | `(tactic| walk_at "fl") => `(tactic| first
  | assumption
  | rfl
  | exact flat_ints _
  | decide +kernel
  | (simp only [List.all_map, List.all_cons, List.all_nil]; rfl))
local macro_rules | `(tactic| walk_at "ty") => `(tactic| first
  | exact TyX.base (TyOf.str _)
  | exact TyX.base (TyOf.int _)
  | exact TyX.base (TyOf.bl _)
  | exact TyX.base TyOf.non
  | exact TyX.base (TyOf.tup (by walk_at "look"))
  | exact TyX.base (TyOf.lst (by walk_at "look"))
  | exact TyX.base (TyOf.dK (by walk_at "look")))
local macro_rules | `(tactic| walk_at "kit") => `(tactic| first
  | assumption
  | exact kit_str_bool
  | exact kit_str_int
  | exact kit_str_str
  | exact kit_str_dict
  | exact kit_str_list
  | exact kit_str_tuple
  | exact kit_int_bool
  | exact kit_int_int
  | exact kit_int_str
  | exact kit_int_dict
  | exact kit_int_list
  | exact kit_int_tuple
  | exact kit_bool_bool
  | exact kit_bool_int
  | exact kit_bool_str
  | exact kit_bool_dict
  | exact kit_bool_list
  | exact kit_bool_tuple
  | exact kit_list_bool
  | exact kit_list_int
  | exact kit_list_str
  | exact kit_list_dict
  | exact kit_list_list
  | exact kit_list_tuple
  | exact kit_tuple_bool
  | exact kit_tuple_int
  | exact kit_tuple_str
  | exact kit_tuple_dict
  | exact kit_tuple_list
  | exact kit_tuple_tuple
  | exact kit_dict_bool
  | exact kit_dict_int
  | exact kit_dict_str
  | exact kit_dict_dict
  | exact kit_dict_list
  | exact kit_dict_tuple
  | exact kit_NoneType_bool
  | exact kit_NoneType_int
  | exact kit_NoneType_str
  | exact kit_NoneType_dict
  | exact kit_NoneType_list
  | exact kit_NoneType_tuple)
local macro_rules | `(tactic| walk_at "len") => `(tactic| (refine sline ?_; (try simp only [slen, show ("( " : Str).length = 2 from rfl, show (" " : Str).length = 1 from rfl, show (" )" : Str).length = 2 from rfl, show Str.empty.length = 0 from rfl]); omega))
local macro_rules | `(tactic| walk_at "w1") => `(tactic| (first
  | ((with_reducible apply tVar_i); exact rfl)
  | with_reducible refine tC_i ?_
  | with_reducible refine tCons_i ?_
  | with_reducible refine tNil_i ?_
  | with_reducible refine tOp_i ?_
  | with_reducible refine tSeq_i ?_
  | with_reducible refine tAsg_i ?_
  | with_reducible refine tDrop_i ?_
  | with_reducible refine tRet_i ?_
  | with_reducible refine tNext_i ?_
  | with_reducible refine tIfS_i ?_
  | with_reducible refine tIf_i ?_
  | with_reducible refine tTest_i ?_
  | with_reducible refine tB_i ?_
  | with_reducible refine tNot_i ?_
  | with_reducible refine tAnd_i ?_
  | with_reducible refine tOr_i ?_
  | with_reducible refine tAndV_i ?_
  | with_reducible refine tOrV_i ?_
  | with_reducible refine tNotV_i ?_
  | with_reducible refine tNotT_i ?_
  | with_reducible refine tUn_i ?_
  | with_reducible refine tCB_i ?_
  | with_reducible refine tCall_i ?_
  | with_reducible refine tTup_i ?_
  | with_reducible refine tLst_i ?_
  | with_reducible refine tPar_i ?_
  | with_reducible refine tPar3_i ?_
  | with_reducible refine tSl_i ?_
  | with_reducible refine bl_i ?_
  | with_reducible refine tFor_i ?_
  | with_reducible refine tLc_i ?_
  | with_reducible refine iEnum_i ?_
  | with_reducible refine iList_i ?_
  | with_reducible refine iTup_i ?_
  | with_reducible refine iRng1_i ?_
  | ((with_reducible apply enum_i); walk_at "sq")
  | ((with_reducible apply list_i); walk_at "sq")
  | ((with_reducible apply tup_i); walk_at "sq")
  | ((with_reducible refine rng1_i ?_ ?_); walk_at "c")
  | with_reducible refine par2_i ?_
  | with_reducible refine par3_i ?_
  | with_reducible refine gName_i ?_
  | with_reducible refine gc_i ?_
  | with_reducible refine gNil_i ?_
  | with_reducible refine rI0_i ?_
  | with_reducible refine rU_i ?_
  | with_reducible refine max2_i ?_
  | with_reducible refine tM1_i ?_
  | with_reducible refine tM0_i ?_
  | with_reducible refine str_i ?_
  | with_reducible refine tBM_iL ?_
  | with_reducible refine tBM0_iL ?_
  | ((with_reducible refine rEq_i ?_ ?_); exact rfl)
  | ((with_reducible refine rNe_i ?_ ?_); exact rfl)
  | ((with_reducible refine rI_i ?_ ?_); walk_at "c")
  | ((with_reducible apply ty_i); walk_at "sq")
  | ((with_reducible apply gTup_i); walk_at "sq"; exact rfl)
  | ((with_reducible apply rIxL_i); walk_at "sq"; first | exact rfl | assumption)
  | ((with_reducible apply rIxT_i); walk_at "sq"; first | exact rfl | assumption)
  | ((with_reducible apply rInT_i); walk_at "sq"; exact rfl; exact rfl)
  | ((with_reducible apply rInL_i); walk_at "sq"; exact rfl; exact rfl)
  | with_reducible refine gSub_i ?_
  | with_reducible refine tJs1_i ?_
  | with_reducible refine tJs0_i ?_
  | with_reducible refine tFmt_i ?_
  | ((with_reducible refine fmtS_i ?_ ?_); walk_at "len")
  | ((with_reducible refine js_i ?_ ?_); walk_at "len")
  | ((with_reducible apply rCat_i); walk_at "look"; walk_at "look"; walk_at "c")
  | ((with_reducible apply rIsi_i); walk_at "ty"; walk_at "kit")
  | ((with_reducible apply rNe_nil); walk_at "sq"; walk_at "fl"; walk_at "sq")
  | ((with_reducible apply rEq_nil); walk_at "sq"; walk_at "fl"; walk_at "sq")
  | with_reducible refine tDisp_i ?_
  | with_reducible refine tPairs0_i ?_
  | with_reducible refine tPairs1_i ?_
  | ((with_reducible apply disp1_i); walk_at "look")
  | ((with_reducible apply disp2_i); walk_at "look")
  | with_reducible refine tFld_i ?_
  | with_reducible refine sFld_i ?_
  | ((with_reducible apply fld_i); walk_at "look"; assumption; assumption; first | exact rfl | assumption)
  | ((with_reducible apply sfld_i); walk_at "look"; assumption; assumption; walk_at "c")
  | with_reducible refine tRevL_i ?_
  | ((with_reducible apply rev_i); walk_at "sq")
  | ((with_reducible apply rSetL_i); walk_at "look"; first | exact rfl | assumption)
  | ((with_reducible apply rIxK_i); assumption; assumption)
  | ((with_reducible apply rInK_i); assumption)
  | ((with_reducible apply rAppend_i); walk_at "look"; walk_at "c")
  | ((with_reducible apply rPop_i); walk_at "look"; first | exact rfl | assumption)
  | ((with_reducible apply len_i); walk_at "sq")
  | ((with_reducible apply lenT_i); walk_at "sq")
  | ((with_reducible apply rSlL_i); walk_at "sq")
  | with_reducible refine iteT ?_
  | with_reducible refine iteF ?_
  | ((with_reducible refine iteTk ?_ ?_); assumption)
  | ((with_reducible refine iteFk ?_ ?_); assumption)
  | ((with_reducible refine iteTk ?_ ?_); decide +kernel)
  | ((with_reducible refine iteFk ?_ ?_); decide +kernel)
  | ((with_reducible refine iteTk ?_ ?_); exact rfl)
  | ((with_reducible refine iteFk ?_ ?_); exact rfl)
  | with_reducible refine fun (p : Addr) (n : _ = none) => ?_
  | with_reducible refine Or.inl ⟨_, rfl, ?_⟩
  | with_reducible refine ⟨_, rfl, ?_⟩
  | with_reducible refine ⟨_, _, rfl, rfl, ?_⟩
  | ((with_reducible refine ⟨_, _, _, _, _, rfl, ClsV.ty _, ?_, ?_, ?_⟩); walk_at "ty"; walk_at "kit")
  | ((with_reducible refine And.intro ?_ ?_); walk_at "c")))
local macro_rules | `(tactic| walk_at "w") => `(tactic| repeat (walk_at "w1"))
local macro_rules | `(tactic| walk_at "but") => `(tactic| first
  | assumption
  | exact But.refl _ _
  | (refine But.upd ?_; walk_at "but")
  | (refine But.new ?_ (by assumption); walk_at "but"))
local macro_rules | `(tactic| walk_at "same") => `(tactic| first
  | assumption
  | exact Same.refl _
  | (refine Same.new ?_ (by assumption); walk_at "same")
  | (refine Same.trans (by assumption) ?_; walk_at "same"))
local macro_rules | `(tactic| walk_at "x") => `(tactic| (dsimp only [Cx.nox, Cx.wish, cxOf, L2H.cxH]))
abbrev s_depth : Stmt := (top 34)
theorem scDepth : FnScope ["signs", "stack", "sign", "_"] ["signs"] (defScope (top 34)) := ⟨rfl, rfl, rfl, by decide +kernel, rfl, by decide +kernel, by decide +kernel⟩
def dStep (st : List Int) (w : Str) : Option (List Int) :=
  if leafB w = true then some (0 :: st) else if (stepL.lookup w).isSome = true then (match st with
    | [] => none
    | a :: r => some ((a + 1) :: r)) else match st with
    | a :: b :: r => some ((if b > a then b else a) :: r)
    | _ => none
def dRun : List Int → List Str → Option (List Int)
  | st, [] => some st
  | st, w :: ws => (dStep st w).bind fun st' => dRun st' ws
def spDepth : Sp := fun vs H Q _ => ∃ (p : Addr) (sg : List Sg) (d : Int), vs = [.ref p] ∧ LR H p (sg.map sgV) ∧ sg.length ≤ 1000 ∧ dRun [] (sg.reverse.map (·.1)) = some [d] ∧ ∀ H', Same H H' → Q (.int d) H'
section
variable {P : Program} {w : World} {K : PySem.W.Frag} {mg : Str → Option Value} {base : Heap} {f : Addr} {fd : FuncData}
theorem ok_depth (Z : Free mg) (TB : Tb K w mg) (F : FnP K "depth_of" "depth_of" s_depth [] f fd) : FnOk P w K mg base CX0 1 f fd ["signs"] spDepth := by
  refine F.ok scDepth (fun vs H Q E h => ?_) (fun cdv A outer s H vs Q E hr h => ?_)
  · obtain ⟨a, b, c, rfl, _⟩ := h
    rfl
  · have hu := hu_of hr
    obtain ⟨p, sg, d, rfl, ⟨as, l0⟩, hl, hd, k⟩ := h
    have h0 := l0.l
    refine ⟨_, PSs.nox (pss_cons (ps_set (i := 1) scDepth.nd rfl (Or.inl rfl) (pe_lst pa_nil))
      (pss_cons (ps_for PassesOwn.never rfl (pi_list (pe_revL (pv 0))) (pg_tup rfl (pgs_cons (pg_name (i := 2) scDepth.nd rfl (Or.inl rfl)) (pgs_cons (pg_name (i := 3) scDepth.nd rfl (Or.inl rfl)) (pgs_cons (pg_name (i := 3) scDepth.nd rfl (Or.inl rfl)) pgs_nil)))) 
        (pss_one (ps_if (pt_cmpR op_in_seq (pv 2) (pe_glob (v := .ref _) rfl TB.m_LEAVES rfl) (by rfl)) 
          (pss_one (ps_expr (pe_bm PySem.F.plainAttrs_list PySem.F.slot_list_append PySem.F.type_list_append mt_append (pv 1) (pa_cons pe_int pa_nil)))) 
          (pss_one (ps_if (pt_cmpR op_inK (pv 2) (pe_glob (v := .ref _) rfl TB.m_STEPS rfl) (by rfl)) 
            (pss_one (ps_expr (pe_bm PySem.F.plainAttrs_list PySem.F.slot_list_append PySem.F.type_list_append mt_append (pv 1) (pa_cons (pe_op op_add (pe_bm0 PySem.F.plainAttrs_list PySem.F.slot_list_pop PySem.F.type_list_pop mt_pop (pv 1)) pe_int) pa_nil)))) 
            (pss_one (ps_expr (pe_bm PySem.F.plainAttrs_list PySem.F.slot_list_append PySem.F.type_list_append mt_append (pv 1) (pa_cons (pe_callB (call_max2 rfl) (by rfl) Z.max (by decide +kernel) (pa_cons (pe_callTy call_int1 (by rfl) Z.int (by decide +kernel) (pa_cons (pe_bm0 PySem.F.plainAttrs_list PySem.F.slot_list_pop PySem.F.type_list_pop mt_pop (pv 1)) pa_nil)) (pa_cons (pe_callTy call_int1 (by rfl) Z.int (by decide +kernel) (pa_cons (pe_bm0 PySem.F.plainAttrs_list PySem.F.slot_list_pop PySem.F.type_list_pop mt_pop (pv 1)) pa_nil)) pa_nil))) pa_nil)))))))))
      (pss_one (ps_ret (pe_ix ix_list (pv 1) pe_int (fun _ _ => rfl)))))), ?_⟩
    walk_at "w"
    rename_i p1 n1 p2 n2
    have hrev : ((as.map V.ref).reverse) = (as.reverse.map V.ref) := by rw [List.map_reverse]
    have hlen := l0.len
    rw [List.length_map] at hlen
    have hne : p2 ≠ p1 := Ne.symm (ne_nw n2 upd_same)
    refine for_list (xs := (as.map V.ref).reverse) (fun i σ' H' => ∃ (st : List Int) (x2 x3 : Option V), σ' = [some (.ref p), some (.ref p1), x2, x3] ∧ dRun st ((sg.reverse.map (·.1)).drop i) = some [d] ∧ st.length ≤ i ∧ Same H H' ∧ H' p1 = some (.lst (st.reverse.map V.int)) ∧ H' p2 = some (.lst ((as.map V.ref).reverse))) ?_ (fun i σ' H' hi h => ?_) (fun i x σ' H1 hi h => ?_) (fun σ' H' h => ?_)
    · exact ⟨[], none, none, rfl, hd, Nat.le_refl _, by walk_at "same", by walk_at "look", upd_same⟩
    · obtain ⟨st, x2, x3, rfl, _, _, _, _, h2⟩ := h
      exact SqL.of h2
    · obtain ⟨st, x2, x3, rfl, h1, h2, s1, h3, h4⟩ := h
      have hi' : i < sg.length := by
        have := (List.getElem?_eq_some_iff.mp hi).1
        rw [List.length_reverse, List.length_map] at this
        omega
      obtain ⟨a, g, rfl, hg, ha⟩ : ∃ a g, x = V.ref a ∧ sg.reverse[i]? = some g ∧ H1 a = some (.tup [.str g.1, .int g.2.1, .int g.2.2]) := by
        rw [List.getElem?_reverse (by rw [List.length_map]; omega), List.getElem?_map, List.length_map] at hi
        obtain ⟨a, ha, rfl⟩ := Option.map_eq_some_iff.mp hi
        have hj : as.length - 1 - i < sg.length := by omega
        refine ⟨a, sg[as.length - 1 - i], rfl, ?_, ?_⟩
        · rw [List.getElem?_reverse hi', ← hlen]
          exact List.getElem?_eq_getElem (by omega)
        · exact paired_get (l0.same s1).r ha (b := sgV sg[as.length - 1 - i]) (by rw [List.getElem?_map, List.getElem?_eq_getElem hj]; rfl)
      have hdr : (sg.reverse.map (·.1)).drop i = g.1 :: (sg.reverse.map (·.1)).drop (i + 1) := by
        have hz : i < (sg.reverse.map (·.1)).length := by simpa using hi'
        rw [List.drop_eq_getElem_cons hz]
        congr 1
        have := List.getElem?_eq_getElem hz
        rw [List.getElem?_map, hg] at this
        exact (Option.some.inj this).symm
      rw [hdr] at h1
      obtain ⟨st', e1, e2⟩ := Option.bind_eq_some_iff.mp (show (dStep st g.1).bind _ = some [d] from h1)
      have z1 : (st.reverse.map V.int).length < sizeLine := by
        rw [List.length_map, List.length_reverse]
        exact small1000 (by omega)
      refine gTup_i (SqT.of ha) rfl (gc_i (gc_i (gc_i (gNil_i ?_))))
      refine abs_ends rfl rfl fun D hnx hrt => ?_
      replace hnx : ∀ σ' H', (∃ (st : List Int) (x2 x3 : Option V), σ' = [some (.ref p), some (.ref p1), x2, x3] ∧ dRun st ((sg.reverse.map (·.1)).drop (i + 1)) = some [d] ∧ st.length ≤ (i + 1) ∧ Same H H' ∧ H' p1 = some (.lst (st.reverse.map V.int)) ∧ H' p2 = some (.lst ((as.map V.ref).reverse))) → D.nx σ' H' := hnx
      have n1' : H p1 = none := n1
      have fin : ∀ (st2 : List Int) (H' : Hp), dStep st g.1 = some st2 → st2.length ≤ st.length + 1 → Same H H' → H' p1 = some (.lst (st2.reverse.map V.int)) → H' p2 = some (.lst ((as.map V.ref).reverse)) →
          ∀ x2 x3, D.nx [some (.ref p), some (.ref p1), x2, x3] H' := fun st2 H' hq hl2 q1 q2 q3 x2 x3 =>
        hnx _ _ ⟨st2, x2, x3, rfl, by rw [e1] at hq; cases hq; exact e2, by omega, q1, q2, q3⟩
      walk_at "w"
      refine rInT_i (TB.k_LEAVES _) rfl rfl ?_
      rw [in2]
      refine bl_i (iteB (fun hc => ?_) (fun hc => ?_))
      · have hc : leafB g.1 = true := hc
        walk_at "w"
        exact fin (0 :: st) _ (by unfold dStep; rw [if_pos hc]) (Nat.le_refl _) (sameU s1 n1') (by rw [List.reverse_cons, List.map_append]; exact upd_same) ((upd_ne hne).trans h4) _ _
      · have hc : ¬ leafB g.1 = true := by rw [show leafB g.1 = false from hc]; exact Bool.false_ne_true
        obtain ⟨a0, b0, c0, d0, D0, _⟩ := TB.k_STEPS
        walk_at "w"
        rw [in4]
        refine iteB (fun hs => ?_) (fun hs => ?_)
        · cases st with
          | nil =>
            exfalso
            unfold dStep at e1
            rw [if_neg hc, if_pos hs] at e1
            cases e1
          | cons y r =>
            have hpop : ((y :: r).reverse.map V.int)[((y :: r).reverse.map V.int).length - 1]? = some (.int y) := by simp
            have hdl : ((y :: r).reverse.map V.int).dropLast = r.reverse.map V.int := by simp
            have z3 : (r.reverse.map V.int).length < sizeLine := by
              rw [List.length_map, List.length_reverse] at z1 ⊢
              exact Nat.lt_of_succ_lt z1
            walk_at "w"
            rw [hdl]
            walk_at "w"
            exact fin ((y + 1) :: r) _ (by unfold dStep; rw [if_neg hc, if_pos hs]) (Nat.le_succ _) (sameU (sameU s1 n1') n1') (by rw [List.reverse_cons, List.map_append]; exact upd_same) ((upd_ne hne).trans ((upd_ne hne).trans h4)) _ _
        · cases st with
          | nil =>
            exfalso
            unfold dStep at e1
            rw [if_neg hc, if_neg (by rw [hs]; exact Bool.false_ne_true)] at e1
            cases e1
          | cons y r =>
            cases r with
            | nil =>
              exfalso
              unfold dStep at e1
              rw [if_neg hc, if_neg (by rw [hs]; exact Bool.false_ne_true)] at e1
              cases e1
            | cons z r =>
              have hpop : ((y :: z :: r).reverse.map V.int)[((y :: z :: r).reverse.map V.int).length - 1]? = some (.int y) := by simp
              have hdl : ((y :: z :: r).reverse.map V.int).dropLast = (z :: r).reverse.map V.int := by simp
              have hpop2 : ((z :: r).reverse.map V.int)[((z :: r).reverse.map V.int).length - 1]? = some (.int z) := by simp
              have hdl2 : ((z :: r).reverse.map V.int).dropLast = r.reverse.map V.int := by simp
              have z3 : (r.reverse.map V.int).length < sizeLine := by
                rw [List.length_map, List.length_reverse] at z1 ⊢
                exact Nat.lt_of_succ_lt (Nat.lt_of_succ_lt z1)
              walk_at "w"
              rw [hdl]
              walk_at "w"
              rw [hdl2]
              walk_at "w"
              exact fin ((if z > y then z else y) :: r) _ (by unfold dStep; rw [if_neg hc, if_neg (by rw [hs]; exact Bool.false_ne_true)]) (Nat.le_trans (Nat.le_succ _) (Nat.le_succ _)) (sameU (sameU (sameU s1 n1') n1') n1') (upd_same.trans (by simp)) ((upd_ne hne).trans ((upd_ne hne).trans ((upd_ne hne).trans h4))) _ _
    · obtain ⟨st, x2, x3, rfl, h1, h2, s1, h3, h4⟩ := h
      rw [List.length_reverse, List.length_map, hlen, show sg.length = (sg.reverse.map (·.1)).length from by simp, List.drop_length] at h1
      cases Option.some.inj h1
      walk_at "w"
      exact k _ s1
end
end K9
set_option Elab.async false
set_option linter.all false
set_option maxRecDepth 100000
set_option maxHeartbeats 4000000
namespace K9
open PySem PySem.Spec PyProof.Rows L2
/-! ### steps through a reading -/
/-- H a = some o, where H is told by its stores -/
local macro_rules | `(tactic| walk_at "look") => `(tactic| first
  | assumption
  | exact upd_same
  | (refine Eq.trans (upd_ne ?_) ?_ <;> first
      | assumption
      | exact Ne.symm (by assumption)
      | exact ne_nw (by assumption) (by walk_at "look")
      | exact Ne.symm (ne_nw (by assumption) (by walk_at "look"))
      | walk_at "look"))
local macro_rules | `(tactic| walk_at "sq") => `(tactic| first
  | assumption
  | exact SqL.of (by walk_at "look")
  | exact SqT.of (by walk_at "look"))
local macro_rules | `(tactic| walk_at "c") => `(tactic| first
  | decide
  | omega
  | assumption
  | exact Or.inr ⟨by decide, by decide⟩
  | exact ⟨by decide, by decide⟩
  | exact Nat.le_of_ble_eq_true rfl
  | exact line1000 (by assumption)
  | (intro z; omega)
  | (dsimp only; first | assumption | omega)
  | (constructor <;> first | decide | omega))
local macro_rules | `(tactic| walk_at "fl") => `(tactic| first
  | assumption
  | rfl
  | exact flat_ints _
  | decide +kernel
  | (simp only [List.all_map, List.all_cons, List.all_nil]; rfl))
local macro_rules | `(tactic| walk_at "ty") => `(tactic| first
  | exact TyX.base (TyOf.str _)
  | exact TyX.base (TyOf.int _)
  | exact TyX.base (TyOf.bl _)
  | exact TyX.base TyOf.non
  | exact TyX.base (TyOf.tup (by walk_at "look"))
  | exact TyX.base (TyOf.lst (by walk_at "look"))
  | exact TyX.base (TyOf.dK (by walk_at "look")))
local macro_rules | `(tactic| walk_at "kit") => `(tactic| first
  | assumption
  | exact kit_str_bool
  | exact kit_str_int
  | exact kit_str_str
  | exact kit_str_dict
  | exact kit_str_list
  | exact kit_str_tuple
  | exact kit_int_bool
  | exact kit_int_int
  | exact kit_int_str
  | exact kit_int_dict
  | exact kit_int_list
  | exact kit_int_tuple
  | exact kit_bool_bool
  | exact kit_bool_int
  | exact kit_bool_str
  | exact kit_bool_dict
  | exact kit_bool_list
  | exact kit_bool_tuple
  | exact kit_list_bool
  | exact kit_list_int
  | exact kit_list_str
  | exact kit_list_dict
  | exact kit_list_list
  | exact kit_list_tuple
  | exact kit_tuple_bool
  | exact kit_tuple_int
  | exact kit_tuple_str
  | exact kit_tuple_dict
  | exact kit_tuple_list
  | exact kit_tuple_tuple
  | exact kit_dict_bool
  | exact kit_dict_int
  | exact kit_dict_str
  | exact kit_dict_dict
  | exact kit_dict_list
  | exact kit_dict_tuple
  | exact kit_NoneType_bool
  | exact kit_NoneType_int
  | exact kit_NoneType_str
  | exact kit_NoneType_dict
  | exact kit_NoneType_list
  | exact kit_NoneType_tuple)
local macro_rules | `(tactic| walk_at "g") => `(tactic| repeat (first
  | refine gc_i ?_
  | refine ⟨_, rfl, ?_⟩
  | refine ⟨rfl, ?_⟩
  | intro _ _
  | refine ⟨_, _, rfl, rfl, ?_⟩
  | refine ⟨_, _, _, _, rfl, rfl, by walk_at "sq", by first | rfl | assumption, ?_⟩
  | refine And.intro (by walk_at "c") ?_
  | refine iteTk (by decide +kernel) ?_
  | refine iteFk (by decide +kernel) ?_
  | refine iteT ?_
  | refine iteF ?_
  | refine ⟨_, _, _, _, rfl, rfl, by walk_at "look", by rfl, ?_⟩
  | refine Or.inl ⟨_, rfl, ?_⟩
  | refine ⟨_, _, rfl, Or.inl (by walk_at "sq"), ?_⟩
  | refine ⟨_, _, rfl, Or.inr (by walk_at "sq"), ?_⟩
  | refine ⟨_, _, rfl, by walk_at "sq", ?_⟩
  | refine ⟨_, _, rfl, Or.inr (by walk_at "sq"), by rfl, by rfl, ?_⟩
  | refine ⟨_, _, rfl, Or.inl (by walk_at "sq"), by rfl, by rfl, ?_⟩
  | refine ⟨_, _, rfl, by walk_at "look", by rfl, ?_⟩
  | refine ⟨_, _, _, _, _, rfl, by walk_at "look", by assumption, by assumption, by rfl, ?_⟩
  | refine ⟨_, _, _, _, _, rfl, ClsV.ty _, by walk_at "ty", by walk_at "kit", ?_⟩
  | refine rNe_nil (by walk_at "sq") (by walk_at "fl") (by walk_at "sq") ?_
  | refine rEq_nil (by walk_at "sq") (by walk_at "fl") (by walk_at "sq") ?_
  | refine rNe_flat (by walk_at "sq") (by walk_at "sq") (by walk_at "fl") (by walk_at "fl") ?_
  | refine rEq_flat (by walk_at "sq") (by walk_at "sq") (by walk_at "fl") (by walk_at "fl") ?_))
local macro_rules | `(tactic| walk_at "but") => `(tactic| first
  | assumption
  | exact But.refl _ _
  | (refine But.upd ?_; walk_at "but")
  | (refine But.new ?_ (by assumption); walk_at "but"))
local macro_rules | `(tactic| walk_at "same") => `(tactic| first
  | assumption
  | exact Same.refl _
  | (refine Same.new ?_ (by assumption); walk_at "same")
  | (refine Same.trans (by assumption) ?_; walk_at "same"))
local macro_rules | `(tactic| walk_at "x") => `(tactic| (dsimp only [Cx.nox, Cx.wish, cxOf, L2H.cxH]))
abbrev s_tried : Stmt := (top 47)
abbrev s_refused : Stmt := (top 48)
theorem scTried : FnScope ["call", "made", "e"] ["call"] (defScope (top 47)) := ⟨rfl, rfl, rfl, by decide +kernel, rfl, by decide +kernel, by decide +kernel⟩
theorem scRefused : FnScope ["call", "due", "told"] ["call", "due"] (defScope (top 48)) := ⟨rfl, rfl, rfl, by decide +kernel, rfl, by decide +kernel, by decide +kernel⟩
/-- a BadLook is raised, its at n -/
def Bad1 (K : PySem.W.Frag) (n : Int) (cls : Value) (d : Option Addr) (H1 : Hp) : Prop := ∃ dd y, cls = .ref (He.ga K "BadLook") ∧ d = some dd ∧ H1 dd = some (.xd [("why", .str y), ("at", .int n)]) ∧ ¬ (y = "") ∧ y.length ≤ 1000
def ttTried (K : PySem.W.Frag) : (Hp → VK → XK → Prop) → List V → Hp → VK → Prop := fun tl ys H Q => ys = [] ∧ ∀ (Q' : VK) (E' : XK),
  (∀ cls d H1, (∃ n, Bad1 K n cls d H1 ∧ ∀ t H', Same H1 H' → H' t = some (.tup [.str "BadLook", .int n]) → Q (.ref t) H') → E' cls d H1) → tl H Q' E'
section
variable {P : Program} {w : World} {K : PySem.W.Frag} {mg : Str → Option Value} {base : Heap} {f : Addr} {fd : FuncData}
theorem pss_mono {X : Cx} {ss : List Stmt} {t t' : TS} (h : PSs X ss t) (m : ∀ D σ H, t' D σ H → t D σ H) : PSs X ss t' := ⟨fun pins s σ H D I q => h.run pins s σ H D I (m D σ H q)⟩
def tsTried (K : PySem.W.Frag) (a : Addr) (cls : Value) (d : Option Addr) : TS := fun D σ H => σ[2]? = some (some (.ref a)) ∧ ∃ n, Bad1 K n cls d H ∧ ∀ t H', Same H H' → H' t = some (.tup [.str "BadLook", .int n]) → D.rt (.ref t) H'
theorem ok_tried (ER : Er K mg) (F : FnP K "_law_tried" "_law_tried" s_tried [] f fd) {f2 : Addr} {fd2 : FuncData} (G2 : FnE P w K mg base 2 f2 fd2 ["error"] (spCaught K)) (m2 : mg "_law_caught" = some (.ref f2)) (k2 : PySem.W.keepIn K (.ref f2) = true) (b2 : Binds K fd2 ["error"] [])
    {k : Nat} {f0 c' : Addr} {q : Str} {Hm : Hp} {sm : Shared} {tl : Hp → VK → XK → Prop} (LA : LamAt P w K mg base k f0 c' q Hm sm tl) : FnJ P w K mg base (k + 3) f fd ["call"] Hm sm (spLam q (ttTried K) f0 c' tl) := by
  refine fnJ_of F scTried (fun vs H Q E h => ?_) (fun cdv A outer s H vs Q hr hS h => ?_)
  · obtain ⟨ys, rfl, _, rfl, _⟩ := h
    rfl
  · obtain ⟨ys, rfl, hco, rfl, hl⟩ := h
    refine ⟨_, pss_cons (L2N.ps_try_as rfl rfl scTried.nd (n := "e") (i := 2) rfl rfl (Wout := fun _ _ _ _ => False) ⟨rfl, by decide, .inl ER.m_EveryError⟩ (fun u s' ⟨_, _, _, _, _, _, _, _, _, _, _, _, _, _, _, _, w⟩ => w.elim)
      (ts := tsTried K) (fun W pn xe tk _ => pss_one (ps_set (i := 1) scTried.nd rfl (Or.inl rfl) (pe_lamCall LA hS rfl tk (hr.mono (by omega)) (i := 0) rfl (Or.inl rfl))))
      (fun a oe cls d pn hz hd => ?_)) (pss_one (ps_ret (pe_tup (pa_cons pe_str (pa_cons (pv 1) pa_nil))))), ?_⟩
    · obtain ⟨vs, hvs⟩ := hd
      refine pss_mono (pss_one (ps_ret (pe_callE (p := (a, oe)) G2 ⟨(L2H.roomH_of (hr.mono (j := 2) (by omega))).dp, (L2H.roomH_of (hr.mono (j := 2) (by omega))).un⟩ ⟨rfl, vs, hvs, hz.2.2 vs hvs⟩ List.mem_cons_self rfl m2 k2 b2 (pa_cons (pv 2) pa_nil)))) ?_
      rintro D σ H1 ⟨h1, n, ⟨dd, y, rfl, rfl, hdd, hy, hyl⟩, k⟩
      exact ⟨_, h1, n, y, rfl, ⟨dd, ⟨hz.1, hz.2.1, vs, hvs⟩, hdd⟩, hy, hyl, k⟩
    · refine ⟨rfl, hco, hl _ _ fun cls d H1 ⟨n, hB, kk⟩ => ?_⟩
      obtain ⟨dd, y, rfl, rfl, _⟩ := id hB
      refine ⟨true, ER.exm, fun _ a na => ⟨rfl, n, hB, kk⟩, fun z => nomatch z⟩
def ttRefused (K : PySem.W.Frag) : (Hp → VK → XK → Prop) → List V → Hp → VK → Prop := fun tl ys H Q => ∃ u n, ys = [.ref u] ∧ H u = some (.tup [.str "BadLook", .int n]) ∧ (∀ H', Same H H' → Q (.bl true) H') ∧ ∀ (Q' : VK) (E' : XK),
  (∀ cls d H1, Same H H1 → Bad1 K n cls d H1 → E' cls d H1) → tl H Q' E'
theorem ok_refused (ER : Er K mg) (F : FnP K "_law_refused" "_law_refused" s_refused [] f fd) {f1 : Addr} {fd1 : FuncData} (m1 : mg "_law_tried" = some (.ref f1)) (k1 : PySem.W.keepIn K (.ref f1) = true) (b1 : Binds K fd1 ["call"] [])
    {f3 : Addr} {fd3 : FuncData} (Cs : Cal P w K mg base CX0 2 "_law_same" ["told", "due"] spSame f3 fd3)
    {k : Nat} {f0 c' : Addr} {q : Str} {Hm : Hp} {sm : Shared} {tl : Hp → VK → XK → Prop} (G : FnJ P w K mg base (k + 3) f1 fd1 ["call"] Hm sm (spLam q (ttTried K) f0 c' tl)) :
    FnJ P w K mg base (k + 4) f fd ["call", "due"] Hm sm (spLam q (ttRefused K) f0 c' tl) := by
  refine fnJ_of F scRefused (fun vs H Q E h => ?_) (fun cdv A outer s H vs Q hr hS h => ?_)
  · obtain ⟨ys, rfl, _, u, n, rfl, _⟩ := h
    rfl
  · obtain ⟨ys, rfl, hco, u, n, rfl, hu, k, hl⟩ := h
    refine ⟨_, (pss_cons (ps_set (i := 2) scRefused.nd rfl (Or.inl rfl) (pe_callJ G hS rfl (hr.mono (by omega)) rfl m1 k1 b1 (pa_cons (pv 0) pa_nil)))
      (pss_one (ps_ret (pe_and (pe_cmpR op_eq (pe_ix ix_tup (pv 2) pe_int (fun _ _ => rfl)) (pe_ix ix_tup (pv 1) pe_int (fun _ _ => rfl)) (nomark _)) (pe_one (pe_call Cs.ok (hr.mono (by omega)) rfl Cs.mg Cs.kp Cs.b .nil pass0 (pa_cons (pv 2) (pa_cons (pv 1) pa_nil)))))))), ?_⟩
    refine ⟨_, rfl, ⟨_, rfl, hco, rfl, fun Q' E' hE => hl Q' E' fun cls d H1 s1 hB => hE cls d H1 ⟨n, hB, fun t H2 s2 ht => ?_⟩⟩⟩
    have hu2 := s2 _ _ (s1 _ _ hu)
    walk_at "g"
    refine ⟨t, u, _, rfl, ht, hu2, by show 2 ≤ 1000; decide, fun x hx => ?_, fun H3 s3 => k H3 (s1.trans (s2.trans s3))⟩
    rcases List.mem_cons.mp hx with rfl | hx
    · exact .inl ⟨_, rfl⟩
    · obtain rfl := List.mem_singleton.mp hx
      exact .inr ⟨_, rfl⟩
end
end K9
set_option Elab.async false
set_option linter.all false
set_option maxRecDepth 100000
set_option maxHeartbeats 4000000
/-! x == y by the class's own __eq__, whatever it answers. -/
namespace K9
open PySem PySem.Spec PySem.Calls PyProof.Rows L2
/-- y's type is told for the comparison -/
inductive TyY (K : PySem.W.Frag) (H : Hp) (C : Addr) : V → Value → Prop where
  | ins {b dy : Addr} {gs : List (Str × V)} (h : H b = some (.ins C dy gs)) : TyY K H C (.ref b) (.ref C)
  | str (z : Str) : TyY K H C (.str z) (.type "str")
/-- x == y, x an instance of the class at C; sp: what its __eq__ promises -/
def rOwn (K : PySem.W.Frag) (C : Addr) (sp : Sp) : R2 := fun x y H Q => ∃ a dx fs t, x = .ref a ∧ H a = some (.ins C dx fs) ∧ TyY K H C y t ∧ PySem.W.notFirst K C t = true ∧ sp [x, y] H (fun v H' => (∃ b, v = .bl b) ∧ Q v H') E0
theorem op_own {X : Cx} {CX : CXT} {C f : Addr} {fd : FuncData} {ps : List Str} {sp : Sp} {n : Nat} (F : FnOk X.prog X.w X.K X.mg X.base CX n f fd ps sp) (hr : Room n X.A)
    (hs : PySem.W.findIn X.K (.ref C) "__eq__" = some (some (.ref f))) (hf : PySem.W.isFn X.K (.ref f) = true) (hb : Binds X.K fd ps []) (hx : Passes CX X E0) : OpR X (compareOp .Eq) (rOwn X.K C sp) := by
  intro pins s σ H x y v u Q I rx ry h
  obtain ⟨a, dx, fs, t, rfl, ha, ty, nf, hsp⟩ := h
  obtain rfl : v = Value.ref a := rx
  obtain ⟨mA, J, _⟩ := ins_get I.hok ha
  obtain ⟨od, J, _⟩ := J.look
  obtain ⟨m, hF⟩ := I.fr
  have lt : PySem.W.Looks (model X.prog X.w) s.heap (typeOf u) t := by
    cases ty with
    | ins hb' =>
      obtain rfl : u = Value.ref _ := ry
      obtain ⟨mB, J', _⟩ := ins_get I.hok hb'
      obtain ⟨od', J', _⟩ := J'.look
      exact J'.type
    | str z =>
      obtain ⟨tk, rfl⟩ := (show ∃ t, u = Value.str z t from ry)
      exact fun A Q E s k q => wpAny_pure q
  show wpAny (model X.prog X.w) X.A (richCompare .Eq (.ref a) u) (EP X pins σ Q) X.xe s
  refine PySem.W.cmp_K (op := .Eq) (tb := t) hr.units0 hF I.ok.mod.kin J lt nf hs hf ?_
  have hl := F.len _ _ _ _ hsp
  have r2 : Vals [V.ref a, y] [Value.ref a, u] := .cons rfl (.cons ry .nil)
  refine wpAny_call (codeAny_mono (F.run X.A X.stack s H ⟨[.ref a, u], []⟩ [.ref a, u] [.ref a, y] _ E0 hr I.env0 (by
    have := hb s [.ref a, u] I.kIn (by simpa using hl)
    simpa using this) r2 hsp) fun r s' hq => ?_)
  cases r with
  | error e => exact hx pins σ H s e s' I hq
  | ok fl =>
    cases fl with
    | ret w =>
      obtain ⟨z, H', I', rz, ⟨b, eb⟩, q⟩ := I.after hq
      subst eb
      cases rz
      exact ⟨.bl b, H', I', rfl, q⟩
    | next => exact False.elim hq
    | brk => exact False.elim hq
    | cont => exact False.elim hq
/-- what lets nothing out passes -/
theorem passN0 {X : Cx} : Passes (L2N.CX X.prog X.w) X E0 := fun _ _ _ _ _ _ _ h => by
  obtain ⟨_, _, _, _, _, _, _, _, _, _, _, _, z⟩ := h
  exact z.elim
end K9
set_option Elab.async false
set_option linter.all false
set_option maxRecDepth 100000
set_option maxHeartbeats 4000000
namespace K9
open PySem PySem.Spec PyProof.Rows L2
/-! ### steps through a reading -/
/-- H a = some o, where H is told by its stores -/
local macro_rules | `(tactic| walk_at "look") => `(tactic| first
  | assumption
  | exact upd_same
  | (refine Eq.trans (upd_ne ?_) ?_ <;> first
      | assumption
      | exact Ne.symm (by assumption)
      | exact ne_nw (by assumption) (by walk_at "look")
      | exact Ne.symm (ne_nw (by assumption) (by walk_at "look"))
      | walk_at "look"))
local macro_rules | `(tactic| walk_at "sq") => `(tactic| first
  | assumption
  | exact SqL.of (by walk_at "look")
  | exact SqT.of (by walk_at "look"))
local macro_rules | `(tactic| walk_at "c") => `(tactic| first
  | decide
  | omega
  | assumption
  | exact Or.inr ⟨by decide, by decide⟩
  | exact ⟨by decide, by decide⟩
  | exact Nat.le_of_ble_eq_true rfl
  | exact line1000 (by assumption)
  | (intro z; omega)
  | (dsimp only; first | assumption | omega)
  | (constructor <;> first | decide | omega))
local macro_rules | `(tactic| walk_at "fl") => `(tactic| first
  | assumption
  | rfl
  | exact flat_ints _
  | decide +kernel
  | (simp only [List.all_map, List.all_cons, List.all_nil]; rfl))
local macro_rules | `(tactic| walk_at "ty") => `(tactic| first
  | exact TyX.base (TyOf.str _)
  | exact TyX.base (TyOf.int _)
  | exact TyX.base (TyOf.bl _)
  | exact TyX.base TyOf.non
  | exact TyX.base (TyOf.tup (by walk_at "look"))
  | exact TyX.base (TyOf.lst (by walk_at "look"))
  | exact TyX.base (TyOf.dK (by walk_at "look")))
local macro_rules | `(tactic| walk_at "kit") => `(tactic| first
  | assumption
  | exact kit_str_bool
  | exact kit_str_int
  | exact kit_str_str
  | exact kit_str_dict
  | exact kit_str_list
  | exact kit_str_tuple
  | exact kit_int_bool
  | exact kit_int_int
  | exact kit_int_str
  | exact kit_int_dict
  | exact kit_int_list
  | exact kit_int_tuple
  | exact kit_bool_bool
  | exact kit_bool_int
  | exact kit_bool_str
  | exact kit_bool_dict
  | exact kit_bool_list
  | exact kit_bool_tuple
  | exact kit_list_bool
  | exact kit_list_int
  | exact kit_list_str
  | exact kit_list_dict
  | exact kit_list_list
  | exact kit_list_tuple
  | exact kit_tuple_bool
  | exact kit_tuple_int
  | exact kit_tuple_str
  | exact kit_tuple_dict
  | exact kit_tuple_list
  | exact kit_tuple_tuple
  | exact kit_dict_bool
  | exact kit_dict_int
  | exact kit_dict_str
  | exact kit_dict_dict
  | exact kit_dict_list
  | exact kit_dict_tuple
  | exact kit_NoneType_bool
  | exact kit_NoneType_int
  | exact kit_NoneType_str
  | exact kit_NoneType_dict
  | exact kit_NoneType_list
  | exact kit_NoneType_tuple)
local macro_rules | `(tactic| walk_at "len") => `(tactic| (refine sline ?_; (try simp only [slen, show ("( " : Str).length = 2 from rfl, show (" " : Str).length = 1 from rfl, show (" )" : Str).length = 2 from rfl, show Str.empty.length = 0 from rfl]); omega))
local macro_rules | `(tactic| walk_at "w1") => `(tactic| (first
  | ((with_reducible apply tVar_i); exact rfl)
  | with_reducible refine tC_i ?_
  | with_reducible refine tCons_i ?_
  | with_reducible refine tNil_i ?_
  | with_reducible refine tOp_i ?_
  | with_reducible refine tSeq_i ?_
  | with_reducible refine tAsg_i ?_
  | with_reducible refine tDrop_i ?_
  | with_reducible refine tRet_i ?_
  | with_reducible refine tNext_i ?_
  | with_reducible refine tIfS_i ?_
  | with_reducible refine tIf_i ?_
  | with_reducible refine tTest_i ?_
  | with_reducible refine tB_i ?_
  | with_reducible refine tNot_i ?_
  | with_reducible refine tAnd_i ?_
  | with_reducible refine tOr_i ?_
  | with_reducible refine tAndV_i ?_
  | with_reducible refine tOrV_i ?_
  | with_reducible refine tNotV_i ?_
  | with_reducible refine tNotT_i ?_
  | with_reducible refine tUn_i ?_
  | with_reducible refine tCB_i ?_
  | with_reducible refine tCall_i ?_
  | with_reducible refine tTup_i ?_
  | with_reducible refine tLst_i ?_
  | with_reducible refine tPar_i ?_
  | with_reducible refine tPar3_i ?_
  | with_reducible refine tSl_i ?_
  | with_reducible refine bl_i ?_
  | with_reducible refine tFor_i ?_
  | with_reducible refine tLc_i ?_
  | with_reducible refine iEnum_i ?_
  | with_reducible refine iList_i ?_
  | with_reducible refine iTup_i ?_
  | with_reducible refine iRng1_i ?_
  | ((with_reducible apply enum_i); walk_at "sq")
  | ((with_reducible apply list_i); walk_at "sq")
  | ((with_reducible apply tup_i); walk_at "sq")
  | ((with_reducible refine rng1_i ?_ ?_); walk_at "c")
  | with_reducible refine par2_i ?_
  | with_reducible refine par3_i ?_
  | with_reducible refine gName_i ?_
  | with_reducible refine gc_i ?_
  | with_reducible refine gNil_i ?_
  | with_reducible refine rI0_i ?_
  | with_reducible refine rU_i ?_
  | with_reducible refine max2_i ?_
  | with_reducible refine tM1_i ?_
  | with_reducible refine tM0_i ?_
  | with_reducible refine str_i ?_
  | with_reducible refine tBM_iL ?_
  | with_reducible refine tBM0_iL ?_
  | ((with_reducible refine rEq_i ?_ ?_); exact rfl)
  | ((with_reducible refine rNe_i ?_ ?_); exact rfl)
  | ((with_reducible refine rI_i ?_ ?_); walk_at "c")
  | ((with_reducible apply ty_i); walk_at "sq")
  | ((with_reducible apply gTup_i); walk_at "sq"; exact rfl)
  | ((with_reducible apply rIxL_i); walk_at "sq"; first | exact rfl | assumption)
  | ((with_reducible apply rIxT_i); walk_at "sq"; first | exact rfl | assumption)
  | ((with_reducible apply rInT_i); walk_at "sq"; exact rfl; exact rfl)
  | ((with_reducible apply rInL_i); walk_at "sq"; exact rfl; exact rfl)
  | with_reducible refine gSub_i ?_
  | with_reducible refine tJs1_i ?_
  | with_reducible refine tJs0_i ?_
  | with_reducible refine tFmt_i ?_
  | ((with_reducible refine fmtS_i ?_ ?_); walk_at "len")
  | ((with_reducible refine js_i ?_ ?_); walk_at "len")
  | ((with_reducible apply rCat_i); walk_at "look"; walk_at "look"; walk_at "c")
  | ((with_reducible apply rIsi_i); walk_at "ty"; walk_at "kit")
  | ((with_reducible apply rNe_nil); walk_at "sq"; walk_at "fl"; walk_at "sq")
  | ((with_reducible apply rEq_nil); walk_at "sq"; walk_at "fl"; walk_at "sq")
  | with_reducible refine tDisp_i ?_
  | with_reducible refine tPairs0_i ?_
  | with_reducible refine tPairs1_i ?_
  | ((with_reducible apply disp1_i); walk_at "look")
  | ((with_reducible apply disp2_i); walk_at "look")
  | with_reducible refine tFld_i ?_
  | with_reducible refine sFld_i ?_
  | ((with_reducible apply fld_i); walk_at "look"; assumption; assumption; first | exact rfl | assumption)
  | ((with_reducible apply sfld_i); walk_at "look"; assumption; assumption; walk_at "c")
  | with_reducible refine tRevL_i ?_
  | ((with_reducible apply rev_i); walk_at "sq")
  | ((with_reducible apply rSetL_i); walk_at "look"; first | exact rfl | assumption)
  | ((with_reducible apply rIxK_i); assumption; assumption)
  | ((with_reducible apply rInK_i); assumption)
  | ((with_reducible apply rAppend_i); walk_at "look"; walk_at "c")
  | ((with_reducible apply rPop_i); walk_at "look"; first | exact rfl | assumption)
  | ((with_reducible apply len_i); walk_at "sq")
  | ((with_reducible apply lenT_i); walk_at "sq")
  | ((with_reducible apply rSlL_i); walk_at "sq")
  | with_reducible refine iteT ?_
  | with_reducible refine iteF ?_
  | ((with_reducible refine iteTk ?_ ?_); assumption)
  | ((with_reducible refine iteFk ?_ ?_); assumption)
  | ((with_reducible refine iteTk ?_ ?_); decide +kernel)
  | ((with_reducible refine iteFk ?_ ?_); decide +kernel)
  | ((with_reducible refine iteTk ?_ ?_); exact rfl)
  | ((with_reducible refine iteFk ?_ ?_); exact rfl)
  | with_reducible refine fun (p : Addr) (n : _ = none) => ?_
  | with_reducible refine Or.inl ⟨_, rfl, ?_⟩
  | with_reducible refine ⟨_, rfl, ?_⟩
  | with_reducible refine ⟨_, _, rfl, rfl, ?_⟩
  | ((with_reducible refine ⟨_, _, _, _, _, rfl, ClsV.ty _, ?_, ?_, ?_⟩); walk_at "ty"; walk_at "kit")
  | ((with_reducible refine And.intro ?_ ?_); walk_at "c")))
local macro_rules | `(tactic| walk_at "w") => `(tactic| repeat (walk_at "w1"))
local macro_rules | `(tactic| walk_at "but") => `(tactic| first
  | assumption
  | exact But.refl _ _
  | (refine But.upd ?_; walk_at "but")
  | (refine But.new ?_ (by assumption); walk_at "but"))
local macro_rules | `(tactic| walk_at "same") => `(tactic| first
  | assumption
  | exact Same.refl _
  | (refine Same.new ?_ (by assumption); walk_at "same")
  | (refine Same.trans (by assumption) ?_; walk_at "same"))
local macro_rules | `(tactic| walk_at "x") => `(tactic| (dsimp only [Cx.nox, Cx.wish, cxOf, L2H.cxH]))
/-- BadLook's __init__, as its makers know it -/
structure BadI (P : Program) (w : World) (K : PySem.W.Frag) (mg : Str → Option Value) (base : Heap) (f : Addr) (fd : FuncData) : Prop where
  ok : FnOk P w K mg base CX0 1 f fd ["self", "at", "why"] (spBad K)
  ini : PySem.W.findIn K (.ref (He.ga K "BadLook")) "__init__" = some (some (.ref f))
  ty : PySem.W.typeIn K (.ref f) = some (.type "function")
  b : Binds K fd ["self", "at", "why"] []
/-- what the class Look is -/
structure Lk (K : PySem.W.Frag) (mg : Str → Option Value) : Prop where
  m_Look : mg "Look" = some (.ref (He.ga K "Look"))
  cls : Cls K (He.ga K "Look")
  n_signs : NoAttr K (He.ga K "Look") "_signs"
  n_text : NoAttr K (He.ga K "Look") "text"
  n_words : NoAttr K (He.ga K "Look") "words"
  n_depth : NoAttr K (He.ga K "Look") "depth"
  k_self : PySem.W.kitOne K (.ref (He.ga K "Look")) (.ref (He.ga K "Look")) = some true
  k_str : PySem.W.kitOne K (.type "str") (.ref (He.ga K "Look")) = some false
  k_no : PySem.W.kitOne K (.ref (He.ga K "Look")) (.type "str") = some false
  ha : PySem.W.findIn K (.ref (He.ga K "Look")) "__class__" = some (some (.builtin "object.__class__"))
  hn : PySem.W.specialIn K (.builtin "object.__class__") "__get__" = some (some (.builtin "getset_descriptor.__get__"))
  htk : PySem.W.takesIn K (.builtin "object.__class__") = some true
  hm : PySem.W.mroIn K (He.ga K "Look") (.type "object") = some true
  nf : PySem.W.notFirst K (He.ga K "Look") (.ref (He.ga K "Look")) = true
  nfs : PySem.W.notFirst K (He.ga K "Look") (.type "str") = true
theorem Lk.ty {K : PySem.W.Frag} {mg : Str → Option Value} (L : Lk K mg) {H : Hp} {a dx : Addr} {fs : List (Str × V)} (h : H a = some (.ins (He.ga K "Look") dx fs)) : TyX K H (.ref a) (.ref (He.ga K "Look")) := .base (.ins h L.cls L.ha L.hn L.htk L.hm)
/-- a Look of the text x, n words, depth d -/
def IsLook (K : PySem.W.Frag) (H : Hp) (a : Addr) (x : Str) (n d : Int) : Prop := ∃ dx fs, H a = some (.ins (He.ga K "Look") dx fs) ∧ fs.lookup ("text" : Str) = some (.str x) ∧ fs.lookup ("words" : Str) = some (.int n) ∧ fs.lookup ("depth" : Str) = some (.int d) ∧ fs.lookup ("mirrored" : Str) = none ∧ fs.lookup ("turned_about" : Str) = none
theorem IsLook.same {K : PySem.W.Frag} {H H' : Hp} {a : Addr} {x : Str} {n d : Int} (h : IsLook K H a x n d) (s : Same H H') : IsLook K H' a x n d := let ⟨dx, fs, e, r⟩ := h; ⟨dx, fs, s _ _ e, r⟩
theorem bad_i {K : PySem.W.Frag} {mg : Str → Option Value} (ER : Er K mg) {H1 : Hp} {n : Int} {y : Str} {Q : XK} (hy : ¬ (y = "")) (hl : y.length ≤ 1000) (k : ∀ cls d Hf, Same H1 Hf → Bad1 K n cls d Hf → Q cls d Hf) :
    [V.int n, .str y].length ≤ 1000 ∧ ∀ a, H1 a = none → spBad K (.ref a :: ([V.int n, .str y] ++ [])) (upd H1 a (exo a (He.ga K "BadLook") none))
      (fun v H2 => v = .non ∧ ∃ (d : Addr) (fs : List (Str × V)), H2 a = some (exo a (He.ga K "BadLook") (some d)) ∧ H2 d = some (exd d fs) ∧ H1 d = none ∧ Q (.ref (He.ga K "BadLook")) (some d) (upd (del H2 a) d (.xd fs))) (fun _ _ _ => False) := by
  refine ⟨by show 2 ≤ 1000; decide, fun a na => ⟨a, _, _, _, rfl, upd_same, ER.oex, ER.nat, ER.nwhy, fun d nd ne => ⟨rfl, d, _, (upd_ne (Ne.symm ne)).trans upd_same, upd_same, ?_, k _ _ _ (fun b o e => ?_) ⟨d, y, rfl, rfl, upd_same, hy, hl⟩⟩⟩⟩
  · rw [upd_ne ne] at nd
    exact nd
  · have hd : H1 d = none := by rw [upd_ne ne] at nd; exact nd
    have b1 : b ≠ a := fun z => by rw [z, na] at e; cases e
    have b2 : b ≠ d := fun z => by rw [z, hd] at e; cases e
    rw [upd_ne b2]
    unfold del
    rw [if_neg b1, upd_ne b2, upd_ne b1, upd_ne b2, upd_ne b1]
    exact e
theorem tMkO_i {C : Addr} {sp : Sp} {dvs : List V} {ta : TA} {σ : L2.St} {H : Hp} {Q : XK} (k : ta σ H fun vs H1 => vs.length ≤ 1000 ∧ ∀ a, H1 a = none → sp (.ref a :: (vs ++ dvs)) (upd H1 a (exo a C none))
  (fun v H2 => v = .non ∧ ∃ (d : Addr) (fs : List (Str × V)), H2 a = some (exo a C (some d)) ∧ H2 d = some (exd d fs) ∧ H1 d = none ∧ Q (.ref C) (some d) (upd (del H2 a) d (.xd fs))) (fun _ _ _ => False)) : tMkO C sp dvs ta σ H Q := k
theorem below1 {x : Str} {n m : Int} (hm : ∀ p ∈ limits, p.1 = x → m ≤ p.2) (h : n ≤ m) : Below [(.inr x, .int n)] := fun p hp v hv => by
  by_cases e : p.1 = x
  · rw [e, valV_pos rfl] at hv
    cases Option.some.inj hv
    exact ⟨n, rfl, Int.le_trans h (hm p hp e)⟩
  · rw [valV_neg (fun z => e (Sum.inr.inj z).symm)] at hv
    cases hv
theorem below2 {x y : Str} {n m i j : Int} (hm : ∀ p ∈ limits, (p.1 = x → m ≤ p.2) ∧ (p.1 = y → j ≤ p.2)) (h : n ≤ m) (h2 : i ≤ j) : Below [(.inr x, .int n), (.inr y, .int i)] := fun p hp v hv => by
  by_cases e : p.1 = x
  · rw [e, valV_pos rfl] at hv
    cases Option.some.inj hv
    exact ⟨n, rfl, Int.le_trans h ((hm p hp).1 e)⟩
  · rw [valV_neg (fun z => e (Sum.inr.inj z).symm)] at hv
    by_cases e2 : p.1 = y
    · rw [e2, valV_pos rfl] at hv
      cases Option.some.inj hv
      exact ⟨i, rfl, Int.le_trans h2 ((hm p hp).2 e2)⟩
    · rw [valV_neg (fun z => e2 (Sum.inr.inj z).symm)] at hv
      cases hv
theorem rdAll_le : ∀ (ws : List Str) (n : Nat) (R : Rd), (rdAll n R ws).1 ≤ n + ws.length
  | [], n, R => Nat.le_refl _
  | w :: ws, n, R => by
    cases h : rdStep R w with
    | none => rw [rdAll_none h]; exact Nat.le_add_right _ _
    | some R' =>
      rw [rdAll_some h, List.length_cons]
      have := rdAll_le ws (n + 1) R'
      omega
theorem rdStep_sl {R R' : Rd} {x : Str} (h : rdStep R x = some R') : R'.signs.length ≤ R.signs.length + 1 := by
  unfold rdStep at h
  split at h
  · cases h
  · split at h
    · cases h
      simp
    · split at h
      · cases h
        simp
      · split at h
        · split at h
          · cases h
          · cases h
            simp
        · split at h
          · split at h
            · cases h
            · cases h
              simp
          · cases h
            simp
theorem rdAll_sl : ∀ (ws : List Str) (n : Nat) (R : Rd), (rdAll n R ws).2.2.length ≤ R.signs.length + ws.length
  | [], n, R => Nat.le_refl _
  | w :: ws, n, R => by
    cases h : rdStep R w with
    | none => rw [rdAll_none h]; exact Nat.le_add_right _ _
    | some R' =>
      rw [rdAll_some h, List.length_cons]
      have := rdAll_sl ws (n + 1) R'
      have := rdStep_sl h
      omega
abbrev s_linit : Stmt := (inClass (top 39) 0)
abbrev s_leq : Stmt := (inClass (top 39) 3)
theorem scLinit : FnScope ["self", "text", "own", "words", "count", "ended", "signs"] ["self", "text", "own"] (defScope (inClass (top 39) 0)) := ⟨rfl, rfl, rfl, by decide +kernel, rfl, by decide +kernel, by decide +kernel⟩
theorem scLeq : FnScope ["self", "other"] ["self", "other"] (defScope (inClass (top 39) 3)) := ⟨rfl, rfl, rfl, by decide +kernel, rfl, by decide +kernel, by decide +kernel⟩
def spEqL (K : PySem.W.Frag) : Sp := fun vs H Q _ => ∃ a x n d y, vs = [.ref a, y] ∧ IsLook K H a x n d ∧ ((∃ b z m e, y = .ref b ∧ IsLook K H b z m e ∧ Q (.bl (decide (x = z))) H) ∨ ∃ z, y = .str z ∧ Q (.bl false) H)
def faultOf (x : Str) (ws : List Str) (n : Nat) : Int := if n = ws.length then (x.length : Int) else (((ws.take n).map fun z => (z.length : Int) + 1)).sum
/-- the text is no look: where -/
def BadAt (x : Str) (n : Int) : Prop := (rdAll 0 rd0 (Txt.split x " ")).2.1 = false ∧ n = faultOf x (Txt.split x " ") (rdAll 0 rd0 (Txt.split x " ")).1
/-- the text is a look of that depth -/
def GoodAt (x : Str) (d : Int) : Prop := (rdAll 0 rd0 (Txt.split x " ")).2.1 = true ∧ dRun [] ((rdAll 0 rd0 (Txt.split x " ")).2.2.reverse.map (·.1)) = some [d]
def spLook (K : PySem.W.Frag) : Sp := fun vs H Q E => ∃ (a dx : Addr) (y : V) (own : Bool), vs = [.ref a, y, .bl own] ∧ H a = some (.ins (He.ga K "Look") dx []) ∧ H dx = some (.own a) ∧
  ((∃ t, TyX K H y t ∧ PySem.W.kitOne K t (.type "str") = some false ∧ ∀ cls d H', Same H H' → Bad1 K (-1) cls d H' → E cls d H') ∨
   ∃ x, y = .str x ∧ x.length ≤ 900 ∧ ((∃ n, BadAt x n ∧ ∀ cls d H', Same H H' → Bad1 K n cls d H' → E cls d H') ∨
     ∃ d, GoodAt x d ∧ (own = false → (Txt.split x " ").length ≤ 80 ∧ d ≤ 8) ∧ ∀ H', But a H H' → IsLook K H' a x (Txt.split x " ").length d → Q .non H'))
section
variable {P : Program} {w : World} {K : PySem.W.Frag} {mg : Str → Option Value} {base : Heap} {f : Addr} {fd : FuncData}
theorem ok_leq (Z : Free mg) (LK : Lk K mg) (F : FnP K "__eq__" "Look.__eq__" s_leq [] f fd) : FnOk P w K mg base CX0 1 f fd ["self", "other"] (spEqL K) := by
  refine F.ok scLeq (fun vs H Q E h => ?_) (fun cdv A outer s H vs Q E hr h => ?_)
  · obtain ⟨a, b, c, d, y, rfl, _⟩ := h
    rfl
  · have hu := hu_of hr
    obtain ⟨a, x, n, d, y, rfl, ⟨dx, fs, ha, ht, _⟩, k⟩ := h
    refine ⟨_, PSs.nox (pss_one (ps_ret (pe_and (pe_callB call_isi (by rfl) Z.isinstance (by decide +kernel) (pa_cons (pv 1) (pa_cons (pe_glob (v := .ref _) rfl LK.m_Look rfl) pa_nil))) (pe_one (pe_cmpR op_eq (pe_fld (pv 0) rfl) (pe_fld (pv 1) rfl) (nomark _)))))), ?_⟩
    have c1 := LK.cls
    have c2 := LK.n_text
    rcases k with ⟨b, z, m, e, rfl, ⟨dy, gs, hb, hz, _⟩, k⟩ | ⟨z, rfl, k⟩
    · walk_at "w"
      refine ⟨_, _, _, _, _, rfl, ClsV.own _, LK.ty hb, LK.k_self, ?_⟩
      walk_at "w"
      rw [decS]
      exact k
    · walk_at "w"
      refine ⟨_, _, _, _, _, rfl, ClsV.own _, .base (.str z), LK.k_str, ?_⟩
      walk_at "w"
      exact k
theorem ok_linit (Z : Free mg) (LK : Lk K mg) (ER : Er K mg) (F : FunD K "__init__" "Look.__init__" (defArgs s_linit) (defBody s_linit) (defScope s_linit) [] [("own", .bl false)] f fd) {fI : Addr} {fdI : FuncData} (BI : BadI P w K mg base fI fdI)
    {f1 f2 f3 f4 : Addr} {fd1 fd2 fd3 fd4 : FuncData} (Cb : Cal P w K mg base CX0 1 "check_bounds" ["found"] spBounds f1 fd1) (Cs : Cal P w K mg base CX0 2 "signs_of" ["words"] spSigns f2 fd2)
    (Cf : Cal P w K mg base CX0 1 "fault_of" ["text", "words", "count"] (spFault K) f3 fd3) (Cd : Cal P w K mg base CX0 1 "depth_of" ["signs"] spDepth f4 fd4) : FnOk P w K mg base (L2N.CX P w) 3 f fd ["self", "text", "own"] (spLook K) := by
  refine F.ok scLinit (fun vs H Q E h => ?_) (fun cdv A outer s H vs Q E hr h => ?_)
  · obtain ⟨a, b, c, d, rfl, _⟩ := h
    rfl
  · have hu := hu_of hr
    have TK := L2N.takes_of (X := cxOf (L2N.CX P w) P w K mg base ["self", "text", "own", "words", "count", "ended", "signs"] "Look.__init__" (defScope s_linit) f cdv A outer s H E) (E := E) rfl rfl rfl rfl
    obtain ⟨a, dx, y, own, rfl, ha, hdx, k⟩ := h
    refine ⟨_, (pss_cons (ps_if (pt_not (pt_val (pe_callB call_isi (by rfl) Z.isinstance (by decide +kernel) (pa_cons (pv 1) (pa_cons (pe_bltn (v := .ty "str") (by rfl) Z.str (by decide +kernel) rfl) pa_nil))))) 
        (pss_one (L2N.ps_raise rfl TK (pmkN ER.oex BI.ini BI.ty BI.ok (hr.mono (by omega)) BI.b pass0 rfl ER.m_BadLook (pa_cons (pe_un un_neg pe_int) (pa_cons pe_str pa_nil))))) pss_nil)
      (C8.pss_cut (ps_if (pt_not (pt_val (pv 2))) 
        (pss_one (ps_expr (pe_call Cb.ok (hr.mono (by omega)) rfl Cb.mg Cb.kp Cb.b .nil pass0 (pa_cons (pe_disp (pps_cons pe_str (pe_callB call_len_str (by rfl) Z.len PySem.boot_len (pa_cons (pv 1) pa_nil)) pps_nil) (by rfl) (by rfl) (fun z => by cases z) (by decide)) pa_nil)))) pss_nil)
      (pss_cons (ps_set (i := 3) scLinit.nd rfl (Or.inl rfl) (pe_split (pv 1) pe_str))
      (pss_cons (ps_asg (pe_call Cs.ok (hr.mono (by omega)) rfl Cs.mg Cs.kp Cs.b .nil pass0 (pa_cons (pv 3) pa_nil)) (pg_tup rfl (pgs_cons (pg_name (i := 4) scLinit.nd rfl (Or.inl rfl)) (pgs_cons (pg_name (i := 5) scLinit.nd rfl (Or.inl rfl)) (pgs_cons (pg_name (i := 6) scLinit.nd rfl (Or.inl rfl)) pgs_nil)))))
      (pss_cons (ps_if (pt_not (pt_val (pv 5))) 
        (pss_one (L2N.ps_raise rfl TK (pmkN ER.oex BI.ini BI.ty BI.ok (hr.mono (by omega)) BI.b pass0 rfl ER.m_BadLook (pa_cons (pe_call Cf.ok (hr.mono (by omega)) rfl Cf.mg Cf.kp Cf.b .nil pass0 (pa_cons (pv 1) (pa_cons (pv 3) (pa_cons (pv 4) pa_nil)))) (pa_cons pe_str pa_nil))))) pss_nil)
      (pss_cons (ps_fld (pv 0) (pv 6) rfl)
      (pss_cons (ps_fld (pv 0) (pv 1) rfl)
      (pss_cons (ps_fld (pv 0) (pe_callB call_len_seq (by rfl) Z.len PySem.boot_len (pa_cons (pv 3) pa_nil)) rfl)
      (pss_cons (ps_fld (pv 0) (pe_call Cd.ok (hr.mono (by omega)) rfl Cd.mg Cd.kp Cd.b .nil pass0 (pa_cons (pv 6) pa_nil)) rfl)
      (pss_one (ps_if (pt_not (pt_val (pv 2))) 
        (pss_one (ps_expr (pe_call Cb.ok (hr.mono (by omega)) rfl Cb.mg Cb.kp Cb.b .nil pass0 (pa_cons (pe_disp (pps_cons pe_str (pe_fld (pv 0) rfl) (pps_cons pe_str (pe_fld (pv 0) rfl) pps_nil)) (by rfl) (by rfl) (fun z => by cases z) (by decide)) pa_nil)))) pss_nil))))))))))), ?_⟩
    have c1 := LK.cls
    have c2 := LK.n_text
    have c3 := LK.n_signs
    have c4 := LK.n_words
    have c5 := LK.n_depth
    walk_at "w"
    rcases k with ⟨t, hty, hno, k⟩ | ⟨x, rfl, hxl, k⟩
    · refine ⟨_, _, _, _, _, rfl, ClsV.ty _, hty, hno, ?_⟩
      walk_at "w"
      refine tMkO_i ?_
      walk_at "w"
      refine (bad_i ER ?_ ?_ k).2 _ (by assumption)
      · decide +kernel
      · decide +kernel
    · refine ⟨_, _, _, _, _, rfl, ClsV.ty _, .base (.str x), kit_str_str, ?_⟩
      walk_at "w"
      have hlen : (Txt.split x " ").length ≤ 902 := Nat.le_trans (split_le x " ") (by omega)
      have hxl' : x.length ≤ 1000 := by omega
      refine ⟨fun σ' H' => σ' = [some (.ref a), some (.str x), some (.bl own), none, none, none, none] ∧ Same H H', ?_, ?_⟩
      · cases own with
        | true =>
          walk_at "w"
          first | exact ⟨rfl, Same.refl _⟩ | exact Same.refl _
        | false =>
          walk_at "w"
          rename_i p1 n1
          refine ⟨p1, _, rfl, upd_same, below1 (x := "text") (m := 400000) (by decide +kernel) (by omega), rfl, ?_⟩
          rw [upd_upd]
          exact Same.new (Same.refl _) n1
      · rintro σ' H' ⟨rfl, s1⟩
        have ha := s1 _ _ ha
        have hdx := s1 _ _ hdx
        walk_at "w"
        refine ⟨Nat.le_trans (show x.length + 2 ≤ 1002 by omega) (Nat.le_of_ble_eq_true rfl), fun p1 n1 => ?_⟩
        walk_at "w"
        refine ⟨p1, Txt.split x " ", rfl, upd_same, ?_, fun t p2 H2 s2 n2 ht hL => ?_⟩
        · omega
        have hpa : p2 ≠ a := Ne.symm (ne_nw n2 (Same.new (Same.refl _) n1 _ _ ha))
        have hap : p1 ≠ a := Ne.symm (ne_nw n1 ha)
        have hp1 := s2 _ _ (upd_same (H := H') (a := p1) (o := HO.lst ((Txt.split x " ").map V.str)))
        have s3 : Same H H2 := fun b o e => s2 b o (Same.new s1 n1 b o e)
        replace ha := s2 _ _ (Same.new (Same.refl _) n1 _ _ ha)
        replace hdx := s2 _ _ (Same.new (Same.refl _) n1 _ _ hdx)
        walk_at "w"
        cases hb : (rdAll 0 rd0 (Txt.split x " ")).2.1 with
        | false =>
          rcases k with ⟨n, ⟨_, hn⟩, k⟩ | ⟨d, ⟨hg, _⟩, _⟩
          · refine iteTk rfl (tMkO_i ?_)
            walk_at "w"
            refine ⟨x, p1, _, _, rfl, hp1, ?_, by omega, by omega, fun z hz => Nat.le_trans (part_short hz) (by omega), fun H3 s4 => ?_⟩
            · have := rdAll_le (Txt.split x " ") 0 rd0
              omega
            walk_at "w"
            refine (bad_i ER ?_ ?_ fun cls d' Hf s5 hB => k cls d' Hf ((s3.trans s4).trans s5) ?_).2 _ (by assumption)
            · decide +kernel
            · decide +kernel
            · rw [hn]
              exact hB
          · rw [hg] at hb
            cases hb
        | true =>
          rcases k with ⟨n, ⟨hg, _⟩, _⟩ | ⟨d, ⟨_, hd⟩, hown, k⟩
          · rw [hg] at hb
            cases hb
          · refine iteFk rfl ?_
            walk_at "w"
            refine ⟨p2, _, d, rfl, ?_, ?_, hd, fun H3 s4 => ?_⟩
            · obtain ⟨as, hL⟩ := hL
              exact ⟨as, hL.but (j := a) (But.upd (But.upd (But.upd (But.refl _ _)))) hpa fun r z => by rw [ha] at z; cases z⟩
            · have := rdAll_sl (Txt.split x " ") 0 rd0
              have h0 : rd0.signs.length = 0 := rfl
              omega
            have ha3 := s4 _ _ upd_same
            have fin : ∀ H', Same (upd H3 a (.ins (He.ga K "Look") dx (putF "depth" (.int d) (putF "words" (.int (((Txt.split x " ").map V.str).length : Nat)) (putF "text" (.str x) (putF "_signs" (.ref p2) [])))))) H' → Q .non H' := fun H' s5 =>
              k H' (fun b o e hb => s5 b o ((upd_ne hb).trans (s4 b o ((upd_ne hb).trans ((upd_ne hb).trans ((upd_ne hb).trans (s3 b o e))))))) ⟨dx, _, s5 _ _ upd_same, rfl, by rw [List.length_map]; rfl, rfl, rfl, rfl⟩
            walk_at "w"
            cases own with
            | true =>
              walk_at "w"
              exact fin _ (Same.refl _)
            | false =>
              obtain ⟨hw, hd8⟩ := hown rfl
              walk_at "w"
              rename_i p4 n4
              refine ⟨p4, _, rfl, upd_same, below2 (x := "words") (m := 80) (y := "depth") (j := 8) (by decide +kernel) (by rw [List.length_map]; omega) hd8, ?_⟩
              rw [upd_upd]
              exact fin _ (Same.new (Same.refl _) n4)
end
end K9
set_option Elab.async false
set_option linter.all false
set_option maxRecDepth 100000
set_option maxHeartbeats 4000000
namespace K9
open PySem PySem.Spec PyProof.Rows L2
/-! ### steps through a reading -/
/-- H a = some o, where H is told by its stores -/
local macro_rules | `(tactic| walk_at "look") => `(tactic| first
  | assumption
  | exact upd_same
  | (refine Eq.trans (upd_ne ?_) ?_ <;> first
      | assumption
      | exact Ne.symm (by assumption)
      | exact ne_nw (by assumption) (by walk_at "look")
      | exact Ne.symm (ne_nw (by assumption) (by walk_at "look"))
      | walk_at "look"))
local macro_rules | `(tactic| walk_at "sq") => `(tactic| first
  | assumption
  | exact SqL.of (by walk_at "look")
  | exact SqT.of (by walk_at "look"))
local macro_rules | `(tactic| walk_at "c") => `(tactic| first
  | decide
  | omega
  | assumption
  | exact Or.inr ⟨by decide, by decide⟩
  | exact ⟨by decide, by decide⟩
  | exact Nat.le_of_ble_eq_true rfl
  | exact line1000 (by assumption)
  | (intro z; omega)
  | (dsimp only; first | assumption | omega)
  | (constructor <;> first | decide | omega))
local macro_rules | `(tactic| walk_at "fl") => `(tactic| first
  | assumption
  | rfl
  | exact flat_ints _
  | decide +kernel
  | (simp only [List.all_map, List.all_cons, List.all_nil]; rfl))
local macro_rules | `(tactic| walk_at "ty") => `(tactic| first
  | exact TyX.base (TyOf.str _)
  | exact TyX.base (TyOf.int _)
  | exact TyX.base (TyOf.bl _)
  | exact TyX.base TyOf.non
  | exact TyX.base (TyOf.tup (by walk_at "look"))
  | exact TyX.base (TyOf.lst (by walk_at "look"))
  | exact TyX.base (TyOf.dK (by walk_at "look")))
local macro_rules | `(tactic| walk_at "kit") => `(tactic| first
  | assumption
  | exact kit_str_bool
  | exact kit_str_int
  | exact kit_str_str
  | exact kit_str_dict
  | exact kit_str_list
  | exact kit_str_tuple
  | exact kit_int_bool
  | exact kit_int_int
  | exact kit_int_str
  | exact kit_int_dict
  | exact kit_int_list
  | exact kit_int_tuple
  | exact kit_bool_bool
  | exact kit_bool_int
  | exact kit_bool_str
  | exact kit_bool_dict
  | exact kit_bool_list
  | exact kit_bool_tuple
  | exact kit_list_bool
  | exact kit_list_int
  | exact kit_list_str
  | exact kit_list_dict
  | exact kit_list_list
  | exact kit_list_tuple
  | exact kit_tuple_bool
  | exact kit_tuple_int
  | exact kit_tuple_str
  | exact kit_tuple_dict
  | exact kit_tuple_list
  | exact kit_tuple_tuple
  | exact kit_dict_bool
  | exact kit_dict_int
  | exact kit_dict_str
  | exact kit_dict_dict
  | exact kit_dict_list
  | exact kit_dict_tuple
  | exact kit_NoneType_bool
  | exact kit_NoneType_int
  | exact kit_NoneType_str
  | exact kit_NoneType_dict
  | exact kit_NoneType_list
  | exact kit_NoneType_tuple)
local macro_rules | `(tactic| walk_at "len") => `(tactic| (refine sline ?_; (try simp only [slen, show ("( " : Str).length = 2 from rfl, show (" " : Str).length = 1 from rfl, show (" )" : Str).length = 2 from rfl, show Str.empty.length = 0 from rfl]); omega))
local macro_rules | `(tactic| walk_at "w1") => `(tactic| (first
  | ((with_reducible apply tVar_i); exact rfl)
  | with_reducible refine tC_i ?_
  | with_reducible refine tCons_i ?_
  | with_reducible refine tNil_i ?_
  | with_reducible refine tOp_i ?_
  | with_reducible refine tSeq_i ?_
  | with_reducible refine tAsg_i ?_
  | with_reducible refine tDrop_i ?_
  | with_reducible refine tRet_i ?_
  | with_reducible refine tNext_i ?_
  | with_reducible refine tIfS_i ?_
  | with_reducible refine tIf_i ?_
  | with_reducible refine tTest_i ?_
  | with_reducible refine tB_i ?_
  | with_reducible refine tNot_i ?_
  | with_reducible refine tAnd_i ?_
  | with_reducible refine tOr_i ?_
  | with_reducible refine tAndV_i ?_
  | with_reducible refine tOrV_i ?_
  | with_reducible refine tNotV_i ?_
  | with_reducible refine tNotT_i ?_
  | with_reducible refine tUn_i ?_
  | with_reducible refine tCB_i ?_
  | with_reducible refine tCall_i ?_
  | with_reducible refine tTup_i ?_
  | with_reducible refine tLst_i ?_
  | with_reducible refine tPar_i ?_
  | with_reducible refine tPar3_i ?_
  | with_reducible refine tSl_i ?_
  | with_reducible refine bl_i ?_
  | with_reducible refine tFor_i ?_
  | with_reducible refine tLc_i ?_
  | with_reducible refine iEnum_i ?_
  | with_reducible refine iList_i ?_
  | with_reducible refine iTup_i ?_
  | with_reducible refine iRng1_i ?_
  | ((with_reducible apply enum_i); walk_at "sq")
  | ((with_reducible apply list_i); walk_at "sq")
  | ((with_reducible apply tup_i); walk_at "sq")
  | ((with_reducible refine rng1_i ?_ ?_); walk_at "c")
  | with_reducible refine par2_i ?_
  | with_reducible refine par3_i ?_
  | with_reducible refine gName_i ?_
  | with_reducible refine gc_i ?_
  | with_reducible refine gNil_i ?_
  | with_reducible refine rI0_i ?_
  | with_reducible refine rU_i ?_
  | with_reducible refine max2_i ?_
  | with_reducible refine tM1_i ?_
  | with_reducible refine tM0_i ?_
  | with_reducible refine str_i ?_
  | with_reducible refine tBM_iL ?_
  | with_reducible refine tBM0_iL ?_
  | ((with_reducible refine rEq_i ?_ ?_); exact rfl)
  | ((with_reducible refine rNe_i ?_ ?_); exact rfl)
  | ((with_reducible refine rI_i ?_ ?_); walk_at "c")
  | ((with_reducible apply ty_i); walk_at "sq")
  | ((with_reducible apply gTup_i); walk_at "sq"; exact rfl)
  | ((with_reducible apply rIxL_i); walk_at "sq"; first | exact rfl | assumption)
  | ((with_reducible apply rIxT_i); walk_at "sq"; first | exact rfl | assumption)
  | ((with_reducible apply rInT_i); walk_at "sq"; exact rfl; exact rfl)
  | ((with_reducible apply rInL_i); walk_at "sq"; exact rfl; exact rfl)
  | with_reducible refine gSub_i ?_
  | with_reducible refine tJs1_i ?_
  | with_reducible refine tJs0_i ?_
  | with_reducible refine tFmt_i ?_
  | ((with_reducible refine fmtS_i ?_ ?_); walk_at "len")
  | ((with_reducible refine js_i ?_ ?_); walk_at "len")
  | ((with_reducible apply rCat_i); walk_at "look"; walk_at "look"; walk_at "c")
  | ((with_reducible apply rIsi_i); walk_at "ty"; walk_at "kit")
  | ((with_reducible apply rNe_nil); walk_at "sq"; walk_at "fl"; walk_at "sq")
  | ((with_reducible apply rEq_nil); walk_at "sq"; walk_at "fl"; walk_at "sq")
  | with_reducible refine tDisp_i ?_
  | with_reducible refine tPairs0_i ?_
  | with_reducible refine tPairs1_i ?_
  | ((with_reducible apply disp1_i); walk_at "look")
  | ((with_reducible apply disp2_i); walk_at "look")
  | with_reducible refine tFld_i ?_
  | with_reducible refine sFld_i ?_
  | ((with_reducible apply fld_i); walk_at "look"; assumption; assumption; first | exact rfl | assumption)
  | ((with_reducible apply sfld_i); walk_at "look"; assumption; assumption; walk_at "c")
  | with_reducible refine tRevL_i ?_
  | ((with_reducible apply rev_i); walk_at "sq")
  | ((with_reducible apply rSetL_i); walk_at "look"; first | exact rfl | assumption)
  | ((with_reducible apply rIxK_i); assumption; assumption)
  | ((with_reducible apply rInK_i); assumption)
  | ((with_reducible apply rAppend_i); walk_at "look"; walk_at "c")
  | ((with_reducible apply rPop_i); walk_at "look"; first | exact rfl | assumption)
  | ((with_reducible apply len_i); walk_at "sq")
  | ((with_reducible apply lenT_i); walk_at "sq")
  | ((with_reducible apply rSlL_i); walk_at "sq")
  | with_reducible refine iteT ?_
  | with_reducible refine iteF ?_
  | ((with_reducible refine iteTk ?_ ?_); assumption)
  | ((with_reducible refine iteFk ?_ ?_); assumption)
  | ((with_reducible refine iteTk ?_ ?_); decide +kernel)
  | ((with_reducible refine iteFk ?_ ?_); decide +kernel)
  | ((with_reducible refine iteTk ?_ ?_); exact rfl)
  | ((with_reducible refine iteFk ?_ ?_); exact rfl)
  | with_reducible refine fun (p : Addr) (n : _ = none) => ?_
  | with_reducible refine Or.inl ⟨_, rfl, ?_⟩
  | with_reducible refine ⟨_, rfl, ?_⟩
  | with_reducible refine ⟨_, _, rfl, rfl, ?_⟩
  | ((with_reducible refine ⟨_, _, _, _, _, rfl, ClsV.ty _, ?_, ?_, ?_⟩); walk_at "ty"; walk_at "kit")
  | ((with_reducible refine And.intro ?_ ?_); walk_at "c")))
local macro_rules | `(tactic| walk_at "w") => `(tactic| repeat (walk_at "w1"))
local macro_rules | `(tactic| walk_at "but") => `(tactic| first
  | assumption
  | exact But.refl _ _
  | (refine But.upd ?_; walk_at "but")
  | (refine But.new ?_ (by assumption); walk_at "but"))
local macro_rules | `(tactic| walk_at "same") => `(tactic| first
  | assumption
  | exact Same.refl _
  | (refine Same.new ?_ (by assumption); walk_at "same")
  | (refine Same.trans (by assumption) ?_; walk_at "same"))
local macro_rules | `(tactic| walk_at "x") => `(tactic| (dsimp only [Cx.nox, Cx.wish, cxOf, L2H.cxH]))
abbrev LookF (K : PySem.W.Frag) (f : Addr) (fd : FuncData) : Prop := FunD K "__init__" "Look.__init__" (defArgs s_linit) (defBody s_linit) (defScope s_linit) [] [("own", .bl false)] f fd
theorem len2 {α : Type} {l : List α} (h : l.length = 2) : ∃ a b, l = [a, b] := by
  match l, h with
  | [a, b], _ => exact ⟨a, b, rfl⟩
theorem len1 {α : Type} {l : List α} (h : l.length = 1) : ∃ a, l = [a] := by
  match l, h with
  | [a], _ => exact ⟨a, rfl⟩
theorem bind_pos {K : PySem.W.Frag} {f : Addr} {fd : FuncData} (F : LookF K f fd) : ∃ ds, Vals [V.bl false] ds ∧ Binds K fd ["self", "text", "own"] ds := by
  refine F.binds0 2 (by simp) rfl fun D doc pm an cdv ct us ks h1 h2 => ?_
  obtain ⟨a, b, rfl⟩ := len2 h1
  obtain ⟨c, rfl⟩ := len1 h2
  exact ⟨_, _, _, _, _, _, rfl, rfl, rfl⟩
theorem bind_own {K : PySem.W.Frag} {f : Addr} {fd : FuncData} (F : LookF K f fd) : ∃ mv : List Value, KBn K fd ["self", "text", "own"] 2 ["own"] (fun us ws => us ++ ws) (fun vs zs => vs ++ zs) := by
  obtain ⟨mv, h⟩ := F.kbinds0 (ps := ["self", "text", "own"]) 2 ["own"] [] (fun us mv ws => us ++ ws) (by simp) (by simp) (fun r _ z => r.append z) fun D doc pm an cdv ct us mv ws h1 h2 h3 => by
    obtain ⟨a, b, rfl⟩ := len2 h1
    obtain ⟨c, rfl⟩ := len1 h3
    exact rfl
  exact ⟨mv, h⟩
theorem bind_text {K : PySem.W.Frag} {f : Addr} {fd : FuncData} (F : LookF K f fd) : ∃ mv : List Value, KBn K fd ["self", "text", "own"] 1 ["text"] (fun us ws => us ++ (ws ++ mv)) (fun vs zs => vs ++ (zs ++ [.bl false])) := by
  obtain ⟨mv, h⟩ := F.kbinds0 (ps := ["self", "text", "own"]) 1 ["text"] [("own", .bl false)] (fun us mv ws => us ++ (ws ++ mv)) (by simp) (by simp) (fun r m z => r.append (z.append m)) fun D doc pm an cdv ct us mv ws h1 h2 h3 => by
    obtain ⟨a, rfl⟩ := len1 h1
    obtain ⟨c, rfl⟩ := len1 h3
    obtain ⟨e, rfl⟩ := len1 h2
    exact ⟨_, _, _, _, _, _, rfl, rfl, rfl⟩
  exact ⟨mv, h⟩
theorem tMakeK_i {C : Addr} {n m : Nat} {sp : Sp} {gV : List V → List V → List V} {E : XK} {t tk : TA} {σ : L2.St} {H : Hp} {Q : VK} (k : t σ H fun vs H1 => tk σ H1 fun zs H2 => vs.length = n ∧ zs.length = m ∧ ∀ x dx, H2 x = none → H2 dx = none → dx ≠ x →
  sp (gV (.ref x :: vs) zs) (upd (upd H2 dx (.own x)) x (.ins C dx [])) (fun v H3 => v = .non ∧ Q (.ref x) H3) E) : tMakeK C n m sp gV E t tk σ H Q := k
theorem tMake_i {C : Addr} {sp : Sp} {dvs : List V} {E : XK} {t : TA} {σ : L2.St} {H : Hp} {Q : VK} (k : t σ H fun vs H1 => ∀ x dx, H1 x = none → H1 dx = none → dx ≠ x →
  sp (.ref x :: (vs ++ dvs)) (upd (upd H1 dx (.own x)) x (.ins C dx [])) (fun v H2 => v = .non ∧ Q (.ref x) H2) E) : tMake C sp dvs E t σ H Q := k
/-- Look, as its makers know it -/
structure LkM (P : Program) (w : World) (K : PySem.W.Frag) (mg : Str → Option Value) (base : Heap) (f : Addr) (fd : FuncData) (ds m1 m2 : List Value) : Prop where
  mkr : Mk K (He.ga K "Look") f
  ok : FnOk P w K mg base (L2N.CX P w) 3 f fd ["self", "text", "own"] (spLook K)
  m : mg "Look" = some (.ref (He.ga K "Look"))
  b : Binds K fd ["self", "text", "own"] ds
  d : Vals [V.bl false] ds
  bo : KBn K fd ["self", "text", "own"] 2 ["own"] (fun us ws => us ++ ws) (fun vs zs => vs ++ zs)
  bt : KBn K fd ["self", "text", "own"] 1 ["text"] (fun us ws => us ++ (ws ++ m2)) (fun vs zs => vs ++ (zs ++ [.bl false]))
theorem made_i {K : PySem.W.Frag} {H : Hp} {x : Str} {d : Int} {own : Bool} {R : Addr → Hp → Prop} {E : XK} (hx : x.length ≤ 900) (g : GoodAt x d) (ho : own = false → (Txt.split x " ").length ≤ 80 ∧ d ≤ 8)
    (k : ∀ a H', Same H H' → H a = none → IsLook K H' a x (Txt.split x " ").length d → R a H') (a dx : Addr) (na : H a = none) (nd : H dx = none) (ne : dx ≠ a) :
    spLook K [.ref a, .str x, .bl own] (upd (upd H dx (.own a)) a (.ins (He.ga K "Look") dx [])) (fun v H3 => v = .non ∧ R a H3) E :=
  ⟨a, dx, _, own, rfl, upd_same, (upd_ne ne).trans upd_same, .inr ⟨x, rfl, hx, .inr ⟨d, g, ho, fun H' hb hl => ⟨rfl, k a H' (fun b o e => hb b o ((upd_ne (fun z => by rw [z, na] at e; cases e)).trans ((upd_ne (fun z => by rw [z, nd] at e; cases e)).trans e)) (fun z => by rw [z, na] at e; cases e)) na hl⟩⟩⟩⟩
abbrev s_lmirr : Stmt := (inClass (top 39) 1)
abbrev s_lturn : Stmt := (inClass (top 39) 2)
theorem scLmirr : FnScope ["self"] ["self"] (defScope (inClass (top 39) 1)) := ⟨rfl, rfl, rfl, by decide +kernel, rfl, by decide +kernel, by decide +kernel⟩
theorem scLturn : FnScope ["self"] ["self"] (defScope (inClass (top 39) 2)) := ⟨rfl, rfl, rfl, by decide +kernel, rfl, by decide +kernel, by decide +kernel⟩
def spMove (K : PySem.W.Frag) (l : List (Str × Str)) : Sp := fun vs H Q _ => ∃ a x n d d', vs = [.ref a] ∧ IsLook K H a x n d ∧ x.length ≤ 900 ∧ (exch l x).length ≤ 900 ∧ GoodAt (exch l x) d' ∧
  ∀ b H', Same H H' → H b = none → IsLook K H' b (exch l x) (Txt.split (exch l x) " ").length d' → Q (.ref b) H'
section
variable {P : Program} {w : World} {K : PySem.W.Frag} {mg : Str → Option Value} {base : Heap} {f : Addr} {fd : FuncData} {fI : Addr} {fdI : FuncData} {ds m1 m2 : List Value}
theorem ok_lmirr (LK : Lk K mg) (F : FnP K "mirrored" "Look.mirrored" s_lmirr [] f fd) (LM : LkM P w K mg base fI fdI ds m1 m2) {f1 : Addr} {fd1 : FuncData} (Cm : Cal P w K mg base CX0 2 "mirrored_text" ["text"] (spText (exch mirr)) f1 fd1) :
    FnOk P w K mg base CX0 5 f fd ["self"] (spMove K mirr) := by
  refine F.ok scLmirr (fun vs H Q E h => ?_) (fun cdv A outer s H vs Q E hr h => ?_)
  · obtain ⟨a, b, c, d, e, rfl, _⟩ := h
    rfl
  · obtain ⟨a, x, n, d, d', rfl, ⟨dx, fs, ha, ht, _⟩, hx, hx2, g, k⟩ := h
    refine ⟨_, PSs.nox (pss_one (ps_ret (pe_makeK LM.mkr LM.ok (hr.mono (by omega)) rfl LM.m LM.bo passN0 (pa_cons (pe_call Cm.ok (hr.mono (by omega)) rfl Cm.mg Cm.kp Cm.b .nil pass0 (pa_cons (pe_fld (pv 0) rfl) pa_nil)) pa_nil) (pk_cons pe_bl pk_nil)))), ?_⟩
    have c1 := LK.cls
    have c2 := LK.n_text
    refine tRet_i (tMakeK_i ?_)
    walk_at "w"
    refine ⟨x, rfl, by omega, fun H2 s2 => ?_⟩
    walk_at "w"
    exact fun b dx nb nd ne => made_i (own := true) hx2 g (fun z => Bool.noConfusion z) (fun b H3 s3 nb hl => k b H3 (s2.trans s3) (s2.free nb) hl) b dx nb nd ne
theorem ok_lturn (LK : Lk K mg) (F : FnP K "turned_about" "Look.turned_about" s_lturn [] f fd) (LM : LkM P w K mg base fI fdI ds m1 m2) {f1 : Addr} {fd1 : FuncData} (Cm : Cal P w K mg base CX0 2 "turned_text" ["text"] (spText (exch turn)) f1 fd1) :
    FnOk P w K mg base CX0 5 f fd ["self"] (spMove K turn) := by
  refine F.ok scLturn (fun vs H Q E h => ?_) (fun cdv A outer s H vs Q E hr h => ?_)
  · obtain ⟨a, b, c, d, e, rfl, _⟩ := h
    rfl
  · obtain ⟨a, x, n, d, d', rfl, ⟨dx, fs, ha, ht, _⟩, hx, hx2, g, k⟩ := h
    refine ⟨_, PSs.nox (pss_one (ps_ret (pe_makeK LM.mkr LM.ok (hr.mono (by omega)) rfl LM.m LM.bo passN0 (pa_cons (pe_call Cm.ok (hr.mono (by omega)) rfl Cm.mg Cm.kp Cm.b .nil pass0 (pa_cons (pe_fld (pv 0) rfl) pa_nil)) pa_nil) (pk_cons pe_bl pk_nil)))), ?_⟩
    have c1 := LK.cls
    have c2 := LK.n_text
    refine tRet_i (tMakeK_i ?_)
    walk_at "w"
    refine ⟨x, rfl, by omega, fun H2 s2 => ?_⟩
    walk_at "w"
    exact fun b dx nb nd ne => made_i (own := true) hx2 g (fun z => Bool.noConfusion z) (fun b H3 s3 nb hl => k b H3 (s2.trans s3) (s2.free nb) hl) b dx nb nd ne
end
end K9
set_option Elab.async false
set_option linter.all false
set_option maxRecDepth 100000
set_option maxHeartbeats 4000000
/-! The plain law: the two readers read alike. -/
namespace K9
open PySem PySem.Spec PyProof.Rows L2
abbrev sOpen : Str := "("
abbrev sClose : Str := ")"
abbrev sFirst : Str := "first"
abbrev sSecond : Str := "second"
abbrev sStep : Str := "step"
inductive LT
  | leaf (s : Str)
  | step (s : Str) (t : LT)
  | bin (s : Str) (a b : LT)
def imax (a b : Int) : Int := if b > a then b else a
namespace LT
def ok : LT → Prop
  | leaf s => leafB s = true
  | step s t => (stepL.lookup s).isSome = true ∧ t.ok
  | bin s a b => opB s = true ∧ a.ok ∧ b.ok
def ws : LT → List Str
  | leaf s => [s]
  | step s t => s :: t.ws
  | bin s a b => sOpen :: (a.ws ++ s :: (b.ws ++ [sClose]))
def dep : LT → Int
  | leaf _ => 0
  | step _ t => t.dep + 1
  | bin _ a b => imax a.dep b.dep
def pre : LT → List Str
  | leaf s => [s]
  | step s t => s :: t.pre
  | bin s a b => s :: (a.pre ++ b.pre)
end LT
theorem leaf_cases {s : Str} (h : leafB s = true) : s = "all" ∨ s = "none" := by
  unfold leafB at h
  simpa using h
theorem op_cases {s : Str} (h : opB s = true) : s = "+" ∨ s = "&" := by
  unfold opB at h
  simpa using h
theorem step_cases {s : Str} (h : (stepL.lookup s).isSome = true) : s = "r" ∨ s = "u" ∨ s = "r?" ∨ s = "u?" := by
  by_cases e1 : s = "r"
  · exact .inl e1
  by_cases e2 : s = "u"
  · exact .inr (.inl e2)
  by_cases e3 : s = "r?"
  · exact .inr (.inr (.inl e3))
  by_cases e4 : s = "u?"
  · exact .inr (.inr (.inr e4))
  exfalso
  unfold stepL at h
  simp only [List.lookup, beq_eq_false_iff_ne.mpr e1, beq_eq_false_iff_ne.mpr e2, beq_eq_false_iff_ne.mpr e3, beq_eq_false_iff_ne.mpr e4] at h
  cases h
theorem step_facts {s : Str} (h : (stepL.lookup s).isSome = true) : leafB s = false ∧ opB s = false ∧ ¬ s = sOpen ∧ ¬ s = sClose := by
  rcases step_cases h with rfl | rfl | rfl | rfl <;> decide +kernel
theorem leaf_facts {s : Str} (h : leafB s = true) : stepL.lookup s = none ∧ opB s = false ∧ ¬ s = sOpen ∧ ¬ s = sClose := by
  rcases leaf_cases h with rfl | rfl <;> decide +kernel
theorem op_facts {s : Str} (h : opB s = true) : stepL.lookup s = none ∧ leafB s = false ∧ ¬ s = sOpen ∧ ¬ s = sClose := by
  rcases op_cases h with rfl | rfl <;> decide +kernel
theorem open_facts : stepL.lookup sOpen = none ∧ leafB sOpen = false ∧ opB sOpen = false := by decide +kernel
theorem close_facts : stepL.lookup sClose = none ∧ leafB sClose = false ∧ opB sClose = false ∧ ¬ (sClose = sOpen) := by decide +kernel
/-! ### the depth of a preorder -/
theorem dRun_pre : ∀ (t : LT), t.ok → ∀ (st : List Int) (rest : List Str), dRun st (t.pre.reverse ++ rest) = dRun (t.dep :: st) rest
  | .leaf s, h, st, rest => by
    show (dStep st s).bind _ = _
    unfold dStep
    rw [if_pos (show leafB s = true from h)]
    rfl
  | .step s t, h, st, rest => by
    have f := step_facts h.1
    show dRun st ((s :: t.pre).reverse ++ rest) = _
    rw [List.reverse_cons, List.append_assoc, dRun_pre t h.2]
    show (dStep (t.dep :: st) s).bind _ = _
    unfold dStep
    rw [if_neg (by rw [f.1]; exact Bool.false_ne_true), if_pos h.1]
    rfl
  | .bin s a b, h, st, rest => by
    have f := op_facts h.1
    show dRun st ((s :: (a.pre ++ b.pre)).reverse ++ rest) = _
    rw [List.reverse_cons, List.reverse_append, List.append_assoc, List.append_assoc, dRun_pre b h.2.2, dRun_pre a h.2.1]
    show (dStep (a.dep :: b.dep :: st) s).bind _ = _
    unfold dStep
    rw [if_neg (by rw [f.2.1]; exact Bool.false_ne_true), if_neg (by rw [f.1]; exact Bool.false_ne_true)]
    rfl
/-! ### the program reads a tree -/
theorem rdAll_tree : ∀ (t : LT), t.ok → ∀ (R : Rd) (n : Nat) (more : List Str), R.wanted = true →
    ∃ R', rdAll n R (t.ws ++ more) = rdAll (n + t.ws.length) R' more ∧ R'.wanted = false ∧ R'.stack = closes R.stack ∧ R'.signs.map (·.1) = R.signs.map (·.1) ++ t.pre
  | .leaf s, h, ⟨sg, st, r, u, wn⟩, n, more, hw => by
    have hw : wn = true := hw
    subst hw
    have f := leaf_facts h
    have hg : goesOn s true (topKind st) = true := by
      unfold goesOn
      rw [if_pos rfl, show leafB s = true from h]
      rfl
    refine ⟨_, rdAll_some (R' := ⟨sg ++ [(s, r, u)], closes st, r, u, false⟩) ?_, rfl, rfl, ?_⟩
    · unfold rdStep
      rw [if_neg (by rw [hg]; simp), f.1]
      dsimp only
      rw [if_neg f.2.2.1, if_neg (by rw [f.2.1]; exact Bool.false_ne_true), if_neg f.2.2.2]
    · simp [LT.pre]
  | .step s t, h, ⟨sg, st, r, u, wn⟩, n, more, hw => by
    have hw : wn = true := hw
    subst hw
    obtain ⟨d, hd⟩ := Option.isSome_iff_exists.mp h.1
    have hg : goesOn s true (topKind st) = true := by
      unfold goesOn
      rw [if_pos rfl, h.1]
      simp
    obtain ⟨R', e1, e2, e3, e4⟩ := rdAll_tree t h.2 ⟨sg ++ [(s, r, u)], (sStep, 0, r, u) :: st, r + d.1, u + d.2, true⟩ (n + 1) more rfl
    refine ⟨R', ?_, e2, ?_, ?_⟩
    · refine (rdAll_some (R' := ⟨sg ++ [(s, r, u)], (sStep, 0, r, u) :: st, r + d.1, u + d.2, true⟩) ?_).trans (e1.trans ?_)
      · unfold rdStep
        rw [if_neg (by rw [hg]; simp), hd]
      · rw [show (LT.step s t).ws.length = t.ws.length + 1 from rfl]
        congr 1
        omega
    · rw [e3]
      show (if sStep = sStep then closes st else _) = _
      rw [if_pos rfl]
    · rw [e4]
      simp [LT.pre]
  | .bin s a b, h, ⟨sg, st, r, u, wn⟩, n, more, hw => by
    have hw : wn = true := hw
    subst hw
    have f := op_facts h.1
    have hg : goesOn sOpen true (topKind st) = true := by
      unfold goesOn
      rw [if_pos rfl]
      simp
    obtain ⟨⟨sg1, st1, r1, u1, wn1⟩, e1, e2, e3o, e4⟩ := rdAll_tree a h.2.1 ⟨sg ++ [(sOpen, r, u)], (sFirst, (sg.length : Int), r, u) :: st, r, u, true⟩ (n + 1) (s :: (b.ws ++ [sClose]) ++ more) rfl
    have e2 : wn1 = false := e2
    have e3 : st1 = (sFirst, (sg.length : Int), r, u) :: st := e3o.trans (by show (if sFirst = sStep then _ else _) = _; rw [if_neg (by decide +kernel)])
    clear e3o
    subst e3
    subst e2
    have hg2 : goesOn s false sFirst = true := by
      unfold goesOn
      rw [if_neg Bool.false_ne_true, if_pos rfl]
      exact h.1
    obtain ⟨⟨sg2, st2, r2, u2, wn2⟩, b1, b2, b3o, b4⟩ := rdAll_tree b h.2.2 ⟨sg1.set sg.length (s, r, u), (sSecond, (sg.length : Int), r, u) :: st, r, u, true⟩ (n + 1 + a.ws.length + 1) ([sClose] ++ more) rfl
    have b2 : wn2 = false := b2
    have b3 : st2 = (sSecond, (sg.length : Int), r, u) :: st := b3o.trans (by show (if sSecond = sStep then _ else _) = _; rw [if_neg (by decide +kernel)])
    clear b3o
    subst b3
    subst b2
    have hg3 : goesOn sClose false sSecond = true := by decide +kernel
    refine ⟨⟨sg2, closes st, r2, u2, false⟩, ?_, rfl, rfl, ?_⟩
    · show rdAll n _ (sOpen :: (a.ws ++ s :: (b.ws ++ [sClose])) ++ more) = _
      rw [List.cons_append, List.append_assoc]
      refine (rdAll_some (R' := ⟨sg ++ [(sOpen, r, u)], (sFirst, (sg.length : Int), r, u) :: st, r, u, true⟩) ?_).trans (e1.trans ?_)
      · unfold rdStep
        rw [if_neg (by rw [hg]; simp), open_facts.1]
        dsimp only
        rw [if_pos rfl]
      · rw [List.cons_append, List.append_assoc]
        refine (rdAll_some (R' := ⟨sg1.set sg.length (s, r, u), (sSecond, (sg.length : Int), r, u) :: st, r, u, true⟩) ?_).trans (b1.trans ?_)
        · unfold rdStep
          rw [if_neg (by show ¬ ((_ || !goesOn s false sFirst) = true); rw [hg2]; simp), f.1]
          dsimp only
          rw [if_neg f.2.2.1, if_pos h.1]
          rfl
        · refine (rdAll_some (R' := ⟨sg2, closes st, r2, u2, false⟩) ?_).trans ?_
          · unfold rdStep
            rw [if_neg (by show ¬ ((_ || !goesOn sClose false sSecond) = true); rw [hg3]; simp), close_facts.1]
            dsimp only
            rw [if_neg close_facts.2.2.2, if_neg (by rw [close_facts.2.2.1]; exact Bool.false_ne_true), if_pos rfl]
          · congr 1
            show _ = n + (sOpen :: (a.ws ++ s :: (b.ws ++ [sClose]))).length
            simp
            omega
    · show sg2.map (·.1) = _
      have b4 : sg2.map (·.1) = (sg1.set sg.length (s, r, u)).map (·.1) ++ b.pre := b4
      have e4 : sg1.map (·.1) = (sg ++ [(sOpen, r, u)]).map (·.1) ++ a.pre := e4
      rw [b4, List.map_set, e4]
      simp [LT.pre, List.set_append]
end K9
set_option Elab.async false
set_option linter.all false
set_option maxRecDepth 100000
set_option maxHeartbeats 4000000
namespace K9
open PySem PySem.Spec PyProof.Rows L2
abbrev sLook : Str := "look"
abbrev sSign : Str := "sign"
abbrev sNo : Str := ""
/-- the law's reader; the tops first -/
structure Lw where
  due : List Str
  lev : List Int
  start : Int
  many : Int
  deep : Int
def lawStep (L : Lw) (w : Str) : Option Lw :=
  let wish := L.due.headD sNo
  let level := L.lev.headD 0
  if wish = sLook ∧ (stepL.lookup w).isSome = true then some ⟨sLook :: L.due.tail, (level + 1) :: L.lev.tail, L.start + w.length + 1, L.many + 1, imax L.deep (level + 1)⟩
  else if wish = sLook ∧ w = sOpen then some ⟨sLook :: sSign :: sLook :: sClose :: L.due.tail, level :: level :: level :: level :: L.lev.tail, L.start + w.length + 1, L.many + 1, L.deep⟩
  else if wish = sLook ∧ leafB w = true then some ⟨L.due.tail, L.lev.tail, L.start + w.length + 1, L.many + 1, imax L.deep level⟩
  else if wish = sNo ∨ w = sNo ∨ wish = sLook ∨ (wish = sClose ∧ ¬ w = sClose) ∨ (wish = sSign ∧ ¬ opB w = true) then none
  else some ⟨L.due.tail, L.lev.tail, L.start + w.length + 1, L.many + 1, L.deep⟩
inductive LRes
  | made (n d : Int)
  | bad (n : Int)
  | short
def lawRun : Lw → List Str → LRes
  | L, [] => if L.due = [] then .made L.many L.deep else .short
  | L, w :: ws => match lawStep L w with
    | none => .bad L.start
    | some L' => lawRun L' ws
def lw0 : Lw := ⟨[sLook], [0], 0, 0, 0⟩
def LRes.ok : LRes → Prop
  | .made _ _ => True
  | _ => False
theorem lawRun_some {L L' : Lw} {w : Str} {ws : List Str} (h : lawStep L w = some L') : lawRun L (w :: ws) = lawRun L' ws := by
  show (match lawStep L w with | none => _ | some L' => _) = _
  rw [h]
theorem lawRun_none {L : Lw} {w : Str} {ws : List Str} (h : lawStep L w = none) : lawRun L (w :: ws) = .bad L.start := by
  show (match lawStep L w with | none => _ | some L' => _) = _
  rw [h]
def wLen (ws : List Str) : Int := (ws.map fun z => (z.length : Int) + 1).sum
theorem wLen_append (a b : List Str) : wLen (a ++ b) = wLen a + wLen b := by
  unfold wLen
  rw [List.map_append, List.sum_append]
theorem wLen_cons (a : Str) (b : List Str) : wLen (a :: b) = (a.length : Int) + 1 + wLen b := by
  unfold wLen
  rw [List.map_cons, List.sum_cons]
theorem dep_nonneg : ∀ t : LT, 0 ≤ t.dep
  | .leaf _ => Int.le_refl _
  | .step _ t => by
    have := dep_nonneg t
    show 0 ≤ t.dep + 1
    omega
  | .bin _ a b => by
    have := dep_nonneg a
    have := dep_nonneg b
    show 0 ≤ imax a.dep b.dep
    unfold imax
    split <;> omega
theorem law_step {D : List Str} {lev : List Int} {st m d : Int} {w : Str} (h : (stepL.lookup w).isSome = true) :
    lawStep ⟨sLook :: D, lev, st, m, d⟩ w = some ⟨sLook :: D, (lev.headD 0 + 1) :: lev.tail, st + w.length + 1, m + 1, imax d (lev.headD 0 + 1)⟩ := by
  unfold lawStep
  exact if_pos ⟨rfl, h⟩
theorem law_open {D : List Str} {lev : List Int} {st m d : Int} :
    lawStep ⟨sLook :: D, lev, st, m, d⟩ sOpen = some ⟨sLook :: sSign :: sLook :: sClose :: D, lev.headD 0 :: lev.headD 0 :: lev.headD 0 :: lev.headD 0 :: lev.tail, st + sOpen.length + 1, m + 1, d⟩ := by
  unfold lawStep
  refine (if_neg fun h => ?_).trans (if_pos ⟨rfl, rfl⟩)
  have := h.2
  rw [open_facts.1] at this
  cases this
theorem law_leaf {D : List Str} {lev : List Int} {st m d : Int} {w : Str} (h : leafB w = true) :
    lawStep ⟨sLook :: D, lev, st, m, d⟩ w = some ⟨D, lev.tail, st + w.length + 1, m + 1, imax d (lev.headD 0)⟩ := by
  have f := leaf_facts h
  unfold lawStep
  refine (if_neg fun z => ?_).trans ((if_neg fun z => f.2.2.1 z.2).trans (if_pos ⟨rfl, h⟩))
  have := z.2
  rw [f.1] at this
  cases this
theorem law_sign {D : List Str} {lev : List Int} {st m d : Int} {w : Str} (h : opB w = true) :
    lawStep ⟨sSign :: D, lev, st, m, d⟩ w = some ⟨D, lev.tail, st + w.length + 1, m + 1, d⟩ := by
  have hw : ¬ w = sNo := by rcases op_cases h with rfl | rfl <;> decide +kernel
  unfold lawStep
  refine (if_neg fun z => absurd z.1 (by show ¬ sSign = sLook; decide +kernel)).trans ((if_neg fun z => absurd z.1 (by show ¬ sSign = sLook; decide +kernel)).trans ((if_neg fun z => absurd z.1 (by show ¬ sSign = sLook; decide +kernel)).trans (if_neg ?_)))
  rintro (z | z | z | z | z)
  · exact absurd z (by show ¬ sSign = sNo; decide +kernel)
  · exact hw z
  · exact absurd z (by show ¬ sSign = sLook; decide +kernel)
  · exact absurd z.1 (by show ¬ sSign = sClose; decide +kernel)
  · exact z.2 h
theorem law_close {D : List Str} {lev : List Int} {st m d : Int} :
    lawStep ⟨sClose :: D, lev, st, m, d⟩ sClose = some ⟨D, lev.tail, st + sClose.length + 1, m + 1, d⟩ := by
  unfold lawStep
  refine (if_neg fun z => absurd z.1 (by show ¬ sClose = sLook; decide +kernel)).trans ((if_neg fun z => absurd z.1 (by show ¬ sClose = sLook; decide +kernel)).trans ((if_neg fun z => absurd z.1 (by show ¬ sClose = sLook; decide +kernel)).trans (if_neg ?_)))
  rintro (z | z | z | z | z)
  · exact absurd z (by show ¬ sClose = sNo; decide +kernel)
  · exact absurd z (by show ¬ sClose = sNo; decide +kernel)
  · exact absurd z (by show ¬ sClose = sLook; decide +kernel)
  · exact z.2 rfl
  · exact absurd z.1 (by show ¬ sClose = sSign; decide +kernel)
/-- the law reads a tree -/
theorem lawRun_tree : ∀ (t : LT), t.ok → ∀ (D : List Str) (lev : List Int) (st m d : Int) (more : List Str), lawRun ⟨sLook :: D, lev, st, m, d⟩ (t.ws ++ more) = lawRun ⟨D, lev.tail, st + wLen t.ws, m + t.ws.length, imax d (lev.headD 0 + t.dep)⟩ more
  | .leaf s, h, D, lev, st, m, d, more => by
    refine (lawRun_some (law_leaf h)).trans ?_
    congr 2
    · show _ = st + wLen [s]
      rw [wLen_cons]
      show _ = st + ((s.length : Int) + 1 + 0)
      omega
    · show imax d _ = imax d (_ + 0)
      rw [Int.add_zero]
  | .step s t, h, D, lev, st, m, d, more => by
    refine (lawRun_some (law_step h.1)).trans ((lawRun_tree t h.2 _ _ _ _ _ more).trans ?_)
    have h0 := dep_nonneg t
    congr 2
    · show _ = st + wLen (s :: t.ws)
      rw [wLen_cons]
      omega
    · show _ = m + ((s :: t.ws).length : Int)
      rw [List.length_cons]
      omega
    · show imax (imax d (lev.headD 0 + 1)) (lev.headD 0 + 1 + t.dep) = imax d (lev.headD 0 + (t.dep + 1))
      unfold imax
      split <;> split <;> split <;> omega
  | .bin s a b, h, D, lev, st, m, d, more => by
    show lawRun _ (sOpen :: (a.ws ++ s :: (b.ws ++ [sClose])) ++ more) = _
    rw [List.cons_append, List.append_assoc]
    refine (lawRun_some law_open).trans ((lawRun_tree a h.2.1 _ _ _ _ _ _).trans ?_)
    rw [List.cons_append, List.append_assoc]
    refine (lawRun_some (law_sign h.1)).trans ((lawRun_tree b h.2.2 _ _ _ _ _ _).trans ?_)
    refine (lawRun_some law_close).trans ?_
    congr 2
    · show _ = st + wLen (sOpen :: (a.ws ++ s :: (b.ws ++ [sClose])))
      rw [wLen_cons, wLen_append, wLen_cons, wLen_append, wLen_cons]
      show _ = st + ((sOpen.length : Int) + 1 + (wLen a.ws + ((s.length : Int) + 1 + (wLen b.ws + ((sClose.length : Int) + 1 + 0)))))
      omega
    · show _ = m + ((sOpen :: (a.ws ++ s :: (b.ws ++ [sClose]))).length : Int)
      simp
      omega
    · show imax (imax d (lev.headD 0 + a.dep)) (lev.headD 0 + b.dep) = imax d (lev.headD 0 + imax a.dep b.dep)
      unfold imax
      split <;> split <;> split <;> (try split) <;> omega
end K9
set_option Elab.async false
set_option linter.all false
set_option maxRecDepth 100000
set_option maxHeartbeats 4000000
namespace K9
open PySem PySem.Spec PyProof.Rows L2
/-- what is taken where a look is due begins by a look's word -/
theorem look_cases {D : List Str} {lev : List Int} {st m d : Int} {w : Str} {L' : Lw} (h : lawStep ⟨sLook :: D, lev, st, m, d⟩ w = some L') : (stepL.lookup w).isSome = true ∨ w = sOpen ∨ leafB w = true := by
  by_cases h1 : (stepL.lookup w).isSome = true
  · exact .inl h1
  by_cases h2 : w = sOpen
  · exact .inr (.inl h2)
  by_cases h3 : leafB w = true
  · exact .inr (.inr h3)
  exfalso
  unfold lawStep at h
  rw [if_neg (fun z => h1 z.2), if_neg (fun z => h2 z.2), if_neg (fun z => h3 z.2), if_pos (.inr (.inr (.inl rfl)))] at h
  cases h
theorem sign_cases {D : List Str} {lev : List Int} {st m d : Int} {w : Str} {L' : Lw} (h : lawStep ⟨sSign :: D, lev, st, m, d⟩ w = some L') : opB w = true := by
  by_cases h1 : opB w = true
  · exact h1
  exfalso
  unfold lawStep at h
  rw [if_neg (fun z => absurd z.1 (by show ¬ sSign = sLook; decide +kernel)), if_neg (fun z => absurd z.1 (by show ¬ sSign = sLook; decide +kernel)), if_neg (fun z => absurd z.1 (by show ¬ sSign = sLook; decide +kernel)), if_pos (.inr (.inr (.inr (.inr ⟨rfl, h1⟩))))] at h
  cases h
theorem close_cases {D : List Str} {lev : List Int} {st m d : Int} {w : Str} {L' : Lw} (h : lawStep ⟨sClose :: D, lev, st, m, d⟩ w = some L') : w = sClose := by
  by_cases h1 : w = sClose
  · exact h1
  exfalso
  unfold lawStep at h
  rw [if_neg (fun z => absurd z.1 (by show ¬ sClose = sLook; decide +kernel)), if_neg (fun z => absurd z.1 (by show ¬ sClose = sLook; decide +kernel)), if_neg (fun z => absurd z.1 (by show ¬ sClose = sLook; decide +kernel)), if_pos (.inr (.inr (.inr (.inl ⟨rfl, h1⟩))))] at h
  cases h
theorem empty_cases {lev : List Int} {st m d : Int} {w : Str} : lawStep ⟨[], lev, st, m, d⟩ w = none := by
  unfold lawStep
  rw [if_neg (fun z => absurd z.1 (by show ¬ sNo = sLook; decide +kernel)), if_neg (fun z => absurd z.1 (by show ¬ sNo = sLook; decide +kernel)), if_neg (fun z => absurd z.1 (by show ¬ sNo = sLook; decide +kernel)), if_pos (.inl rfl)]
theorem run_cons {L : Lw} {w : Str} {ws : List Str} (h : (lawRun L (w :: ws)).ok) : ∃ L', lawStep L w = some L' ∧ (lawRun L' ws).ok := by
  cases e : lawStep L w with
  | none => rw [lawRun_none e] at h; exact h.elim
  | some L' => exact ⟨L', rfl, by rw [lawRun_some e] at h; exact h⟩
theorem run_nil {x : Str} {D : List Str} {lev : List Int} {st m d : Int} : ¬ (lawRun ⟨x :: D, lev, st, m, d⟩ []).ok := by
  show ¬ (if (x :: D) = [] then _ else LRes.short).ok
  rw [if_neg (by simp)]
  exact id
/-- what the law takes is a tree -/
theorem run_tree : ∀ (n : Nat) (ws : List Str), ws.length ≤ n → ∀ (D : List Str) (lev : List Int) (st m d : Int), (lawRun ⟨sLook :: D, lev, st, m, d⟩ ws).ok → ∃ t more, LT.ok t ∧ ws = t.ws ++ more
  | _, [], _, D, lev, st, m, d, h => absurd h run_nil
  | 0, w :: ws, hl, _, _, _, _, _, _ => absurd hl (by simp)
  | n + 1, w :: ws, hl0, D, lev, st, m, d, h => by
    have hl : ws.length ≤ n := Nat.le_of_succ_le_succ hl0
    clear hl0
    obtain ⟨L', e, h'⟩ := run_cons h
    rcases look_cases e with c | c | c
    · rw [law_step c] at e
      cases e
      obtain ⟨t, more, ht, hw⟩ := run_tree n ws hl _ _ _ _ _ h'
      exact ⟨.step w t, more, ⟨c, ht⟩, by rw [hw]; rfl⟩
    · subst c
      rw [law_open] at e
      cases e
      obtain ⟨a, m1, ha, hw⟩ := run_tree n ws hl _ _ _ _ _ h'
      rw [hw, lawRun_tree a ha] at h'
      cases m1 with
      | nil => exact absurd h' run_nil
      | cons s m2 =>
        obtain ⟨L2, e2, h2⟩ := run_cons h'
        have hs := sign_cases e2
        rw [law_sign hs] at e2
        cases e2
        have hl2 : m2.length ≤ n := by
          rw [hw, List.length_append, List.length_cons] at hl
          omega
        obtain ⟨b, m3, hb, hw3⟩ := run_tree n m2 hl2 _ _ _ _ _ h2
        rw [hw3, lawRun_tree b hb] at h2
        cases m3 with
        | nil => exact absurd h2 run_nil
        | cons c m4 =>
          obtain ⟨L3, e3, h3⟩ := run_cons h2
          have hc := close_cases e3
          subst hc
          exact ⟨.bin s a b, m4, ⟨hs, ha, hb⟩, by rw [hw, hw3]; show _ = (sOpen :: (a.ws ++ s :: (b.ws ++ [sClose]))) ++ m4; simp⟩
    · exact ⟨.leaf w, ws, c, rfl⟩
/-- the whole text -/
theorem whole_tree {ws : List Str} (h : (lawRun lw0 ws).ok) : ∃ t, LT.ok t ∧ ws = t.ws := by
  obtain ⟨t, more, ht, hw⟩ := run_tree ws.length ws (Nat.le_refl _) [] [0] 0 0 0 h
  have h : (lawRun ⟨sLook :: [], [0], 0, 0, 0⟩ ws).ok := h
  rw [hw, lawRun_tree t ht] at h
  cases more with
  | nil => exact ⟨t, ht, by rw [hw, List.append_nil]⟩
  | cons w more =>
    obtain ⟨L', e, _⟩ := run_cons h
    rw [empty_cases] at e
    cases e
theorem lawRun_whole {t : LT} (h : t.ok) : lawRun lw0 t.ws = .made t.ws.length t.dep := by
  have e := lawRun_tree t h [] [0] 0 0 0 []
  rw [List.append_nil] at e
  refine (show lawRun lw0 t.ws = _ from e).trans ?_
  show LRes.made _ _ = _
  have h0 := dep_nonneg t
  congr 1
  · show 0 + (t.ws.length : Int) = _
    omega
  · show imax 0 (0 + t.dep) = t.dep
    unfold imax
    split <;> omega
theorem good_whole {x : Str} {t : LT} (h : t.ok) (e : Txt.split x " " = t.ws) : GoodAt x t.dep := by
  obtain ⟨R', e1, e2, e3, e4⟩ := rdAll_tree t h rd0 0 [] rfl
  rw [List.append_nil] at e1
  have e3 : R'.stack = [] := e3
  have er : rdAll 0 rd0 (Txt.split x " ") = (0 + t.ws.length, true, R'.signs) := by
    rw [e, e1]
    show (_, !R'.wanted && R'.stack.isEmpty, _) = _
    rw [e2, e3]
    rfl
  refine ⟨by rw [er], ?_⟩
  rw [er]
  show dRun [] (R'.signs.reverse.map (·.1)) = _
  rw [List.map_reverse, e4]
  have := dRun_pre t h [] []
  rw [List.append_nil] at this
  exact this
/-! ### where it goes wrong -/
def cv : List Fr → List Str
  | [] => []
  | f :: r => if f.1 = sStep then cv r else if f.1 = sFirst then sSign :: sLook :: sClose :: cv r else sClose :: cv r
def dueOf (R : Rd) : List Str := if R.wanted = true then sLook :: cv R.stack else cv R.stack
structure InvR (R : Rd) : Prop where
  cl : R.wanted = false → closes R.stack = R.stack
  kd : ∀ f ∈ R.stack, f.1 = sStep ∨ f.1 = sFirst ∨ f.1 = sSecond
theorem cv_closes : ∀ l : List Fr, cv (closes l) = cv l
  | [] => rfl
  | f :: r => by
    show cv (if f.1 = "step" then closes r else f :: r) = (if f.1 = sStep then cv r else _)
    by_cases e : f.1 = sStep
    · rw [if_pos e, if_pos e]
      exact cv_closes r
    · rw [if_neg e]
      rfl
theorem closes_closes : ∀ l : List Fr, closes (closes l) = closes l
  | [] => rfl
  | f :: r => by
    show closes (if f.1 = "step" then closes r else f :: r) = (if f.1 = "step" then closes r else f :: r)
    by_cases e : f.1 = sStep
    · rw [if_pos e]
      exact closes_closes r
    · rw [if_neg e]
      show (if f.1 = "step" then closes r else f :: r) = _
      rw [if_neg e]
theorem top_not_step {f : Fr} {r : List Fr} (h : closes (f :: r) = f :: r) : ¬ f.1 = sStep := fun e => by
  have h : (if f.1 = "step" then closes r else f :: r) = f :: r := h
  rw [if_pos e] at h
  have := congrArg List.length h
  have := closes_len r
  simp at *
  omega
theorem goes_true {w k : Str} : goesOn w true k = (leafB w || (decide (w = sOpen) || (stepL.lookup w).isSome)) := rfl
theorem sim {R : Rd} {L : Lw} {w : Str} (hI : InvR R) (hd : L.due = dueOf R) : (rdStep R w = none ∧ lawStep L w = none) ∨ ∃ R' L', rdStep R w = some R' ∧ lawStep L w = some L' ∧ InvR R' ∧ L'.due = dueOf R' ∧ L'.start = L.start + w.length + 1 := by
  obtain ⟨sg, st, r, u, wn⟩ := R
  obtain ⟨due, lev, start, many, deep⟩ := L
  cases wn with
  | true =>
    have hd : due = sLook :: cv st := hd
    subst hd
    by_cases h1 : (stepL.lookup w).isSome = true
    · right
      obtain ⟨d, hd⟩ := Option.isSome_iff_exists.mp h1
      have hg : goesOn w true (topKind st) = true := by rw [goes_true, h1]; simp
      refine ⟨⟨sg ++ [(w, r, u)], (sStep, 0, r, u) :: st, r + d.1, u + d.2, true⟩, _, ?_, law_step h1, ?_, ?_, rfl⟩
      · unfold rdStep
        rw [if_neg (by rw [hg]; simp), hd]
      · exact ⟨fun z => Bool.noConfusion z, fun f hf => (List.mem_cons.mp hf).elim (fun e => .inl (by rw [e])) (hI.kd f)⟩
      · show sLook :: cv st = sLook :: (if sStep = sStep then cv st else _)
        rw [if_pos rfl]
    · by_cases h2 : w = sOpen
      · subst h2
        right
        have hg : goesOn sOpen true (topKind st) = true := by rw [goes_true]; simp
        refine ⟨⟨sg ++ [(sOpen, r, u)], (sFirst, (sg.length : Int), r, u) :: st, r, u, true⟩, _, ?_, law_open, ?_, ?_, rfl⟩
        · unfold rdStep
          rw [if_neg (by rw [hg]; simp), open_facts.1]
          dsimp only
          rw [if_pos rfl]
        · exact ⟨fun z => Bool.noConfusion z, fun f hf => (List.mem_cons.mp hf).elim (fun e => .inr (.inl (by rw [e]))) (hI.kd f)⟩
        · show _ = sLook :: (if sFirst = sStep then cv st else if sFirst = sFirst then _ else _)
          rw [if_neg (by decide +kernel), if_pos rfl]
      · by_cases h3 : leafB w = true
        · right
          have f := leaf_facts h3
          have hg : goesOn w true (topKind st) = true := by rw [goes_true, h3]; rfl
          refine ⟨⟨sg ++ [(w, r, u)], closes st, r, u, false⟩, _, ?_, law_leaf h3, ?_, ?_, rfl⟩
          · unfold rdStep
            rw [if_neg (by rw [hg]; simp), f.1]
            dsimp only
            rw [if_neg f.2.2.1, if_neg (by rw [f.2.1]; exact Bool.false_ne_true), if_neg f.2.2.2]
          · exact ⟨fun _ => closes_closes st, fun f hf => hI.kd f (closes_sub hf)⟩
          · show cv st = cv (closes st)
            rw [cv_closes]
        · left
          have hg : goesOn w true (topKind st) = false := by
            rw [goes_true]
            simp [h3, h2, h1]
          constructor
          · unfold rdStep
            rw [if_pos (by rw [hg]; simp)]
          · cases e : lawStep ⟨sLook :: cv st, lev, start, many, deep⟩ w with
            | none => rfl
            | some L' =>
              rcases look_cases e with c | c | c
              · exact absurd c h1
              · exact absurd c h2
              · exact absurd c h3
  | false =>
    have hd : due = cv st := hd
    subst hd
    have hcl := hI.cl rfl
    cases st with
    | nil =>
      left
      constructor
      · unfold rdStep
        rw [if_pos (by rfl)]
      · exact empty_cases
    | cons f rest =>
      obtain ⟨kd, at_, fr, fu⟩ := f
      have hns : ¬ kd = sStep := top_not_step hcl
      rcases hI.kd (kd, at_, fr, fu) List.mem_cons_self with e | e | e
      · exact absurd e hns
      · have e : kd = sFirst := e
        subst e
        have hcv : cv ((sFirst, at_, fr, fu) :: rest) = sSign :: sLook :: sClose :: cv rest := by
          show (if sFirst = sStep then cv rest else if sFirst = sFirst then _ else _) = _
          rw [if_neg (by decide +kernel), if_pos rfl]
        rw [hcv]
        have hg : goesOn w false sFirst = opB w := by
          unfold goesOn
          rw [if_neg Bool.false_ne_true, if_pos rfl]
        by_cases ho : opB w = true
        · right
          have f := op_facts ho
          refine ⟨⟨sg.set at_.toNat (w, fr, fu), (sSecond, at_, fr, fu) :: rest, fr, fu, true⟩, _, ?_, law_sign ho, ?_, ?_, rfl⟩
          · unfold rdStep
            rw [if_neg (by show ¬ ((_ || !goesOn w false sFirst) = true); rw [hg, ho]; simp), f.1]
            dsimp only
            rw [if_neg f.2.2.1, if_pos ho]
          · exact ⟨fun z => Bool.noConfusion z, fun g hf => (List.mem_cons.mp hf).elim (fun e => .inr (.inr (by rw [e]))) fun h => hI.kd g (List.mem_cons_of_mem _ h)⟩
          · show _ = sLook :: (if sSecond = sStep then cv rest else if sSecond = sFirst then _ else _)
            rw [if_neg (by decide +kernel), if_neg (by decide +kernel)]
        · left
          constructor
          · unfold rdStep
            rw [if_pos (by show (_ || !goesOn w false sFirst) = true; rw [hg]; simp [ho])]
          · cases e : lawStep ⟨sSign :: sLook :: sClose :: cv rest, lev, start, many, deep⟩ w with
            | none => rfl
            | some L' => exact absurd (sign_cases e) ho
      · have e : kd = sSecond := e
        subst e
        have hcv : cv ((sSecond, at_, fr, fu) :: rest) = sClose :: cv rest := by
          show (if sSecond = sStep then cv rest else if sSecond = sFirst then _ else _) = _
          rw [if_neg (by decide +kernel), if_neg (by decide +kernel)]
        rw [hcv]
        have hg : goesOn w false sSecond = decide (w = sClose) := by
          unfold goesOn
          rw [if_neg Bool.false_ne_true, if_neg (by decide +kernel)]
        by_cases hc : w = sClose
        · subst hc
          right
          refine ⟨⟨sg, closes rest, r, u, false⟩, _, ?_, law_close, ?_, ?_, rfl⟩
          · unfold rdStep
            rw [if_neg (by show ¬ ((_ || !goesOn sClose false sSecond) = true); rw [hg]; simp), close_facts.1]
            dsimp only
            rw [if_neg close_facts.2.2.2, if_neg (by rw [close_facts.2.2.1]; exact Bool.false_ne_true), if_pos rfl]
          · exact ⟨fun _ => closes_closes rest, fun g hf => hI.kd g (List.mem_cons_of_mem _ (closes_sub hf))⟩
          · show cv rest = cv (closes rest)
            rw [cv_closes]
        · left
          constructor
          · unfold rdStep
            rw [if_pos (by show (_ || !goesOn w false sSecond) = true; rw [hg]; simp [hc])]
          · cases e : lawStep ⟨sClose :: cv rest, lev, start, many, deep⟩ w with
            | none => rfl
            | some L' => exact absurd (close_cases e) hc
theorem due_empty {R : Rd} (hI : InvR R) : (dueOf R = []) ↔ (!R.wanted && R.stack.isEmpty) = true := by
  obtain ⟨sg, st, r, u, wn⟩ := R
  cases wn with
  | true => simp [dueOf]
  | false =>
    cases st with
    | nil => simp [dueOf, cv]
    | cons f rest =>
      have hns := top_not_step (hI.cl rfl)
      have : ¬ cv (f :: rest) = [] := by
        show ¬ (if f.1 = sStep then cv rest else if f.1 = sFirst then _ else _) = []
        rw [if_neg hns]
        split <;> simp
      simp [dueOf, this]
theorem both : ∀ (ws : List Str) (n : Nat) (R : Rd) (L : Lw), InvR R → L.due = dueOf R →
    ((lawRun L ws).ok ∧ (rdAll n R ws).2.1 = true) ∨ (lawRun L ws = .short ∧ (rdAll n R ws).2.1 = false ∧ (rdAll n R ws).1 = n + ws.length) ∨
      ∃ k, k < ws.length ∧ lawRun L ws = .bad (L.start + wLen (ws.take k)) ∧ (rdAll n R ws).2.1 = false ∧ (rdAll n R ws).1 = n + k
  | [], n, R, L, hI, hd => by
    by_cases e : L.due = []
    · refine .inl ⟨?_, ?_⟩
      · show (if L.due = [] then LRes.made L.many L.deep else .short).ok
        rw [if_pos e]
        trivial
      · exact (due_empty hI).mp (hd ▸ e)
    · refine .inr (.inl ⟨if_neg e, ?_, rfl⟩)
      show (!R.wanted && R.stack.isEmpty) = false
      exact Bool.eq_false_iff.mpr fun z => e (hd ▸ (due_empty hI).mpr z)
  | w :: ws, n, R, L, hI, hd => by
    rcases sim (w := w) hI hd with ⟨e1, e2⟩ | ⟨R', L', e1, e2, hI', hd', hs⟩
    · refine .inr (.inr ⟨0, by simp, ?_, ?_, ?_⟩)
      · rw [lawRun_none e2]
        show LRes.bad L.start = .bad (L.start + 0)
        rw [Int.add_zero]
      · rw [rdAll_none e1]
      · rw [rdAll_none e1]
        rfl
    · rw [lawRun_some e2, rdAll_some e1]
      rcases both ws (n + 1) R' L' hI' hd' with h | ⟨a, b, c⟩ | ⟨k, hk, a, b, c⟩
      · exact .inl h
      · exact .inr (.inl ⟨a, b, by rw [c, List.length_cons]; omega⟩)
      · refine .inr (.inr ⟨k + 1, by rw [List.length_cons]; omega, ?_, b, by rw [c]; omega⟩)
        rw [a, hs, List.take_succ_cons, wLen_cons]
        congr 1
        omega
/-- the law's answer of a text that is no look -/
theorem law_bad {x : Str} {n : Int} (h : (lawRun lw0 (Txt.split x " ") = .short ∧ n = x.length) ∨ lawRun lw0 (Txt.split x " ") = .bad n) : BadAt x n := by
  have hI : InvR rd0 := ⟨fun z => Bool.noConfusion z, fun f hf => nomatch hf⟩
  rcases both (Txt.split x " ") 0 rd0 lw0 hI rfl with ⟨a, b⟩ | ⟨a, b, c⟩ | ⟨k, hk, a, b, c⟩
  · exfalso
    rcases h with ⟨h, _⟩ | h <;> rw [h] at a <;> exact a
  · refine ⟨b, ?_⟩
    rcases h with ⟨_, h⟩ | h
    · unfold faultOf
      rw [c, if_pos (Nat.zero_add _)]
      exact h
    · rw [a] at h
      cases h
  · refine ⟨b, ?_⟩
    rcases h with ⟨h, _⟩ | h
    · rw [a] at h
      cases h
    · rw [a] at h
      injection h with h
      unfold faultOf
      rw [c, Nat.zero_add, if_neg (Nat.ne_of_lt hk), ← h]
      show 0 + wLen _ = wLen _
      omega
end K9
set_option Elab.async false
set_option linter.all false
set_option maxRecDepth 100000
set_option maxHeartbeats 4000000
namespace K9
open PySem PySem.Spec PyProof.Rows L2
/-! ### steps through a reading -/
/-- H a = some o, where H is told by its stores -/
local macro_rules | `(tactic| walk_at "look") => `(tactic| first
  | assumption
  | exact upd_same
  | (refine Eq.trans (upd_ne ?_) ?_ <;> first
      | assumption
      | exact Ne.symm (by assumption)
      | exact ne_nw (by assumption) (by walk_at "look")
      | exact Ne.symm (ne_nw (by assumption) (by walk_at "look"))
      | walk_at "look"))
local macro_rules | `(tactic| walk_at "sq") => `(tactic| first
  | assumption
  | exact SqL.of (by walk_at "look")
  | exact SqT.of (by walk_at "look"))
local macro_rules | `(tactic| walk_at "c") => `(tactic| first
  | decide
  | omega
  | assumption
  | exact Or.inr ⟨by decide, by decide⟩
  | exact ⟨by decide, by decide⟩
  | exact Nat.le_of_ble_eq_true rfl
  | exact line1000 (by assumption)
  | (intro z; omega)
  | (dsimp only; first | assumption | omega)
  | (constructor <;> first | decide | omega))
local macro_rules | `(tactic| walk_at "fl") => `(tactic| first
  | assumption
  | rfl
  | exact flat_ints _
  | decide +kernel
  | (simp only [List.all_map, List.all_cons, List.all_nil]; rfl))
local macro_rules | `(tactic| walk_at "ty") => `(tactic| first
  | exact TyX.base (TyOf.str _)
  | exact TyX.base (TyOf.int _)
  | exact TyX.base (TyOf.bl _)
  | exact TyX.base TyOf.non
  | exact TyX.base (TyOf.tup (by walk_at "look"))
  | exact TyX.base (TyOf.lst (by walk_at "look"))
  | exact TyX.base (TyOf.dK (by walk_at "look")))
local macro_rules | `(tactic| walk_at "kit") => `(tactic| first
  | assumption
  | exact kit_str_bool
  | exact kit_str_int
  | exact kit_str_str
  | exact kit_str_dict
  | exact kit_str_list
  | exact kit_str_tuple
  | exact kit_int_bool
  | exact kit_int_int
  | exact kit_int_str
  | exact kit_int_dict
  | exact kit_int_list
  | exact kit_int_tuple
  | exact kit_bool_bool
  | exact kit_bool_int
  | exact kit_bool_str
  | exact kit_bool_dict
  | exact kit_bool_list
  | exact kit_bool_tuple
  | exact kit_list_bool
  | exact kit_list_int
  | exact kit_list_str
  | exact kit_list_dict
  | exact kit_list_list
  | exact kit_list_tuple
  | exact kit_tuple_bool
  | exact kit_tuple_int
  | exact kit_tuple_str
  | exact kit_tuple_dict
  | exact kit_tuple_list
  | exact kit_tuple_tuple
  | exact kit_dict_bool
  | exact kit_dict_int
  | exact kit_dict_str
  | exact kit_dict_dict
  | exact kit_dict_list
  | exact kit_dict_tuple
  | exact kit_NoneType_bool
  | exact kit_NoneType_int
  | exact kit_NoneType_str
  | exact kit_NoneType_dict
  | exact kit_NoneType_list
  | exact kit_NoneType_tuple)
local macro_rules | `(tactic| walk_at "len") => `(tactic| (refine sline ?_; (try simp only [slen, show ("( " : Str).length = 2 from rfl, show (" " : Str).length = 1 from rfl, show (" )" : Str).length = 2 from rfl, show Str.empty.length = 0 from rfl]); omega))
local macro_rules | `(tactic| walk_at "w1") => `(tactic| (first
  | ((with_reducible apply tVar_i); exact rfl)
  | with_reducible refine tC_i ?_
  | with_reducible refine tCons_i ?_
  | with_reducible refine tNil_i ?_
  | with_reducible refine tOp_i ?_
  | with_reducible refine tSeq_i ?_
  | with_reducible refine tAsg_i ?_
  | with_reducible refine tDrop_i ?_
  | with_reducible refine tRet_i ?_
  | with_reducible refine tNext_i ?_
  | with_reducible refine tIfS_i ?_
  | with_reducible refine tIf_i ?_
  | with_reducible refine tTest_i ?_
  | with_reducible refine tB_i ?_
  | with_reducible refine tNot_i ?_
  | with_reducible refine tAnd_i ?_
  | with_reducible refine tOr_i ?_
  | with_reducible refine tAndV_i ?_
  | with_reducible refine tOrV_i ?_
  | with_reducible refine tNotV_i ?_
  | with_reducible refine tNotT_i ?_
  | with_reducible refine tUn_i ?_
  | with_reducible refine tCB_i ?_
  | with_reducible refine tCall_i ?_
  | with_reducible refine tTup_i ?_
  | with_reducible refine tLst_i ?_
  | with_reducible refine tPar_i ?_
  | with_reducible refine tPar3_i ?_
  | with_reducible refine tSl_i ?_
  | with_reducible refine bl_i ?_
  | with_reducible refine tFor_i ?_
  | with_reducible refine tLc_i ?_
  | with_reducible refine iEnum_i ?_
  | with_reducible refine iList_i ?_
  | with_reducible refine iTup_i ?_
  | with_reducible refine iRng1_i ?_
  | ((with_reducible apply enum_i); walk_at "sq")
  | ((with_reducible apply list_i); walk_at "sq")
  | ((with_reducible apply tup_i); walk_at "sq")
  | ((with_reducible refine rng1_i ?_ ?_); walk_at "c")
  | with_reducible refine par2_i ?_
  | with_reducible refine par3_i ?_
  | with_reducible refine gName_i ?_
  | with_reducible refine gc_i ?_
  | with_reducible refine gNil_i ?_
  | with_reducible refine rI0_i ?_
  | with_reducible refine rU_i ?_
  | with_reducible refine max2_i ?_
  | with_reducible refine tM1_i ?_
  | with_reducible refine tM0_i ?_
  | with_reducible refine str_i ?_
  | with_reducible refine tBM_iL ?_
  | with_reducible refine tBM0_iL ?_
  | ((with_reducible refine rEq_i ?_ ?_); exact rfl)
  | ((with_reducible refine rNe_i ?_ ?_); exact rfl)
  | ((with_reducible refine rI_i ?_ ?_); walk_at "c")
  | ((with_reducible apply ty_i); walk_at "sq")
  | ((with_reducible apply gTup_i); walk_at "sq"; exact rfl)
  | ((with_reducible apply rIxL_i); walk_at "sq"; first | exact rfl | assumption)
  | ((with_reducible apply rIxT_i); walk_at "sq"; first | exact rfl | assumption)
  | ((with_reducible apply rInT_i); walk_at "sq"; exact rfl; exact rfl)
  | ((with_reducible apply rInL_i); walk_at "sq"; exact rfl; exact rfl)
  | with_reducible refine gSub_i ?_
  | with_reducible refine tJs1_i ?_
  | with_reducible refine tJs0_i ?_
  | with_reducible refine tFmt_i ?_
  | ((with_reducible refine fmtS_i ?_ ?_); walk_at "len")
  | ((with_reducible refine js_i ?_ ?_); walk_at "len")
  | ((with_reducible apply rCat_i); walk_at "look"; walk_at "look"; walk_at "c")
  | ((with_reducible apply rIsi_i); walk_at "ty"; walk_at "kit")
  | ((with_reducible apply rNe_nil); walk_at "sq"; walk_at "fl"; walk_at "sq")
  | ((with_reducible apply rEq_nil); walk_at "sq"; walk_at "fl"; walk_at "sq")
  | with_reducible refine tDisp_i ?_
  | with_reducible refine tPairs0_i ?_
  | with_reducible refine tPairs1_i ?_
  | ((with_reducible apply disp1_i); walk_at "look")
  | ((with_reducible apply disp2_i); walk_at "look")
  | with_reducible refine tFld_i ?_
  | with_reducible refine sFld_i ?_
  | ((with_reducible apply fld_i); walk_at "look"; assumption; assumption; first | exact rfl | assumption)
  | ((with_reducible apply sfld_i); walk_at "look"; assumption; assumption; walk_at "c")
  | with_reducible refine tRevL_i ?_
  | ((with_reducible apply rev_i); walk_at "sq")
  | ((with_reducible apply rSetL_i); walk_at "look"; first | exact rfl | assumption)
  | ((with_reducible apply rIxK_i); assumption; assumption)
  | ((with_reducible apply rInK_i); assumption)
  | ((with_reducible apply rAppend_i); walk_at "look"; walk_at "c")
  | ((with_reducible apply rPop_i); walk_at "look"; first | exact rfl | assumption)
  | ((with_reducible apply len_i); walk_at "sq")
  | ((with_reducible apply lenT_i); walk_at "sq")
  | ((with_reducible apply rSlL_i); walk_at "sq")
  | with_reducible refine iteT ?_
  | with_reducible refine iteF ?_
  | ((with_reducible refine iteTk ?_ ?_); assumption)
  | ((with_reducible refine iteFk ?_ ?_); assumption)
  | ((with_reducible refine iteTk ?_ ?_); decide +kernel)
  | ((with_reducible refine iteFk ?_ ?_); decide +kernel)
  | ((with_reducible refine iteTk ?_ ?_); exact rfl)
  | ((with_reducible refine iteFk ?_ ?_); exact rfl)
  | with_reducible refine fun (p : Addr) (n : _ = none) => ?_
  | with_reducible refine Or.inl ⟨_, rfl, ?_⟩
  | with_reducible refine ⟨_, rfl, ?_⟩
  | with_reducible refine ⟨_, _, rfl, rfl, ?_⟩
  | ((with_reducible refine ⟨_, _, _, _, _, rfl, ClsV.ty _, ?_, ?_, ?_⟩); walk_at "ty"; walk_at "kit")
  | ((with_reducible refine And.intro ?_ ?_); walk_at "c")))
local macro_rules | `(tactic| walk_at "w") => `(tactic| repeat (walk_at "w1"))
local macro_rules | `(tactic| walk_at "but") => `(tactic| first
  | assumption
  | exact But.refl _ _
  | (refine But.upd ?_; walk_at "but")
  | (refine But.new ?_ (by assumption); walk_at "but"))
local macro_rules | `(tactic| walk_at "same") => `(tactic| first
  | assumption
  | exact Same.refl _
  | (refine Same.new ?_ (by assumption); walk_at "same")
  | (refine Same.trans (by assumption) ?_; walk_at "same"))
local macro_rules | `(tactic| walk_at "x") => `(tactic| (dsimp only [Cx.nox, Cx.wish, cxOf, L2H.cxH]))
abbrev s_read : Stmt := (top 53)
theorem scRead : FnScope ["v", "due", "levels", "start_of", "many_of", "deepest", "word", "wish", "level"] ["v"] (defScope (top 53)) := ⟨rfl, rfl, rfl, by decide +kernel, rfl, by decide +kernel, by decide +kernel⟩
def resV (x : Str) : LRes → List V
  | .made n d => [.str "made", .int n, .int d]
  | .bad n => [.str "BadLook", .int n]
  | .short => [.str "BadLook", .int x.length]
def lawRes (x : Str) : List V := resV x (lawRun lw0 (Txt.split x " "))
def spRead : Sp := fun vs H Q _ => ∃ x, vs = [.str x] ∧ x.length ≤ 900 ∧ ∀ t H', Same H H' → H' t = some (.tup (lawRes x)) → Q (.ref t) H'
theorem flat_strs : ∀ ns : List Str, (∀ z ∈ ns, PyData.strOk z = true) → (ns.map V.str).all flatD = true
  | [], _ => rfl
  | n :: ns, h => by
    rw [List.map_cons, List.all_cons, flat_strs ns fun z hz => h z (List.mem_cons_of_mem _ hz)]
    show (PyData.strOk n && true) = true
    rw [h n List.mem_cons_self]
    rfl
def dueOk (l : List Str) : Prop := ∀ z ∈ l, z = sLook ∨ z = sSign ∨ z = sClose
theorem due_flat {l : List Str} (h : dueOk l) : (l.reverse.map V.str).all flatD = true := flat_strs _ fun z hz => by
  rcases h z (List.mem_reverse.mp hz) with rfl | rfl | rfl <;> decide +kernel
theorem due_tail {l : List Str} (h : dueOk l) : dueOk l.tail := fun z hz => h z (List.mem_of_mem_tail hz)
theorem in4S (x a b c d : Str) : inV (.str x) [.str a, .str b, .str c, .str d] = (decide (x = a) || (decide (x = b) || (decide (x = c) || decide (x = d)))) := by
  show (decide (a = x) || (decide (b = x) || (decide (c = x) || (decide (d = x) || false)))) = _
  rw [Bool.or_false, decide_eq_decide.mpr (eq_comm (a := a)), decide_eq_decide.mpr (eq_comm (a := b)), decide_eq_decide.mpr (eq_comm (a := c)), decide_eq_decide.mpr (eq_comm (a := d))]
theorem in4_step (x : Str) : inV (.str x) [.str "r", .str "u", .str "r?", .str "u?"] = (stepL.lookup x).isSome := by
  rw [in4S]
  by_cases h : (stepL.lookup x).isSome = true
  · rw [h]
    rcases step_cases h with rfl | rfl | rfl | rfl <;> decide +kernel
  · rw [Bool.not_eq_true] at h
    rw [h]
    have n : ∀ y : Str, (stepL.lookup y).isSome = true → decide (x = y) = false := fun y hy => decide_eq_false fun e => by rw [e, hy] at h; cases h
    rw [n "r" (by decide +kernel), n "u" (by decide +kernel), n "r?" (by decide +kernel), n "u?" (by decide +kernel)]
    rfl
/-- the law's lists stand -/
structure LSt (H0 H : Hp) (pw : Addr) (wv : List V) (pd pl : Addr) (due : List Str) (lev : List Int) : Prop where
  s : Same H0 H
  nd : H0 pd = none
  nl : H0 pl = none
  ne : pd ≠ pl
  wd : pw ≠ pd
  wl : pw ≠ pl
  w : H pw = some (.lst wv)
  d : H pd = some (.lst (due.reverse.map V.str))
  l : H pl = some (.lst (lev.reverse.map V.int))
section
variable {H0 H : Hp} {pw pd pl T : Addr} {wv : List V} {due : List Str} {lev : List Int}
theorem LSt.fresh {o : HO} (h : LSt H0 H pw wv pd pl due lev) (n : H T = none) : LSt H0 (upd H T o) pw wv pd pl due lev :=
  ⟨Same.new h.s n, h.nd, h.nl, h.ne, h.wd, h.wl, (upd_ne (ne_nw n h.w)).trans h.w, (upd_ne (ne_nw n h.d)).trans h.d, (upd_ne (ne_nw n h.l)).trans h.l⟩
theorem LSt.setd {due' : List Str} {xs : List V} (h : LSt H0 H pw wv pd pl due lev) (e : xs = due'.reverse.map V.str) : LSt H0 (upd H pd (.lst xs)) pw wv pd pl due' lev :=
  ⟨sameU h.s h.nd, h.nd, h.nl, h.ne, h.wd, h.wl, (upd_ne h.wd).trans h.w, by rw [upd_same, e], (upd_ne (Ne.symm h.ne)).trans h.l⟩
theorem LSt.setl {lev' : List Int} {xs : List V} (h : LSt H0 H pw wv pd pl due lev) (e : xs = lev'.reverse.map V.int) : LSt H0 (upd H pl (.lst xs)) pw wv pd pl due lev' :=
  ⟨sameU h.s h.nl, h.nd, h.nl, h.ne, h.wd, h.wl, (upd_ne h.wl).trans h.w, (upd_ne h.ne).trans h.d, by rw [upd_same, e]⟩
/-- a new list in due's place -/
theorem LSt.newd {due' : List Str} {xs : List V} (h : LSt H0 H pw wv pd pl due lev) (n : H T = none) (e : xs = due'.reverse.map V.str) : LSt H0 (upd H T (.lst xs)) pw wv T pl due' lev :=
  ⟨Same.new h.s n, h.s.free n, h.nl, Ne.symm (ne_nw n h.l), ne_nw n h.w, h.wl, (upd_ne (ne_nw n h.w)).trans h.w, by rw [upd_same, e], (upd_ne (ne_nw n h.l)).trans h.l⟩
theorem LSt.newl {lev' : List Int} {xs : List V} (h : LSt H0 H pw wv pd pl due lev) (n : H T = none) (e : xs = lev'.reverse.map V.int) : LSt H0 (upd H T (.lst xs)) pw wv pd T due lev' :=
  ⟨Same.new h.s n, h.nd, h.s.free n, ne_nw n h.d, h.wd, ne_nw n h.w, (upd_ne (ne_nw n h.w)).trans h.w, (upd_ne (ne_nw n h.d)).trans h.d, by rw [upd_same, e]⟩
end
/-- at turn i of the law's loop -/
def InvL (x : Str) (pw : Addr) (H0 : Hp) (i : Nat) (σ : L2.St) (H : Hp) : Prop := ∃ (L : Lw) (pd pl : Addr) (x6 x7 x8 : Option V), σ = [some (.str x), some (.ref pd), some (.ref pl), some (.int L.start), some (.int L.many), some (.int L.deep), x6, x7, x8] ∧
  lawRun L ((Txt.split x " ").drop i) = lawRun lw0 (Txt.split x " ") ∧ LSt H0 H pw ((Txt.split x " ").map V.str) pd pl L.due L.lev ∧ dueOk L.due ∧ L.due.length ≤ 4 * i + 1 ∧ L.lev.length ≤ 4 * i + 1
theorem lawStep_len {L L' : Lw} {w : Str} (h : lawStep L w = some L') : L'.due.length ≤ L.due.length + 4 ∧ L'.lev.length ≤ L.lev.length + 4 := by
  unfold lawStep at h
  dsimp only at h
  have e1 : L.due.tail.length ≤ L.due.length := by rw [List.length_tail]; omega
  have e2 : L.lev.tail.length ≤ L.lev.length := by rw [List.length_tail]; omega
  split at h
  · cases h
    simp only [List.length_cons]
    omega
  · split at h
    · cases h
      simp only [List.length_cons]
      omega
    · split at h
      · cases h
        dsimp only
        omega
      · split at h
        · cases h
        · cases h
          dsimp only
          omega
theorem lawStep_start {L L' : Lw} {w : Str} (h : lawStep L w = some L') : L'.start = L.start + w.length + 1 := by
  unfold lawStep at h
  dsimp only at h
  split at h
  · cases h
    rfl
  · split at h
    · cases h
      rfl
    · split at h
      · cases h
        rfl
      · split at h
        · cases h
        · cases h
          rfl
theorem lawStep_due {L L' : Lw} {w : Str} (h : lawStep L w = some L') (hd : dueOk L.due) : dueOk L'.due := by
  have ht := due_tail hd
  unfold lawStep at h
  dsimp only at h
  split at h
  · cases h
    intro z hz
    rcases List.mem_cons.mp hz with rfl | hz
    · exact .inl rfl
    · exact ht z hz
  · split at h
    · cases h
      intro z hz
      simp only [List.mem_cons] at hz
      rcases hz with rfl | rfl | rfl | rfl | hz
      · exact .inl rfl
      · exact .inr (.inl rfl)
      · exact .inl rfl
      · exact .inr (.inr rfl)
      · exact ht z hz
    · split at h
      · cases h
        exact ht
      · split at h
        · cases h
        · cases h
          exact ht
section
variable {P : Program} {w : World} {K : PySem.W.Frag} {mg : Str → Option Value} {base : Heap} {f : Addr} {fd : FuncData}
theorem ok_read (Z : Free mg) (F : FnP K "_law_look_read" "_law_look_read" s_read [] f fd) : FnOk P w K mg base CX0 1 f fd ["v"] spRead := by
  refine F.ok scRead (fun vs H Q E h => ?_) (fun cdv A outer s H vs Q E hr h => ?_)
  · obtain ⟨a, rfl, _⟩ := h
    rfl
  · have hu := hu_of hr
    have hu64 : (A.deeper (envOfC "_law_look_read" (defScope s_read) s.heap.objs.size f cdv)).units + 64 < cLine := hr.units
    obtain ⟨x, rfl, hx, k⟩ := h
    refine ⟨_, PSs.nox (pss_cons (ps_if (pt_not (pt_val (pe_callB call_isi (by rfl) Z.isinstance (by decide +kernel) (pa_cons (pv 0) (pa_cons (pe_bltn (v := .ty "str") (by rfl) Z.str (by decide +kernel) rfl) pa_nil))))) 
        (pss_one (ps_ret (pe_tup (pa_cons pe_str (pa_cons (pe_un un_neg pe_int) pa_nil))))) pss_nil)
      (pss_cons (ps_set (i := 1) scRead.nd rfl (Or.inl rfl) (pe_lst (pa_cons pe_str pa_nil)))
      (pss_cons (ps_set (i := 2) scRead.nd rfl (Or.inl rfl) (pe_lst (pa_cons pe_int pa_nil)))
      (pss_cons (ps_set (i := 3) scRead.nd rfl (Or.inl rfl) pe_int)
      (pss_cons (ps_set (i := 4) scRead.nd rfl (Or.inl rfl) pe_int)
      (pss_cons (ps_set (i := 5) scRead.nd rfl (Or.inl rfl) pe_int)
      (pss_cons (ps_for PassesOwn.never rfl (pi_list (pe_split (pv 0) pe_str)) (pg_name (i := 6) scRead.nd rfl (Or.inl rfl)) 
        (C8.pss_cut (ps_set (i := 7) scRead.nd rfl (Or.inl rfl) (pe_ifExp (pt_cmpR (op_neD hu64) (pv 1) (pe_lst pa_nil) (nomark _)) (pe_bm0 PySem.F.plainAttrs_list PySem.F.slot_list_pop PySem.F.type_list_pop mt_pop (pv 1)) pe_str))
        (C8.pss_cut (ps_set (i := 8) scRead.nd rfl (Or.inl rfl) (pe_ifExp (pt_cmpR (op_neD hu64) (pv 2) (pe_lst pa_nil) (nomark _)) (pe_bm0 PySem.F.plainAttrs_list PySem.F.slot_list_pop PySem.F.type_list_pop mt_pop (pv 2)) pe_int))
        (pss_cons (ps_set (i := 4) scRead.nd rfl (Or.inl rfl) (pe_op op_add (pv 4) pe_int))
        (C8.pss_cut (ps_if (PW.pt (pw_and (pt_cmpR op_eq (pv 7) pe_str (nomark _)) (pw_and1 (pt_cmpR op_in_seq (pv 6) (pe_tup (pa_cons pe_str (pa_cons pe_str (pa_cons pe_str (pa_cons pe_str pa_nil))))) (by rfl))))) 
          (pss_cons (ps_expr (pe_bm PySem.F.plainAttrs_list PySem.F.slot_list_append PySem.F.type_list_append mt_append (pv 1) (pa_cons pe_str pa_nil)))
          (pss_cons (ps_expr (pe_bm PySem.F.plainAttrs_list PySem.F.slot_list_append PySem.F.type_list_append mt_append (pv 2) (pa_cons (pe_op op_add (pv 8) pe_int) pa_nil)))
          (pss_one (ps_set (i := 5) scRead.nd rfl (Or.inl rfl) (pe_callB (call_max2 rfl) (by rfl) Z.max (by decide +kernel) (pa_cons (pv 5) (pa_cons (pe_op op_add (pv 8) pe_int) pa_nil))))))) 
          (pss_one (ps_if (PW.pt (pw_and (pt_cmpR op_eq (pv 7) pe_str (nomark _)) (pw_and1 (pt_cmpR op_eq (pv 6) pe_str (nomark _))))) 
            (pss_cons (ps_set (i := 1) scRead.nd rfl (Or.inl rfl) (pe_op op_cat (pv 1) (pe_lst (pa_cons pe_str (pa_cons pe_str (pa_cons pe_str (pa_cons pe_str pa_nil)))))))
            (pss_one (ps_set (i := 2) scRead.nd rfl (Or.inl rfl) (pe_op op_cat (pv 2) (pe_lst (pa_cons (pv 8) (pa_cons (pv 8) (pa_cons (pv 8) (pa_cons (pv 8) pa_nil))))))))) 
            (pss_one (ps_if (PW.pt (pw_and (pt_cmpR op_eq (pv 7) pe_str (nomark _)) (pw_and1 (pt_cmpR op_in_seq (pv 6) (pe_tup (pa_cons pe_str (pa_cons pe_str pa_nil))) (by rfl))))) 
              (pss_one (ps_set (i := 5) scRead.nd rfl (Or.inl rfl) (pe_callB (call_max2 rfl) (by rfl) Z.max (by decide +kernel) (pa_cons (pv 5) (pa_cons (pv 8) pa_nil))))) 
              (pss_one (ps_if (PW.pt (pw_or (pt_cmpR op_eq (pv 7) pe_str (nomark _)) (pw_or (pt_cmpR op_eq (pv 6) pe_str (nomark _)) (pw_or (pt_cmpR op_eq (pv 7) pe_str (nomark _)) (pw_or (PW.pt (pw_and (pt_cmpR op_eq (pv 7) pe_str (nomark _)) (pw_and1 (pt_cmpR op_ne (pv 6) pe_str (nomark _))))) (pw_or1 (PW.pt (pw_and (pt_cmpR op_eq (pv 7) pe_str (nomark _)) (pw_and1 (pt_cmpR op_notIn_seq (pv 6) (pe_tup (pa_cons pe_str (pa_cons pe_str pa_nil))) (by rfl))))))))))) 
                (pss_one (ps_ret (pe_tup (pa_cons pe_str (pa_cons (pv 3) pa_nil))))) pss_nil)))))))
        (pss_one (ps_set (i := 3) scRead.nd rfl (Or.inl rfl) (pe_op op_add (pe_op op_add (pv 3) (pe_callB call_len_str (by rfl) Z.len PySem.boot_len (pa_cons (pv 6) pa_nil))) pe_int))))))))
      (pss_one (ps_ret (pe_ifExp (pt_cmpR (op_eqD hu64) (pv 1) (pe_lst pa_nil) (nomark _)) (pe_tup (pa_cons pe_str (pa_cons (pv 4) (pa_cons (pv 5) pa_nil)))) (pe_tup (pa_cons pe_str (pa_cons (pe_callB call_len_str (by rfl) Z.len PySem.boot_len (pa_cons (pv 0) pa_nil)) pa_nil))))))))))))), ?_⟩
    have hlen : (Txt.split x " ").length ≤ 902 := Nat.le_trans (split_le x " ") (by omega)
    walk_at "w"
    rename_i pd n1 pl n2
    refine ⟨Nat.le_trans (show x.length + 2 ≤ 1002 by omega) (Nat.le_of_ble_eq_true rfl), fun pw n3 => ?_⟩
    refine list_i (SqL.of upd_same) ?_
    have n2' : H pl = none := by rw [upd_ne (Ne.symm (ne_nw n2 upd_same))] at n2; exact n2
    refine for_list (xs := (Txt.split x " ").map V.str) (fun i σ' H' => InvL x pw H i σ' H') ?_ (fun i σ' H' hi h => ?_) (fun i y σ' H1 hi h => ?_) (fun σ' H' h => ?_)
    · have e1 := (upd_ne (H := upd H pd (.lst [.str "look"])) (o := HO.lst [.int 0]) (ne_nw n2 upd_same)).trans upd_same
      refine ⟨lw0, pd, pl, none, none, none, rfl, rfl, ⟨?_, n1, n2', ne_nw n2 upd_same, Ne.symm (ne_nw n3 e1), Ne.symm (ne_nw n3 upd_same), upd_same, ?_, ?_⟩, (fun z hz => .inl (List.mem_singleton.mp hz)), by decide, by decide⟩
      · exact Same.new (Same.new (Same.new (Same.refl _) n1) n2) n3
      · exact (upd_ne (ne_nw n3 e1)).trans e1
      · exact (upd_ne (ne_nw n3 upd_same)).trans upd_same
    · obtain ⟨L, pd, pl, x6, x7, x8, _, _, hS, _⟩ := h
      exact SqL.of hS.w
    · obtain ⟨⟨due, lev, start, many, deep⟩, pd, pl, x6, x7, x8, rfl, hrun, hS, hdk, hl1, hl2⟩ := h
      rw [List.getElem?_map] at hi
      obtain ⟨wd, hwd, rfl⟩ := Option.map_eq_some_iff.mp hi
      have hi' : i < (Txt.split x " ").length := (List.getElem?_eq_some_iff.mp hwd).1
      have hdr : (Txt.split x " ").drop i = wd :: (Txt.split x " ").drop (i + 1) := by
        rw [List.drop_eq_getElem_cons hi']
        congr 1
        exact Option.some.inj ((List.getElem?_eq_getElem hi').symm.trans hwd)
      rw [hdr] at hrun
      refine gName_i ?_
      refine abs_ends rfl rfl fun D hnx hrt => ?_
      replace hnx : ∀ σ' H', InvL x pw H (i + 1) σ' H' → D.nx σ' H' := hnx
      replace hrt : ∀ v H', Q v H' → D.rt v H' := hrt
      clear n1 n2 n2' n3 hdr hi
      refine ⟨fun σ2 H2 => σ2 = [some (.str x), some (.ref pd), some (.ref pl), some (.int start), some (.int many), some (.int deep), some (.str wd), some (.str (due.headD sNo)), x8] ∧ LSt H H2 pw ((Txt.split x " ").map V.str) pd pl due.tail lev, ?_, ?_⟩
      · walk_at "w"
        rename_i T1 m1
        have hS1 := hS.fresh (o := .lst []) m1
        refine rNe_nil (SqL.of hS1.d) (due_flat hdk) (SqL.of upd_same) ?_
        have hd := hS1.d
        cases due with
        | nil =>
          walk_at "w"
          first | exact ⟨rfl, hS1⟩ | exact hS1
        | cons z ds =>
          have hpop : ((z :: ds).reverse.map V.str)[((z :: ds).reverse.map V.str).length - 1]? = some (.str z) := by simp
          refine bl_i (iteTk (by simp) ?_)
          walk_at "w"
          first | exact ⟨rfl, hS1.setd (by simp)⟩ | exact hS1.setd (by simp)
      · rintro σ2 H2 ⟨rfl, hS1⟩
        refine ⟨fun σ3 H3 => σ3 = [some (.str x), some (.ref pd), some (.ref pl), some (.int start), some (.int many), some (.int deep), some (.str wd), some (.str (due.headD sNo)), some (.int (lev.headD 0))] ∧ LSt H H3 pw ((Txt.split x " ").map V.str) pd pl due.tail lev.tail, ?_, ?_⟩
        · walk_at "w"
          rename_i T1 m1
          have hS2 := hS1.fresh (o := .lst []) m1
          refine rNe_nil (SqL.of hS2.l) (flat_ints lev.reverse) (SqL.of upd_same) ?_
          have hd := hS2.l
          cases lev with
          | nil =>
            walk_at "w"
            first | exact ⟨rfl, hS2⟩ | exact hS2
          | cons z ds =>
            have hpop : ((z :: ds).reverse.map V.int)[((z :: ds).reverse.map V.int).length - 1]? = some (.int z) := by simp
            refine bl_i (iteTk (by simp) ?_)
            walk_at "w"
            first | exact ⟨rfl, hS2.setl (by simp)⟩ | exact hS2.setl (by simp)
        · rintro σ3 H3 ⟨rfl, hS2⟩
          walk_at "w"
          have bad : lawStep ⟨due, lev, start, many, deep⟩ wd = none → ∀ H4 T4, Same H H4 → H4 T4 = none → Q (.ref T4) (upd H4 T4 (.tup [.str "BadLook", .int start])) := fun e H4 T4 s4 m4 => by
            refine k T4 _ (Same.new s4 m4) ?_
            rw [upd_same]
            unfold lawRes
            rw [← hrun, lawRun_none e]
            rfl
          refine ⟨fun σ4 H4 => ∃ (L' : Lw) (pd' pl' : Addr) (x7 x8 : Option V), lawStep ⟨due, lev, start, many, deep⟩ wd = some L' ∧ σ4 = [some (.str x), some (.ref pd'), some (.ref pl'), some (.int start), some (.int L'.many), some (.int L'.deep), some (.str wd), x7, x8] ∧
            LSt H H4 pw ((Txt.split x " ").map V.str) pd' pl' L'.due L'.lev, ?_, ?_⟩
          · have z1 : (due.tail.reverse.map V.str).length < sizeLine := by
              rw [List.length_map, List.length_reverse, List.length_tail]
              refine Nat.lt_of_le_of_lt (show due.length - 1 ≤ 4000 by dsimp only at hl1; omega) (Nat.lt_of_succ_le (Nat.le_of_ble_eq_true rfl))
            have z2 : (lev.tail.reverse.map V.int).length < sizeLine := by
              rw [List.length_map, List.length_reverse, List.length_tail]
              refine Nat.lt_of_le_of_lt (show lev.length - 1 ≤ 4000 by dsimp only at hl2; omega) (Nat.lt_of_succ_le (Nat.le_of_ble_eq_true rfl))
            by_cases hL : due.headD sNo = sLook
            · rw [hL]
              walk_at "w"
              rename_i T1 m1
              replace hS2 := hS2.fresh (o := .tup [.str "r", .str "u", .str "r?", .str "u?"]) m1
              rw [in4_step]
              have hd := hS2.d
              have hl := hS2.l
              have hne := hS2.ne
              have z3 : (due.tail.reverse.map V.str).length + [V.str ")", .str "look", .str "sign", .str "look"].length ≤ sizeLine := by
                rw [List.length_map, List.length_reverse, List.length_tail]
                exact Nat.le_trans (show due.length - 1 + 4 ≤ 4000 by dsimp only at hl1; omega) (Nat.le_of_ble_eq_true rfl)
              have z4 : (lev.tail.reverse.map V.int).length + [V.int (lev.headD 0), .int (lev.headD 0), .int (lev.headD 0), .int (lev.headD 0)].length ≤ sizeLine := by
                rw [List.length_map, List.length_reverse, List.length_tail]
                exact Nat.le_trans (show lev.length - 1 + 4 ≤ 4000 by dsimp only at hl2; omega) (Nat.le_of_ble_eq_true rfl)
              cases hs : (stepL.lookup wd).isSome with
              | true =>
                walk_at "w"
                exact ⟨⟨sLook :: due.tail, (lev.headD 0 + 1) :: lev.tail, start + wd.length + 1, many + 1, imax deep (lev.headD 0 + 1)⟩, pd, pl, _, _, by unfold lawStep; exact if_pos ⟨hL, hs⟩, rfl, (hS2.setd (by simp)).setl (by simp)⟩
              | false =>
                have hs' : ¬ (stepL.lookup wd).isSome = true := by rw [hs]; exact Bool.false_ne_true
                walk_at "w"
                refine iteB (fun h2 => ?_) (fun h2 => ?_)
                · have h2 : wd = sOpen := V.str.inj (of_decide_eq_true h2)
                  walk_at "w"
                  rename_i T2 m2 T3 m3 T4 m4 T5 m5
                  exact ⟨⟨sLook :: sSign :: sLook :: sClose :: due.tail, lev.headD 0 :: lev.headD 0 :: lev.headD 0 :: lev.headD 0 :: lev.tail, start + wd.length + 1, many + 1, deep⟩, T3, T5, _, _, by unfold lawStep; exact (if_neg fun z => hs' z.2).trans (if_pos ⟨hL, h2⟩), rfl, (((hS2.fresh m2).newd m3 (by simp)).fresh m4).newl m5 (by simp)⟩
                · have h2 : ¬ wd = sOpen := fun e => of_decide_eq_false h2 (congrArg _ e)
                  walk_at "w"
                  rename_i T2 m2
                  replace hS2 := hS2.fresh (o := .tup [.str "all", .str "none"]) m2
                  rw [in2]
                  refine iteB (fun h3 => ?_) (fun h3 => ?_)
                  · have h3 : leafB wd = true := h3
                    walk_at "w"
                    exact ⟨⟨due.tail, lev.tail, start + wd.length + 1, many + 1, imax deep (lev.headD 0)⟩, pd, pl, _, _, by unfold lawStep; exact (if_neg fun z => hs' z.2).trans ((if_neg fun z => h2 z.2).trans (if_pos ⟨hL, h3⟩)), rfl, hS2⟩
                  · have h3 : ¬ leafB wd = true := by rw [show leafB wd = false from h3]; exact Bool.false_ne_true
                    have hbad : lawStep ⟨due, lev, start, many, deep⟩ wd = none := by
                      unfold lawStep
                      exact (if_neg fun z => hs' z.2).trans ((if_neg fun z => h2 z.2).trans ((if_neg fun z => h3 z.2).trans (if_pos (.inr (.inr (.inl hL))))))
                    walk_at "w"
                    refine iteB (fun h4 => ?_) (fun h4 => ?_)
                    all_goals
                      walk_at "w"
                      exact hrt _ _ (bad hbad _ _ hS2.s (by assumption))
            · have hb : decide (V.str (due.headD sNo) = V.str "look") = false := decide_eq_false fun e => hL (V.str.inj e)
              have hb' : ¬ due.headD sNo = sLook := hL
              have go : ¬ (due.headD sNo = sNo ∨ wd = sNo ∨ due.headD sNo = sLook ∨ (due.headD sNo = sClose ∧ ¬ wd = sClose) ∨ (due.headD sNo = sSign ∧ ¬ opB wd = true)) →
                  lawStep ⟨due, lev, start, many, deep⟩ wd = some ⟨due.tail, lev.tail, start + wd.length + 1, many + 1, deep⟩ := fun z => by
                unfold lawStep
                exact (if_neg fun z => hL z.1).trans ((if_neg fun z => hL z.1).trans ((if_neg fun z => hL z.1).trans (if_neg z)))
              have no : (due.headD sNo = sNo ∨ wd = sNo ∨ due.headD sNo = sLook ∨ (due.headD sNo = sClose ∧ ¬ wd = sClose) ∨ (due.headD sNo = sSign ∧ ¬ opB wd = true)) → lawStep ⟨due, lev, start, many, deep⟩ wd = none := fun z => by
                unfold lawStep
                exact (if_neg fun z => hL z.1).trans ((if_neg fun z => hL z.1).trans ((if_neg fun z => hL z.1).trans (if_pos z)))
              walk_at "w"
              refine iteB (fun c1 => ?_) (fun c1 => ?_)
              · have c1 : due.headD sNo = sNo := V.str.inj (of_decide_eq_true c1)
                walk_at "w"
                exact hrt _ _ (bad (no (.inl c1)) _ _ hS2.s (by assumption))
              have c1 : ¬ due.headD sNo = sNo := fun e => of_decide_eq_false c1 (congrArg _ e)
              walk_at "w"
              refine iteB (fun c2 => ?_) (fun c2 => ?_)
              · have c2 : wd = sNo := V.str.inj (of_decide_eq_true c2)
                walk_at "w"
                exact hrt _ _ (bad (no (.inr (.inl c2))) _ _ hS2.s (by assumption))
              have c2 : ¬ wd = sNo := fun e => of_decide_eq_false c2 (congrArg _ e)
              walk_at "w"
              refine iteB (fun c3 => ?_) (fun c3 => ?_)
              · have c3 : due.headD sNo = sClose := V.str.inj (of_decide_eq_true c3)
                walk_at "w"
                refine iteB (fun c4 => ?_) (fun c4 => ?_)
                · have c4 : ¬ wd = sClose := fun e => by rw [e] at c4; revert c4; decide +kernel
                  walk_at "w"
                  exact hrt _ _ (bad (no (.inr (.inr (.inr (.inl ⟨c3, c4⟩))))) _ _ hS2.s (by assumption))
                · have c4 : wd = sClose := by
                    have := c4
                    simp only [Bool.not_eq_false', decide_eq_true_eq] at this
                    exact V.str.inj this
                  rw [c3]
                  walk_at "w"
                  refine ⟨_, pd, pl, _, _, go ?_, rfl, hS2⟩
                  rintro (z | z | z | z | z)
                  · exact c1 z
                  · exact c2 z
                  · exact hL z
                  · exact z.2 c4
                  · exact absurd (c3.symm.trans z.1) (by show ¬ sClose = sSign; decide +kernel)
              have c3 : ¬ due.headD sNo = sClose := fun e => of_decide_eq_false c3 (congrArg _ e)
              walk_at "w"
              refine iteB (fun c5 => ?_) (fun c5 => ?_)
              · have c5 : due.headD sNo = sSign := V.str.inj (of_decide_eq_true c5)
                walk_at "w"
                rename_i T1 m1
                replace hS2 := hS2.fresh (o := .tup [.str "+", .str "&"]) m1
                refine ⟨T1, _, rfl, .inr (SqT.of upd_same), rfl, rfl, ?_⟩
                rw [if_pos rfl, in2]
                cases ho : opB wd with
                | true =>
                  rw [show (decide (wd = "+") || decide (wd = "&")) = true from ho]
                  walk_at "w"
                  refine ⟨_, pd, pl, _, _, go ?_, rfl, hS2⟩
                  rintro (z | z | z | z | z)
                  · exact c1 z
                  · exact c2 z
                  · exact hL z
                  · exact c3 z.1
                  · exact z.2 ho
                | false =>
                  rw [show (decide (wd = "+") || decide (wd = "&")) = false from ho]
                  walk_at "w"
                  exact hrt _ _ (bad (no (.inr (.inr (.inr (.inr ⟨c5, by rw [ho]; exact Bool.false_ne_true⟩))))) _ _ hS2.s (by assumption))
              · have c5 : ¬ due.headD sNo = sSign := fun e => of_decide_eq_false c5 (congrArg _ e)
                walk_at "w"
                refine ⟨_, pd, pl, _, _, go ?_, rfl, hS2⟩
                rintro (z | z | z | z | z)
                · exact c1 z
                · exact c2 z
                · exact hL z
                · exact c3 z.1
                · exact c5 z.1
          · rintro σ4 H4 ⟨L', pd', pl', x7, x8, hL, rfl, hS4⟩
            have hwl : wd.length ≤ 1000 := Nat.le_trans (part_short (List.mem_of_getElem? hwd)) (by omega)
            walk_at "w"
            have h1 := lawStep_len hL
            refine hnx _ _ ⟨L', pd', pl', some (.str wd), x7, x8, ?_, by rw [← hrun]; exact (lawRun_some hL).symm, hS4, lawStep_due hL hdk, by dsimp only at hl1 h1; omega, by dsimp only at hl2 h1; omega⟩
            rw [lawStep_start hL]
            rfl
    · obtain ⟨L, pd, pl, x6, x7, x8, rfl, hrun, hS, hdk, _⟩ := h
      rw [List.length_map, List.drop_length] at hrun
      have hd := hS.d
      have hfd := due_flat hdk
      have hx' : x.length ≤ 1000 := by omega
      walk_at "w"
      rename_i T1 m1
      have hS1 := hS.fresh (o := .lst []) m1
      cases hdue : L.due with
      | nil =>
        have hr : lawRun L [] = .made L.many L.deep := if_pos hdue
        refine iteTk rfl ?_
        walk_at "w"
        rename_i T2 m2
        refine k T2 _ (Same.new hS1.s m2) ?_
        rw [upd_same]
        unfold lawRes
        rw [← hrun, hr]
        rfl
      | cons z ds =>
        have hr : lawRun L [] = .short := if_neg (by rw [hdue]; simp)
        refine iteFk (by simp) ?_
        walk_at "w"
        rename_i T2 m2
        refine k T2 _ (Same.new hS1.s m2) ?_
        rw [upd_same]
        unfold lawRes
        rw [← hrun, hr]
        rfl
end
end K9
set_option Elab.async false
set_option linter.all false
set_option maxRecDepth 100000
set_option maxHeartbeats 4000000
namespace K9
open PySem PySem.Spec PyProof.Rows L2
/-! ### steps through a reading -/
/-- H a = some o, where H is told by its stores -/
local macro_rules | `(tactic| walk_at "look") => `(tactic| first
  | assumption
  | exact upd_same
  | (refine Eq.trans (upd_ne ?_) ?_ <;> first
      | assumption
      | exact Ne.symm (by assumption)
      | exact ne_nw (by assumption) (by walk_at "look")
      | exact Ne.symm (ne_nw (by assumption) (by walk_at "look"))
      | walk_at "look"))
local macro_rules | `(tactic| walk_at "sq") => `(tactic| first
  | assumption
  | exact SqL.of (by walk_at "look")
  | exact SqT.of (by walk_at "look"))
local macro_rules | `(tactic| walk_at "c") => `(tactic| first
  | decide
  | omega
  | assumption
  | exact Or.inr ⟨by decide, by decide⟩
  | exact ⟨by decide, by decide⟩
  | exact Nat.le_of_ble_eq_true rfl
  | exact line1000 (by assumption)
  | (intro z; omega)
  | (dsimp only; first | assumption | omega)
  | (constructor <;> first | decide | omega))
local macro_rules | `(tactic| walk_at "fl") => `(tactic| first
  | assumption
  | rfl
  | exact flat_ints _
  | decide +kernel
  | (simp only [List.all_map, List.all_cons, List.all_nil]; rfl))
local macro_rules | `(tactic| walk_at "ty") => `(tactic| first
  | exact TyX.base (TyOf.str _)
  | exact TyX.base (TyOf.int _)
  | exact TyX.base (TyOf.bl _)
  | exact TyX.base TyOf.non
  | exact TyX.base (TyOf.tup (by walk_at "look"))
  | exact TyX.base (TyOf.lst (by walk_at "look"))
  | exact TyX.base (TyOf.dK (by walk_at "look")))
local macro_rules | `(tactic| walk_at "kit") => `(tactic| first
  | assumption
  | exact kit_str_bool
  | exact kit_str_int
  | exact kit_str_str
  | exact kit_str_dict
  | exact kit_str_list
  | exact kit_str_tuple
  | exact kit_int_bool
  | exact kit_int_int
  | exact kit_int_str
  | exact kit_int_dict
  | exact kit_int_list
  | exact kit_int_tuple
  | exact kit_bool_bool
  | exact kit_bool_int
  | exact kit_bool_str
  | exact kit_bool_dict
  | exact kit_bool_list
  | exact kit_bool_tuple
  | exact kit_list_bool
  | exact kit_list_int
  | exact kit_list_str
  | exact kit_list_dict
  | exact kit_list_list
  | exact kit_list_tuple
  | exact kit_tuple_bool
  | exact kit_tuple_int
  | exact kit_tuple_str
  | exact kit_tuple_dict
  | exact kit_tuple_list
  | exact kit_tuple_tuple
  | exact kit_dict_bool
  | exact kit_dict_int
  | exact kit_dict_str
  | exact kit_dict_dict
  | exact kit_dict_list
  | exact kit_dict_tuple
  | exact kit_NoneType_bool
  | exact kit_NoneType_int
  | exact kit_NoneType_str
  | exact kit_NoneType_dict
  | exact kit_NoneType_list
  | exact kit_NoneType_tuple)
local macro_rules | `(tactic| walk_at "len") => `(tactic| (refine sline ?_; (try simp only [slen, show ("( " : Str).length = 2 from rfl, show (" " : Str).length = 1 from rfl, show (" )" : Str).length = 2 from rfl, show Str.empty.length = 0 from rfl]); omega))
local macro_rules | `(tactic| walk_at "w1") => `(tactic| (first
  | ((with_reducible apply tVar_i); exact rfl)
  | with_reducible refine tC_i ?_
  | with_reducible refine tCons_i ?_
  | with_reducible refine tNil_i ?_
  | with_reducible refine tOp_i ?_
  | with_reducible refine tSeq_i ?_
  | with_reducible refine tAsg_i ?_
  | with_reducible refine tDrop_i ?_
  | with_reducible refine tRet_i ?_
  | with_reducible refine tNext_i ?_
  | with_reducible refine tIfS_i ?_
  | with_reducible refine tIf_i ?_
  | with_reducible refine tTest_i ?_
  | with_reducible refine tB_i ?_
  | with_reducible refine tNot_i ?_
  | with_reducible refine tAnd_i ?_
  | with_reducible refine tOr_i ?_
  | with_reducible refine tAndV_i ?_
  | with_reducible refine tOrV_i ?_
  | with_reducible refine tNotV_i ?_
  | with_reducible refine tNotT_i ?_
  | with_reducible refine tUn_i ?_
  | with_reducible refine tCB_i ?_
  | with_reducible refine tCall_i ?_
  | with_reducible refine tTup_i ?_
  | with_reducible refine tLst_i ?_
  | with_reducible refine tPar_i ?_
  | with_reducible refine tPar3_i ?_
  | with_reducible refine tSl_i ?_
  | with_reducible refine bl_i ?_
  | with_reducible refine tFor_i ?_
  | with_reducible refine tLc_i ?_
  | with_reducible refine iEnum_i ?_
  | with_reducible refine iList_i ?_
  | with_reducible refine iTup_i ?_
  | with_reducible refine iRng1_i ?_
  | ((with_reducible apply enum_i); walk_at "sq")
  | ((with_reducible apply list_i); walk_at "sq")
  | ((with_reducible apply tup_i); walk_at "sq")
  | ((with_reducible refine rng1_i ?_ ?_); walk_at "c")
  | with_reducible refine par2_i ?_
  | with_reducible refine par3_i ?_
  | with_reducible refine gName_i ?_
  | with_reducible refine gc_i ?_
  | with_reducible refine gNil_i ?_
  | with_reducible refine rI0_i ?_
  | with_reducible refine rU_i ?_
  | with_reducible refine max2_i ?_
  | with_reducible refine tM1_i ?_
  | with_reducible refine tM0_i ?_
  | with_reducible refine str_i ?_
  | with_reducible refine tBM_iL ?_
  | with_reducible refine tBM0_iL ?_
  | ((with_reducible refine rEq_i ?_ ?_); exact rfl)
  | ((with_reducible refine rNe_i ?_ ?_); exact rfl)
  | ((with_reducible refine rI_i ?_ ?_); walk_at "c")
  | ((with_reducible apply ty_i); walk_at "sq")
  | ((with_reducible apply gTup_i); walk_at "sq"; exact rfl)
  | ((with_reducible apply rIxL_i); walk_at "sq"; first | exact rfl | assumption)
  | ((with_reducible apply rIxT_i); walk_at "sq"; first | exact rfl | assumption)
  | ((with_reducible apply rInT_i); walk_at "sq"; exact rfl; exact rfl)
  | ((with_reducible apply rInL_i); walk_at "sq"; exact rfl; exact rfl)
  | with_reducible refine gSub_i ?_
  | with_reducible refine tJs1_i ?_
  | with_reducible refine tJs0_i ?_
  | with_reducible refine tFmt_i ?_
  | ((with_reducible refine fmtS_i ?_ ?_); walk_at "len")
  | ((with_reducible refine js_i ?_ ?_); walk_at "len")
  | ((with_reducible apply rCat_i); walk_at "look"; walk_at "look"; walk_at "c")
  | ((with_reducible apply rIsi_i); walk_at "ty"; walk_at "kit")
  | ((with_reducible apply rNe_nil); walk_at "sq"; walk_at "fl"; walk_at "sq")
  | ((with_reducible apply rEq_nil); walk_at "sq"; walk_at "fl"; walk_at "sq")
  | with_reducible refine tDisp_i ?_
  | with_reducible refine tPairs0_i ?_
  | with_reducible refine tPairs1_i ?_
  | ((with_reducible apply disp1_i); walk_at "look")
  | ((with_reducible apply disp2_i); walk_at "look")
  | with_reducible refine tFld_i ?_
  | with_reducible refine sFld_i ?_
  | ((with_reducible apply fld_i); walk_at "look"; assumption; assumption; first | exact rfl | assumption)
  | ((with_reducible apply sfld_i); walk_at "look"; assumption; assumption; walk_at "c")
  | with_reducible refine tRevL_i ?_
  | ((with_reducible apply rev_i); walk_at "sq")
  | ((with_reducible apply rSetL_i); walk_at "look"; first | exact rfl | assumption)
  | ((with_reducible apply rIxK_i); assumption; assumption)
  | ((with_reducible apply rInK_i); assumption)
  | ((with_reducible apply rAppend_i); walk_at "look"; walk_at "c")
  | ((with_reducible apply rPop_i); walk_at "look"; first | exact rfl | assumption)
  | ((with_reducible apply len_i); walk_at "sq")
  | ((with_reducible apply lenT_i); walk_at "sq")
  | ((with_reducible apply rSlL_i); walk_at "sq")
  | with_reducible refine iteT ?_
  | with_reducible refine iteF ?_
  | ((with_reducible refine iteTk ?_ ?_); assumption)
  | ((with_reducible refine iteFk ?_ ?_); assumption)
  | ((with_reducible refine iteTk ?_ ?_); decide +kernel)
  | ((with_reducible refine iteFk ?_ ?_); decide +kernel)
  | ((with_reducible refine iteTk ?_ ?_); exact rfl)
  | ((with_reducible refine iteFk ?_ ?_); exact rfl)
  | with_reducible refine fun (p : Addr) (n : _ = none) => ?_
  | with_reducible refine Or.inl ⟨_, rfl, ?_⟩
  | with_reducible refine ⟨_, rfl, ?_⟩
  | with_reducible refine ⟨_, _, rfl, rfl, ?_⟩
  | ((with_reducible refine ⟨_, _, _, _, _, rfl, ClsV.ty _, ?_, ?_, ?_⟩); walk_at "ty"; walk_at "kit")
  | ((with_reducible refine And.intro ?_ ?_); walk_at "c")))
local macro_rules | `(tactic| walk_at "w") => `(tactic| repeat (walk_at "w1"))
local macro_rules | `(tactic| walk_at "but") => `(tactic| first
  | assumption
  | exact But.refl _ _
  | (refine But.upd ?_; walk_at "but")
  | (refine But.new ?_ (by assumption); walk_at "but"))
local macro_rules | `(tactic| walk_at "same") => `(tactic| first
  | assumption
  | exact Same.refl _
  | (refine Same.new ?_ (by assumption); walk_at "same")
  | (refine Same.trans (by assumption) ?_; walk_at "same"))
local macro_rules | `(tactic| walk_at "x") => `(tactic| (dsimp only [Cx.nox, Cx.wish, cxOf, L2H.cxH]))
/-! ### a list of nodes and the trees that they make -/
abbrev Nd := Str × Int × Int
def ndV (n : Nd) : List V := [.str n.1, .int n.2.1, .int n.2.2]
inductive Node (ts : List LT) : Nd → LT → Prop
  | leaf {s : Str} (h : leafB s = true) : Node ts (s, -1, -1) (.leaf s)
  | step {s : Str} {j : Nat} {t : LT} (h : (stepL.lookup s).isSome = true) (e : ts[j]? = some t) : Node ts (s, (j : Int), -1) (.step s t)
  | bin {s : Str} {j k : Nat} {a b : LT} (h : opB s = true) (e1 : ts[j]? = some a) (e2 : ts[k]? = some b) : Node ts (s, (j : Int), (k : Int)) (.bin s a b)
structure Built (nds : List Nd) (ts : List LT) : Prop where
  len : nds.length = ts.length
  at_ : ∀ (i : Nat) (n : Nd) (t : LT), nds[i]? = some n → ts[i]? = some t → Node (ts.take i) n t
theorem Built.nil : Built [] [] := ⟨rfl, fun i n t h => by simp at h⟩
theorem Built.snoc {nds : List Nd} {ts : List LT} {n : Nd} {t : LT} (h : Built nds ts) (e : Node ts n t) : Built (nds ++ [n]) (ts ++ [t]) := by
  refine ⟨by rw [List.length_append, List.length_append, h.len]; rfl, fun i m u h1 h2 => ?_⟩
  by_cases hi : i < ts.length
  · rw [List.getElem?_append_left (by rw [h.len]; exact hi)] at h1
    rw [List.getElem?_append_left hi] at h2
    rw [List.take_append_of_le_length (Nat.le_of_lt hi)]
    exact h.at_ i m u h1 h2
  · have h3 := (List.getElem?_eq_some_iff.mp h2).1
    rw [List.length_append, List.length_singleton] at h3
    obtain rfl : i = ts.length := by omega
    rw [List.getElem?_append_right (Nat.le_refl _), Nat.sub_self] at h2
    rw [← h.len, List.getElem?_append_right (Nat.le_refl _), Nat.sub_self] at h1
    cases Option.some.inj h1
    cases Option.some.inj h2
    rw [List.take_append_of_le_length (Nat.le_refl _), List.take_length]
    exact e
def LT.txt : LT → Str
  | .leaf s => s
  | .step s t => ((Str.empty ++ s) ++ (" " : Str)) ++ t.txt
  | .bin s a b => ((((((Str.empty ++ ("( " : Str)) ++ a.txt) ++ (" " : Str)) ++ s) ++ (" " : Str)) ++ b.txt) ++ (" )" : Str)
abbrev s_say : Stmt := (top 50)
abbrev s_deep : Stmt := (top 51)
abbrev s_exl : Stmt := (top 52)
theorem scSay : FnScope ["tree", "made", "sign", "j", "k"] ["tree"] (defScope (top 50)) := ⟨rfl, rfl, rfl, by decide +kernel, rfl, by decide +kernel, by decide +kernel⟩
theorem scDeep : FnScope ["tree", "made", "sign", "j", "k"] ["tree"] (defScope (top 51)) := ⟨rfl, rfl, rfl, by decide +kernel, rfl, by decide +kernel, by decide +kernel⟩
theorem scExl : FnScope ["tree", "words", "sign", "j", "k"] ["tree", "words"] (defScope (top 52)) := ⟨rfl, rfl, rfl, by decide +kernel, rfl, by decide +kernel, by decide +kernel⟩
def spSay : Sp := fun vs H Q _ => ∃ (p : Addr) (nds : List Nd) (ts : List LT) (t : LT), vs = [.ref p] ∧ LR H p (nds.map ndV) ∧ Built nds ts ∧ ts.length ≤ 1000 ∧ (∀ u ∈ ts, u.txt.length ≤ 400) ∧ ts[ts.length - 1]? = some t ∧ ∀ H', Same H H' → Q (.str t.txt) H'
def spDeep : Sp := fun vs H Q _ => ∃ (p : Addr) (nds : List Nd) (ts : List LT) (t : LT), vs = [.ref p] ∧ LR H p (nds.map ndV) ∧ Built nds ts ∧ ts.length ≤ 1000 ∧ ts[ts.length - 1]? = some t ∧ ∀ H', Same H H' → Q (.int t.dep) H'
theorem LRa.item {H : Hp} {p : Addr} {as : List Addr} {rows : List (List V)} (h : LRa H p as rows) {i : Nat} {x : V} (hi : (as.map V.ref)[i]? = some x) : ∃ a r, x = .ref a ∧ rows[i]? = some r ∧ H a = some (.tup r) := by
  rw [List.getElem?_map] at hi
  obtain ⟨a, ha, rfl⟩ := Option.map_eq_some_iff.mp hi
  have hl := (List.getElem?_eq_some_iff.mp ha).1
  rw [h.len] at hl
  exact ⟨a, rows[i], rfl, List.getElem?_eq_getElem hl, paired_get h.r ha (List.getElem?_eq_getElem hl)⟩
theorem take_get {α : Type} {l : List α} {i j : Nat} {x : α} (h : (l.take i)[j]? = some x) : l[j]? = some x := by
  rw [List.getElem?_take] at h
  split at h
  · exact h
  · cases h
theorem atI_end {α : Type} {xs : List α} {v : α} (h : xs[xs.length - 1]? = some v) : atI xs (-1) = some v := by
  have hl := (List.getElem?_eq_some_iff.mp h).1
  have hne : xs ≠ [] := fun e => by rw [e] at hl; simp at hl
  have e : xs = xs.dropLast ++ [v] := by
    have h2 := List.dropLast_concat_getLast hne
    rw [List.getLast_eq_getElem] at h2
    rw [List.getElem?_eq_getElem hl] at h
    rw [Option.some.inj h] at h2
    exact h2.symm
  rw [e]
  exact atI_last _ _
section
variable {P : Program} {w : World} {K : PySem.W.Frag} {mg : Str → Option Value} {base : Heap} {f : Addr} {fd : FuncData}
theorem ok_deep (Z : Free mg) (F : FnP K "_law_deep" "_law_deep" s_deep [] f fd) : FnOk P w K mg base CX0 1 f fd ["tree"] spDeep := by
  refine F.ok scDeep (fun vs H Q E h => ?_) (fun cdv A outer s H vs Q E hr h => ?_)
  · obtain ⟨a, b, c, d, rfl, _⟩ := h
    rfl
  · have hu := hu_of hr
    obtain ⟨p, nds, ts, t, rfl, ⟨as, l0⟩, hB, hl, hlast, k⟩ := h
    have h0 := l0.l
    refine ⟨_, PSs.nox (pss_cons (ps_set (i := 1) scDeep.nd rfl (Or.inl rfl) (pe_lst pa_nil))
      (pss_cons (ps_for PassesOwn.never rfl (pi_list (pv 0)) (pg_tup rfl (pgs_cons (pg_name (i := 2) scDeep.nd rfl (Or.inl rfl)) (pgs_cons (pg_name (i := 3) scDeep.nd rfl (Or.inl rfl)) (pgs_cons (pg_name (i := 4) scDeep.nd rfl (Or.inl rfl)) pgs_nil)))) 
        (pss_one (ps_if (pt_cmpR op_ge (pv 4) pe_int (nomark _)) 
          (pss_one (ps_expr (pe_bm PySem.F.plainAttrs_list PySem.F.slot_list_append PySem.F.type_list_append mt_append (pv 1) (pa_cons (pe_callB (call_max2 rfl) (by rfl) Z.max (by decide +kernel) (pa_cons (pe_ix ix_list (pv 1) (pv 3) (fun _ _ => rfl)) (pa_cons (pe_ix ix_list (pv 1) (pv 4) (fun _ _ => rfl)) pa_nil))) pa_nil)))) 
          (pss_one (ps_expr (pe_bm PySem.F.plainAttrs_list PySem.F.slot_list_append PySem.F.type_list_append mt_append (pv 1) (pa_cons (pe_ifExp (pt_cmpR op_ge (pv 3) pe_int (nomark _)) (pe_op op_add (pe_ix ix_list (pv 1) (pv 3) (fun _ _ => rfl)) pe_int) pe_int) pa_nil)))))))
      (pss_one (ps_ret (pe_ix ix_list (pv 1) (pe_un un_neg pe_int) (fun _ _ => rfl)))))), ?_⟩
    walk_at "w"
    rename_i p1 n1
    have hlen := l0.len
    rw [List.length_map] at hlen
    refine for_list (xs := as.map V.ref) (fun i σ' H' => ∃ (x2 x3 x4 : Option V), σ' = [some (.ref p), some (.ref p1), x2, x3, x4] ∧ Same H H' ∧ H' p1 = some (.lst ((ts.take i).map fun t => V.int t.dep))) ?_ (fun i σ' H' hi h => ?_) (fun i x σ' H1 hi h => ?_) (fun σ' H' h => ?_)
    · exact ⟨none, none, none, rfl, by walk_at "same", by walk_at "look"⟩
    · obtain ⟨x2, x3, x4, rfl, s1, _⟩ := h
      exact SqL.of (s1 _ _ h0)
    · obtain ⟨x2, x3, x4, rfl, s1, h1⟩ := h
      obtain ⟨a, r, rfl, hr2, ha⟩ := (l0.same s1).item hi
      rw [List.getElem?_map] at hr2
      obtain ⟨nd, hnd, rfl⟩ := Option.map_eq_some_iff.mp hr2
      have hi' : i < ts.length := by rw [← hB.len]; exact (List.getElem?_eq_some_iff.mp hnd).1
      have ht := List.getElem?_eq_getElem hi'
      have hN := hB.at_ i nd _ hnd ht
      generalize ts[i] = u at hN ht
      have ha : H1 a = some (.tup [.str nd.1, .int nd.2.1, .int nd.2.2]) := ha
      refine gTup_i (SqT.of ha) rfl (gc_i (gc_i (gc_i (gNil_i ?_))))
      refine abs_ends rfl rfl fun D hnx hrt => ?_
      replace hnx : ∀ σ' H', (∃ (x2 x3 x4 : Option V), σ' = [some (.ref p), some (.ref p1), x2, x3, x4] ∧ Same H H' ∧ H' p1 = some (.lst ((ts.take (i + 1)).map fun t => V.int t.dep))) → D.nx σ' H' := hnx
      have z1 : ((ts.take i).map fun t => V.int t.dep).length < sizeLine := by
        rw [List.length_map, List.length_take]
        exact small1000 (by omega)
      have fin : ∀ x2 x3 x4, D.nx [some (.ref p), some (.ref p1), x2, x3, x4] (upd H1 p1 (.lst (((ts.take i).map fun t => V.int t.dep) ++ [.int u.dep]))) := fun x2 x3 x4 =>
        hnx _ _ ⟨x2, x3, x4, rfl, sameU s1 n1, by rw [upd_same, List.take_add_one, ht, List.map_append]; rfl⟩
      cases hN with
      | leaf hs =>
        walk_at "w"
        exact fin _ _ _
      | @step s j t' hs e =>
        have hj : atI ((ts.take i).map fun t => V.int t.dep) (j : Int) = some (.int t'.dep) := atI_nat (by rw [List.getElem?_map, e]; rfl)
        walk_at "w"
        exact fin _ _ _
      | @bin s j k2 a2 b2 hs e1 e2 =>
        have hj : atI ((ts.take i).map fun t => V.int t.dep) (j : Int) = some (.int a2.dep) := atI_nat (by rw [List.getElem?_map, e1]; rfl)
        have hk : atI ((ts.take i).map fun t => V.int t.dep) (k2 : Int) = some (.int b2.dep) := atI_nat (by rw [List.getElem?_map, e2]; rfl)
        walk_at "w"
        exact fin _ _ _
    · obtain ⟨x2, x3, x4, rfl, s1, h1⟩ := h
      rw [List.length_map, hlen, hB.len, List.take_length] at h1
      have hz : atI (ts.map fun t => V.int t.dep) (-1) = some (.int t.dep) := atI_end (by rw [List.length_map, List.getElem?_map, hlast]; rfl)
      walk_at "w"
      exact k _ s1
theorem ok_say (Z : Free mg) (F : FnP K "_law_say" "_law_say" s_say [] f fd) : FnOk P w K mg base CX0 1 f fd ["tree"] spSay := by
  refine F.ok scSay (fun vs H Q E h => ?_) (fun cdv A outer s H vs Q E hr h => ?_)
  · obtain ⟨a, b, c, d, rfl, _⟩ := h
    rfl
  · have hu := hu_of hr
    obtain ⟨p, nds, ts, t, rfl, ⟨as, l0⟩, hB, hl, htx, hlast, k⟩ := h
    have h0 := l0.l
    refine ⟨_, PSs.nox (pss_cons (ps_set (i := 1) scSay.nd rfl (Or.inl rfl) (pe_lst pa_nil))
      (pss_cons (ps_for PassesOwn.never rfl (pi_list (pv 0)) (pg_tup rfl (pgs_cons (pg_name (i := 2) scSay.nd rfl (Or.inl rfl)) (pgs_cons (pg_name (i := 3) scSay.nd rfl (Or.inl rfl)) (pgs_cons (pg_name (i := 4) scSay.nd rfl (Or.inl rfl)) pgs_nil)))) 
        (pss_one (ps_if (pt_cmpR op_ge (pv 4) pe_int (nomark _)) 
          (pss_one (ps_expr (pe_bm PySem.F.plainAttrs_list PySem.F.slot_list_append PySem.F.type_list_append mt_append (pv 1) (pa_cons (pe_joined (PJ.cons pe_str (PJ.cons (pe_fmt (pe_ix ix_list (pv 1) (pv 3) (fun _ _ => rfl))) (PJ.cons pe_str (PJ.cons (pe_fmt (pv 2)) (PJ.cons pe_str (PJ.cons (pe_fmt (pe_ix ix_list (pv 1) (pv 4) (fun _ _ => rfl))) (PJ.cons pe_str PJ.nil)))))))) pa_nil)))) 
          (pss_one (ps_if (pt_cmpR op_ge (pv 3) pe_int (nomark _)) 
            (pss_one (ps_expr (pe_bm PySem.F.plainAttrs_list PySem.F.slot_list_append PySem.F.type_list_append mt_append (pv 1) (pa_cons (pe_joined (PJ.cons (pe_fmt (pv 2)) (PJ.cons pe_str (PJ.cons (pe_fmt (pe_ix ix_list (pv 1) (pv 3) (fun _ _ => rfl))) PJ.nil)))) pa_nil)))) 
            (pss_one (ps_expr (pe_bm PySem.F.plainAttrs_list PySem.F.slot_list_append PySem.F.type_list_append mt_append (pv 1) (pa_cons (pv 2) pa_nil)))))))))
      (pss_one (ps_ret (pe_ix ix_list (pv 1) (pe_un un_neg pe_int) (fun _ _ => rfl)))))), ?_⟩
    walk_at "w"
    rename_i p1 n1
    have hlen := l0.len
    rw [List.length_map] at hlen
    refine for_list (xs := as.map V.ref) (fun i σ' H' => ∃ (x2 x3 x4 : Option V), σ' = [some (.ref p), some (.ref p1), x2, x3, x4] ∧ Same H H' ∧ H' p1 = some (.lst ((ts.take i).map fun t => V.str t.txt))) ?_ (fun i σ' H' hi h => ?_) (fun i x σ' H1 hi h => ?_) (fun σ' H' h => ?_)
    · exact ⟨none, none, none, rfl, by walk_at "same", by walk_at "look"⟩
    · obtain ⟨x2, x3, x4, rfl, s1, _⟩ := h
      exact SqL.of (s1 _ _ h0)
    · obtain ⟨x2, x3, x4, rfl, s1, h1⟩ := h
      obtain ⟨a, r, rfl, hr2, ha⟩ := (l0.same s1).item hi
      rw [List.getElem?_map] at hr2
      obtain ⟨nd, hnd, rfl⟩ := Option.map_eq_some_iff.mp hr2
      have hi' : i < ts.length := by rw [← hB.len]; exact (List.getElem?_eq_some_iff.mp hnd).1
      have ht := List.getElem?_eq_getElem hi'
      have hN := hB.at_ i nd _ hnd ht
      generalize ts[i] = u at hN ht
      have ha : H1 a = some (.tup [.str nd.1, .int nd.2.1, .int nd.2.2]) := ha
      refine gTup_i (SqT.of ha) rfl (gc_i (gc_i (gc_i (gNil_i ?_))))
      refine abs_ends rfl rfl fun D hnx hrt => ?_
      replace hnx : ∀ σ' H', (∃ (x2 x3 x4 : Option V), σ' = [some (.ref p), some (.ref p1), x2, x3, x4] ∧ Same H H' ∧ H' p1 = some (.lst ((ts.take (i + 1)).map fun t => V.str t.txt))) → D.nx σ' H' := hnx
      have z1 : ((ts.take i).map fun t => V.str t.txt).length < sizeLine := by
        rw [List.length_map, List.length_take]
        exact small1000 (by omega)
      have fin : ∀ x2 x3 x4, D.nx [some (.ref p), some (.ref p1), x2, x3, x4] (upd H1 p1 (.lst (((ts.take i).map fun t => V.str t.txt) ++ [.str u.txt]))) := fun x2 x3 x4 =>
        hnx _ _ ⟨x2, x3, x4, rfl, sameU s1 n1, by rw [upd_same, List.take_add_one, ht, List.map_append]; rfl⟩
      cases hN with
      | leaf hs =>
        walk_at "w"
        exact fin _ _ _
      | @step s j t' hs e =>
        have hj : atI ((ts.take i).map fun t => V.str t.txt) (j : Int) = some (.str t'.txt) := atI_nat (by rw [List.getElem?_map, e]; rfl)
        have l1 : t'.txt.length ≤ 400 := htx _ (List.mem_of_mem_take (List.mem_of_getElem? e))
        have l2 : s.length ≤ 4 := by rcases step_cases hs with rfl | rfl | rfl | rfl <;> decide +kernel
        walk_at "w"
        exact fin _ _ _
      | @bin s j k2 a2 b2 hs e1 e2 =>
        have hj : atI ((ts.take i).map fun t => V.str t.txt) (j : Int) = some (.str a2.txt) := atI_nat (by rw [List.getElem?_map, e1]; rfl)
        have hk : atI ((ts.take i).map fun t => V.str t.txt) (k2 : Int) = some (.str b2.txt) := atI_nat (by rw [List.getElem?_map, e2]; rfl)
        have l1 : a2.txt.length ≤ 400 := htx _ (List.mem_of_mem_take (List.mem_of_getElem? e1))
        have l3 : b2.txt.length ≤ 400 := htx _ (List.mem_of_mem_take (List.mem_of_getElem? e2))
        have l2 : s.length ≤ 4 := by rcases op_cases hs with rfl | rfl <;> decide +kernel
        walk_at "w"
        exact fin _ _ _
    · obtain ⟨x2, x3, x4, rfl, s1, h1⟩ := h
      rw [List.length_map, hlen, hB.len, List.take_length] at h1
      have hz : atI (ts.map fun t => V.str t.txt) (-1) = some (.str t.txt) := atI_end (by rw [List.length_map, List.getElem?_map, hlast]; rfl)
      walk_at "w"
      exact k _ s1
end
end K9
set_option Elab.async false
set_option linter.all false
set_option maxRecDepth 100000
set_option maxHeartbeats 4000000
namespace K9
open PySem PySem.Spec PyProof.Rows L2
/-! ### steps through a reading -/
/-- H a = some o, where H is told by its stores -/
local macro_rules | `(tactic| walk_at "look") => `(tactic| first
  | assumption
  | exact upd_same
  | (refine Eq.trans (upd_ne ?_) ?_ <;> first
      | assumption
      | exact Ne.symm (by assumption)
      | exact ne_nw (by assumption) (by walk_at "look")
      | exact Ne.symm (ne_nw (by assumption) (by walk_at "look"))
      | walk_at "look"))
local macro_rules | `(tactic| walk_at "sq") => `(tactic| first
  | assumption
  | exact SqL.of (by walk_at "look")
  | exact SqT.of (by walk_at "look"))
local macro_rules | `(tactic| walk_at "c") => `(tactic| first
  | decide
  | omega
  | assumption
  | exact Or.inr ⟨by decide, by decide⟩
  | exact ⟨by decide, by decide⟩
  | exact Nat.le_of_ble_eq_true rfl
  | exact line1000 (by assumption)
  | (intro z; omega)
  | (dsimp only; first | assumption | omega)
  | (constructor <;> first | decide | omega))
local macro_rules | `(tactic| walk_at "fl") => `(tactic| first
  | assumption
  | rfl
  | exact flat_ints _
  | decide +kernel
  | (simp only [List.all_map, List.all_cons, List.all_nil]; rfl))
local macro_rules | `(tactic| walk_at "ty") => `(tactic| first
  | exact TyX.base (TyOf.str _)
  | exact TyX.base (TyOf.int _)
  | exact TyX.base (TyOf.bl _)
  | exact TyX.base TyOf.non
  | exact TyX.base (TyOf.tup (by walk_at "look"))
  | exact TyX.base (TyOf.lst (by walk_at "look"))
  | exact TyX.base (TyOf.dK (by walk_at "look")))
local macro_rules | `(tactic| walk_at "kit") => `(tactic| first
  | assumption
  | exact kit_str_bool
  | exact kit_str_int
  | exact kit_str_str
  | exact kit_str_dict
  | exact kit_str_list
  | exact kit_str_tuple
  | exact kit_int_bool
  | exact kit_int_int
  | exact kit_int_str
  | exact kit_int_dict
  | exact kit_int_list
  | exact kit_int_tuple
  | exact kit_bool_bool
  | exact kit_bool_int
  | exact kit_bool_str
  | exact kit_bool_dict
  | exact kit_bool_list
  | exact kit_bool_tuple
  | exact kit_list_bool
  | exact kit_list_int
  | exact kit_list_str
  | exact kit_list_dict
  | exact kit_list_list
  | exact kit_list_tuple
  | exact kit_tuple_bool
  | exact kit_tuple_int
  | exact kit_tuple_str
  | exact kit_tuple_dict
  | exact kit_tuple_list
  | exact kit_tuple_tuple
  | exact kit_dict_bool
  | exact kit_dict_int
  | exact kit_dict_str
  | exact kit_dict_dict
  | exact kit_dict_list
  | exact kit_dict_tuple
  | exact kit_NoneType_bool
  | exact kit_NoneType_int
  | exact kit_NoneType_str
  | exact kit_NoneType_dict
  | exact kit_NoneType_list
  | exact kit_NoneType_tuple)
local macro_rules | `(tactic| walk_at "len") => `(tactic| (refine sline ?_; (try simp only [slen, show ("( " : Str).length = 2 from rfl, show (" " : Str).length = 1 from rfl, show (" )" : Str).length = 2 from rfl, show Str.empty.length = 0 from rfl]); omega))
local macro_rules | `(tactic| walk_at "w1") => `(tactic| (first
  | ((with_reducible apply tVar_i); exact rfl)
  | with_reducible refine tC_i ?_
  | with_reducible refine tCons_i ?_
  | with_reducible refine tNil_i ?_
  | with_reducible refine tOp_i ?_
  | with_reducible refine tSeq_i ?_
  | with_reducible refine tAsg_i ?_
  | with_reducible refine tDrop_i ?_
  | with_reducible refine tRet_i ?_
  | with_reducible refine tNext_i ?_
  | with_reducible refine tIfS_i ?_
  | with_reducible refine tIf_i ?_
  | with_reducible refine tTest_i ?_
  | with_reducible refine tB_i ?_
  | with_reducible refine tNot_i ?_
  | with_reducible refine tAnd_i ?_
  | with_reducible refine tOr_i ?_
  | with_reducible refine tAndV_i ?_
  | with_reducible refine tOrV_i ?_
  | with_reducible refine tNotV_i ?_
  | with_reducible refine tNotT_i ?_
  | with_reducible refine tUn_i ?_
  | with_reducible refine tCB_i ?_
  | with_reducible refine tCall_i ?_
  | with_reducible refine tTup_i ?_
  | with_reducible refine tLst_i ?_
  | with_reducible refine tPar_i ?_
  | with_reducible refine tPar3_i ?_
  | with_reducible refine tSl_i ?_
  | with_reducible refine bl_i ?_
  | with_reducible refine tFor_i ?_
  | with_reducible refine tLc_i ?_
  | with_reducible refine iEnum_i ?_
  | with_reducible refine iList_i ?_
  | with_reducible refine iTup_i ?_
  | with_reducible refine iRng1_i ?_
  | ((with_reducible apply enum_i); walk_at "sq")
  | ((with_reducible apply list_i); walk_at "sq")
  | ((with_reducible apply tup_i); walk_at "sq")
  | ((with_reducible refine rng1_i ?_ ?_); walk_at "c")
  | with_reducible refine par2_i ?_
  | with_reducible refine par3_i ?_
  | with_reducible refine gName_i ?_
  | with_reducible refine gc_i ?_
  | with_reducible refine gNil_i ?_
  | with_reducible refine rI0_i ?_
  | with_reducible refine rU_i ?_
  | with_reducible refine max2_i ?_
  | with_reducible refine tM1_i ?_
  | with_reducible refine tM0_i ?_
  | with_reducible refine str_i ?_
  | with_reducible refine tBM_iL ?_
  | with_reducible refine tBM0_iL ?_
  | ((with_reducible refine rEq_i ?_ ?_); exact rfl)
  | ((with_reducible refine rNe_i ?_ ?_); exact rfl)
  | ((with_reducible refine rI_i ?_ ?_); walk_at "c")
  | ((with_reducible apply ty_i); walk_at "sq")
  | ((with_reducible apply gTup_i); walk_at "sq"; exact rfl)
  | ((with_reducible apply rIxL_i); walk_at "sq"; first | exact rfl | assumption)
  | ((with_reducible apply rIxT_i); walk_at "sq"; first | exact rfl | assumption)
  | ((with_reducible apply rInT_i); walk_at "sq"; exact rfl; exact rfl)
  | ((with_reducible apply rInL_i); walk_at "sq"; exact rfl; exact rfl)
  | with_reducible refine gSub_i ?_
  | with_reducible refine tJs1_i ?_
  | with_reducible refine tJs0_i ?_
  | with_reducible refine tFmt_i ?_
  | ((with_reducible refine fmtS_i ?_ ?_); walk_at "len")
  | ((with_reducible refine js_i ?_ ?_); walk_at "len")
  | ((with_reducible apply rCat_i); walk_at "look"; walk_at "look"; walk_at "c")
  | ((with_reducible apply rIsi_i); walk_at "ty"; walk_at "kit")
  | ((with_reducible apply rNe_nil); walk_at "sq"; walk_at "fl"; walk_at "sq")
  | ((with_reducible apply rEq_nil); walk_at "sq"; walk_at "fl"; walk_at "sq")
  | with_reducible refine tDisp_i ?_
  | with_reducible refine tPairs0_i ?_
  | with_reducible refine tPairs1_i ?_
  | ((with_reducible apply disp1_i); walk_at "look")
  | ((with_reducible apply disp2_i); walk_at "look")
  | with_reducible refine tFld_i ?_
  | with_reducible refine sFld_i ?_
  | ((with_reducible apply fld_i); walk_at "look"; assumption; assumption; first | exact rfl | assumption)
  | ((with_reducible apply sfld_i); walk_at "look"; assumption; assumption; walk_at "c")
  | with_reducible refine tRevL_i ?_
  | ((with_reducible apply rev_i); walk_at "sq")
  | ((with_reducible apply rSetL_i); walk_at "look"; first | exact rfl | assumption)
  | ((with_reducible apply rIxK_i); assumption; assumption)
  | ((with_reducible apply rInK_i); assumption)
  | ((with_reducible apply rAppend_i); walk_at "look"; walk_at "c")
  | ((with_reducible apply rPop_i); walk_at "look"; first | exact rfl | assumption)
  | ((with_reducible apply len_i); walk_at "sq")
  | ((with_reducible apply lenT_i); walk_at "sq")
  | ((with_reducible apply rSlL_i); walk_at "sq")
  | with_reducible refine iteT ?_
  | with_reducible refine iteF ?_
  | ((with_reducible refine iteTk ?_ ?_); assumption)
  | ((with_reducible refine iteFk ?_ ?_); assumption)
  | ((with_reducible refine iteTk ?_ ?_); decide +kernel)
  | ((with_reducible refine iteFk ?_ ?_); decide +kernel)
  | ((with_reducible refine iteTk ?_ ?_); exact rfl)
  | ((with_reducible refine iteFk ?_ ?_); exact rfl)
  | with_reducible refine fun (p : Addr) (n : _ = none) => ?_
  | with_reducible refine Or.inl ⟨_, rfl, ?_⟩
  | with_reducible refine ⟨_, rfl, ?_⟩
  | with_reducible refine ⟨_, _, rfl, rfl, ?_⟩
  | ((with_reducible refine ⟨_, _, _, _, _, rfl, ClsV.ty _, ?_, ?_, ?_⟩); walk_at "ty"; walk_at "kit")
  | ((with_reducible refine And.intro ?_ ?_); walk_at "c")))
local macro_rules | `(tactic| walk_at "w") => `(tactic| repeat (walk_at "w1"))
local macro_rules | `(tactic| walk_at "but") => `(tactic| first
  | assumption
  | exact But.refl _ _
  | (refine But.upd ?_; walk_at "but")
  | (refine But.new ?_ (by assumption); walk_at "but"))
local macro_rules | `(tactic| walk_at "same") => `(tactic| first
  | assumption
  | exact Same.refl _
  | (refine Same.new ?_ (by assumption); walk_at "same")
  | (refine Same.trans (by assumption) ?_; walk_at "same"))
local macro_rules | `(tactic| walk_at "x") => `(tactic| (dsimp only [Cx.nox, Cx.wish, cxOf, L2H.cxH]))
theorem tYes_i {σ : L2.St} {H : Hp} {Q : Bool → Hp → Prop} (k : Q true H) : tYes σ H Q := k
def exN (kvs : List (Str × Str)) (n : Nd) : Nd := ((kvs.lookup n.1).getD n.1, n.2)
def spExl : Sp := fun vs H Q _ => ∃ (p d : Addr) (nds : List Nd) (kvs : List (Str × Str)), vs = [.ref p, .ref d] ∧ LR H p (nds.map ndV) ∧ nds.length ≤ 1000 ∧ H d = some (.dK (kp (kvS kvs))) ∧ ∀ q H', Same H H' → LR H' q ((nds.map (exN kvs)).map ndV) → Q (.ref q) H'
section
variable {P : Program} {w : World} {K : PySem.W.Frag} {mg : Str → Option Value} {base : Heap} {f : Addr} {fd : FuncData}
theorem ok_exl (Z : Free mg) (F : FnP K "_law_exchanged" "_law_exchanged" s_exl [] f fd) : FnOk P w K mg base CX0 1 f fd ["tree", "words"] spExl := by
  refine F.ok scExl (fun vs H Q E h => ?_) (fun cdv A outer s H vs Q E hr h => ?_)
  · obtain ⟨a, b, c, d, rfl, _⟩ := h
    rfl
  · have hu := hu_of hr
    obtain ⟨p, d, nds, kvs, rfl, ⟨as, l0⟩, hl, hd, k⟩ := h
    have h0 := l0.l
    have hlen := l0.len
    rw [List.length_map] at hlen
    refine ⟨_, PSs.nox (pss_one (ps_ret (pe_lc (own := [("sign", 2), ("j", 3), ("k", 4)]) (g := (gTup K 3 (gCons (gName 2) (gCons (gName 3) (gCons (gName 4) gNil))))) (by rfl) scExl.nd (pi_list (pv 0)) (blkOk_by (own := [("sign", 2), ("j", 3), ("k", 4)]) (N := ["tree", "words", "sign", "j", "k"]) (sc := defScope (top 52)) (by decide +kernel)) (fun _ _ _ _ _ => (pg_tup rfl (pgs_cons (pg_name (i := 2) scExl.nd rfl (Or.inl rfl)) (pgs_cons (pg_name (i := 3) scExl.nd rfl (Or.inl rfl)) (pgs_cons (pg_name (i := 4) scExl.nd rfl (Or.inl rfl)) pgs_nil))))) (fun _ _ _ _ _ => pts_nil) (fun _ _ _ _ _ => (pe_tup (pa_cons (pe_dget2 hu (pv 1) (pv 2) (pv 2) ⟨by rfl, by rfl, by rfl, by rfl⟩) (pa_cons (pv 3) (pa_cons (pv 4) pa_nil)))))))), ?_⟩
    refine tRet_i (tLc_i (iList_i ?_))
    walk_at "w"
    rename_i D nD
    refine lc_list (xs := as.map V.ref) (fun i H' => Same H H' ∧ ∃ bs, LRa H' D bs (((nds.take i).map (exN kvs)).map ndV)) ?_ (fun i H' hi h => SqL.of (h.1 _ _ h0)) (fun i x H1 hi h => ?_) (fun H' h => ?_)
    · exact ⟨Same.new (Same.refl _) nD, [], upd_same, .nil⟩
    · obtain ⟨s1, bs, hb⟩ := h
      obtain ⟨a, r, rfl, hr2, ha⟩ := (l0.same s1).item hi
      rw [List.getElem?_map] at hr2
      obtain ⟨nd, hnd, rfl⟩ := Option.map_eq_some_iff.mp hr2
      have ha : H1 a = some (.tup [.str nd.1, .int nd.2.1, .int nd.2.2]) := ha
      have hd1 := s1 _ _ hd
      refine gTup_i (SqT.of ha) rfl ?_
      refine gc_i (gName_i (gc_i (gName_i (gc_i (gName_i (gNil_i ?_))))))
      refine ⟨rfl, ?_⟩
      have z1 : (bs.map V.ref).length < sizeLine := by
        rw [List.length_map, hb.len, List.length_map, List.length_map, List.length_take]
        exact small1000 (by omega)
      refine tYes_i ?_
      with_reducible refine iteT ?_
      refine tTup_i (tCons_i ?_)
      refine ⟨_, rfl, d, rfl, .inl ⟨_, .inl hd1⟩, _, rfl, _, rfl, _, .inl ⟨_, .inr nd.1, .inl hd1, rfl, rfl⟩, ?_⟩
      rw [kvS_look]
      have ev : (((kvs.lookup nd.1).map V.str).getD (V.str nd.1)) = V.str ((kvs.lookup nd.1).getD nd.1) := by cases kvs.lookup nd.1 <;> rfl
      rw [ev]
      walk_at "w"
      rename_i T nT
      refine ⟨_, (hb.fresh nT).l, z1, sameU (Same.new s1 nT) nD, bs ++ [T], ?_⟩
      have := (hb.fresh nT (o := .tup (ndV (exN kvs nd)))).push upd_same
      rw [List.take_add_one, hnd, List.map_append, List.map_append]
      exact this
    · obtain ⟨s1, bs, hb⟩ := h
      rw [List.length_map, hlen, List.take_length] at hb
      exact k _ _ s1 ⟨bs, hb⟩
end
end K9
set_option Elab.async false
set_option linter.all false
set_option maxRecDepth 100000
set_option maxHeartbeats 4000000
namespace K9
open PySem PySem.Spec PyProof.Rows L2
/-! ### steps through a reading -/
/-- H a = some o, where H is told by its stores -/
local macro_rules | `(tactic| walk_at "look") => `(tactic| first
  | assumption
  | exact upd_same
  | (refine Eq.trans (upd_ne ?_) ?_ <;> first
      | assumption
      | exact Ne.symm (by assumption)
      | exact ne_nw (by assumption) (by walk_at "look")
      | exact Ne.symm (ne_nw (by assumption) (by walk_at "look"))
      | walk_at "look"))
local macro_rules | `(tactic| walk_at "sq") => `(tactic| first
  | assumption
  | exact SqL.of (by walk_at "look")
  | exact SqT.of (by walk_at "look"))
local macro_rules | `(tactic| walk_at "c") => `(tactic| first
  | decide
  | omega
  | assumption
  | exact Or.inr ⟨by decide, by decide⟩
  | exact ⟨by decide, by decide⟩
  | exact Nat.le_of_ble_eq_true rfl
  | exact line1000 (by assumption)
  | (intro z; omega)
  | (dsimp only; first | assumption | omega)
  | (constructor <;> first | decide | omega))
local macro_rules | `(tactic| walk_at "fl") => `(tactic| first
  | assumption
  | rfl
  | exact flat_ints _
  | decide +kernel
  | (simp only [List.all_map, List.all_cons, List.all_nil]; rfl))
local macro_rules | `(tactic| walk_at "ty") => `(tactic| first
  | exact TyX.base (TyOf.str _)
  | exact TyX.base (TyOf.int _)
  | exact TyX.base (TyOf.bl _)
  | exact TyX.base TyOf.non
  | exact TyX.base (TyOf.tup (by walk_at "look"))
  | exact TyX.base (TyOf.lst (by walk_at "look"))
  | exact TyX.base (TyOf.dK (by walk_at "look")))
local macro_rules | `(tactic| walk_at "kit") => `(tactic| first
  | assumption
  | exact kit_str_bool
  | exact kit_str_int
  | exact kit_str_str
  | exact kit_str_dict
  | exact kit_str_list
  | exact kit_str_tuple
  | exact kit_int_bool
  | exact kit_int_int
  | exact kit_int_str
  | exact kit_int_dict
  | exact kit_int_list
  | exact kit_int_tuple
  | exact kit_bool_bool
  | exact kit_bool_int
  | exact kit_bool_str
  | exact kit_bool_dict
  | exact kit_bool_list
  | exact kit_bool_tuple
  | exact kit_list_bool
  | exact kit_list_int
  | exact kit_list_str
  | exact kit_list_dict
  | exact kit_list_list
  | exact kit_list_tuple
  | exact kit_tuple_bool
  | exact kit_tuple_int
  | exact kit_tuple_str
  | exact kit_tuple_dict
  | exact kit_tuple_list
  | exact kit_tuple_tuple
  | exact kit_dict_bool
  | exact kit_dict_int
  | exact kit_dict_str
  | exact kit_dict_dict
  | exact kit_dict_list
  | exact kit_dict_tuple
  | exact kit_NoneType_bool
  | exact kit_NoneType_int
  | exact kit_NoneType_str
  | exact kit_NoneType_dict
  | exact kit_NoneType_list
  | exact kit_NoneType_tuple)
local macro_rules | `(tactic| walk_at "len") => `(tactic| (refine sline ?_; (try simp only [slen, show ("( " : Str).length = 2 from rfl, show (" " : Str).length = 1 from rfl, show (" )" : Str).length = 2 from rfl, show Str.empty.length = 0 from rfl]); omega))
local macro_rules | `(tactic| walk_at "w1") => `(tactic| (first
  | ((with_reducible apply tVar_i); exact rfl)
  | with_reducible refine tC_i ?_
  | with_reducible refine tCons_i ?_
  | with_reducible refine tNil_i ?_
  | with_reducible refine tOp_i ?_
  | with_reducible refine tSeq_i ?_
  | with_reducible refine tAsg_i ?_
  | with_reducible refine tDrop_i ?_
  | with_reducible refine tRet_i ?_
  | with_reducible refine tNext_i ?_
  | with_reducible refine tIfS_i ?_
  | with_reducible refine tIf_i ?_
  | with_reducible refine tTest_i ?_
  | with_reducible refine tB_i ?_
  | with_reducible refine tNot_i ?_
  | with_reducible refine tAnd_i ?_
  | with_reducible refine tOr_i ?_
  | with_reducible refine tAndV_i ?_
  | with_reducible refine tOrV_i ?_
  | with_reducible refine tNotV_i ?_
  | with_reducible refine tNotT_i ?_
  | with_reducible refine tUn_i ?_
  | with_reducible refine tCB_i ?_
  | with_reducible refine tCall_i ?_
  | with_reducible refine tTup_i ?_
  | with_reducible refine tLst_i ?_
  | with_reducible refine tPar_i ?_
  | with_reducible refine tPar3_i ?_
  | with_reducible refine tSl_i ?_
  | with_reducible refine bl_i ?_
  | with_reducible refine tFor_i ?_
  | with_reducible refine tLc_i ?_
  | with_reducible refine iEnum_i ?_
  | with_reducible refine iList_i ?_
  | with_reducible refine iTup_i ?_
  | with_reducible refine iRng1_i ?_
  | ((with_reducible apply enum_i); walk_at "sq")
  | ((with_reducible apply list_i); walk_at "sq")
  | ((with_reducible apply tup_i); walk_at "sq")
  | ((with_reducible refine rng1_i ?_ ?_); walk_at "c")
  | with_reducible refine par2_i ?_
  | with_reducible refine par3_i ?_
  | with_reducible refine gName_i ?_
  | with_reducible refine gc_i ?_
  | with_reducible refine gNil_i ?_
  | with_reducible refine rI0_i ?_
  | with_reducible refine rU_i ?_
  | with_reducible refine max2_i ?_
  | with_reducible refine tM1_i ?_
  | with_reducible refine tM0_i ?_
  | with_reducible refine str_i ?_
  | with_reducible refine tBM_iL ?_
  | with_reducible refine tBM0_iL ?_
  | ((with_reducible refine rEq_i ?_ ?_); exact rfl)
  | ((with_reducible refine rNe_i ?_ ?_); exact rfl)
  | ((with_reducible refine rI_i ?_ ?_); walk_at "c")
  | ((with_reducible apply ty_i); walk_at "sq")
  | ((with_reducible apply gTup_i); walk_at "sq"; exact rfl)
  | ((with_reducible apply rIxL_i); walk_at "sq"; first | exact rfl | assumption)
  | ((with_reducible apply rIxT_i); walk_at "sq"; first | exact rfl | assumption)
  | ((with_reducible apply rInT_i); walk_at "sq"; exact rfl; exact rfl)
  | ((with_reducible apply rInL_i); walk_at "sq"; exact rfl; exact rfl)
  | with_reducible refine gSub_i ?_
  | with_reducible refine tJs1_i ?_
  | with_reducible refine tJs0_i ?_
  | with_reducible refine tFmt_i ?_
  | ((with_reducible refine fmtS_i ?_ ?_); walk_at "len")
  | ((with_reducible refine js_i ?_ ?_); walk_at "len")
  | ((with_reducible apply rCat_i); walk_at "look"; walk_at "look"; walk_at "c")
  | ((with_reducible apply rIsi_i); walk_at "ty"; walk_at "kit")
  | ((with_reducible apply rNe_nil); walk_at "sq"; walk_at "fl"; walk_at "sq")
  | ((with_reducible apply rEq_nil); walk_at "sq"; walk_at "fl"; walk_at "sq")
  | with_reducible refine tDisp_i ?_
  | with_reducible refine tPairs0_i ?_
  | with_reducible refine tPairs1_i ?_
  | ((with_reducible apply disp1_i); walk_at "look")
  | ((with_reducible apply disp2_i); walk_at "look")
  | with_reducible refine tFld_i ?_
  | with_reducible refine sFld_i ?_
  | ((with_reducible apply fld_i); walk_at "look"; assumption; assumption; first | exact rfl | assumption)
  | ((with_reducible apply sfld_i); walk_at "look"; assumption; assumption; walk_at "c")
  | with_reducible refine tRevL_i ?_
  | ((with_reducible apply rev_i); walk_at "sq")
  | ((with_reducible apply rSetL_i); walk_at "look"; first | exact rfl | assumption)
  | ((with_reducible apply rIxK_i); assumption; assumption)
  | ((with_reducible apply rInK_i); assumption)
  | ((with_reducible apply rAppend_i); walk_at "look"; walk_at "c")
  | ((with_reducible apply rPop_i); walk_at "look"; first | exact rfl | assumption)
  | ((with_reducible apply len_i); walk_at "sq")
  | ((with_reducible apply lenT_i); walk_at "sq")
  | ((with_reducible apply rSlL_i); walk_at "sq")
  | with_reducible refine iteT ?_
  | with_reducible refine iteF ?_
  | ((with_reducible refine iteTk ?_ ?_); assumption)
  | ((with_reducible refine iteFk ?_ ?_); assumption)
  | ((with_reducible refine iteTk ?_ ?_); decide +kernel)
  | ((with_reducible refine iteFk ?_ ?_); decide +kernel)
  | ((with_reducible refine iteTk ?_ ?_); exact rfl)
  | ((with_reducible refine iteFk ?_ ?_); exact rfl)
  | with_reducible refine fun (p : Addr) (n : _ = none) => ?_
  | with_reducible refine Or.inl ⟨_, rfl, ?_⟩
  | with_reducible refine ⟨_, rfl, ?_⟩
  | with_reducible refine ⟨_, _, rfl, rfl, ?_⟩
  | ((with_reducible refine ⟨_, _, _, _, _, rfl, ClsV.ty _, ?_, ?_, ?_⟩); walk_at "ty"; walk_at "kit")
  | ((with_reducible refine And.intro ?_ ?_); walk_at "c")))
local macro_rules | `(tactic| walk_at "w") => `(tactic| repeat (walk_at "w1"))
local macro_rules | `(tactic| walk_at "but") => `(tactic| first
  | assumption
  | exact But.refl _ _
  | (refine But.upd ?_; walk_at "but")
  | (refine But.new ?_ (by assumption); walk_at "but"))
local macro_rules | `(tactic| walk_at "same") => `(tactic| first
  | assumption
  | exact Same.refl _
  | (refine Same.new ?_ (by assumption); walk_at "same")
  | (refine Same.trans (by assumption) ?_; walk_at "same"))
local macro_rules | `(tactic| walk_at "x") => `(tactic| (dsimp only [Cx.nox, Cx.wish, cxOf, L2H.cxH]))
/-- Look.__eq__, as its users know it -/
structure EqM (P : Program) (w : World) (K : PySem.W.Frag) (mg : Str → Option Value) (base : Heap) (f : Addr) (fd : FuncData) : Prop where
  ok : FnOk P w K mg base CX0 1 f fd ["self", "other"] (spEqL K)
  s : PySem.W.findIn K (.ref (He.ga K "Look")) "__eq__" = some (some (.ref f))
  fn : PySem.W.isFn K (.ref f) = true
  b : Binds K fd ["self", "other"] []
abbrev s_told : Stmt := (top 54)
theorem scTold : FnScope ["told", "body", "many_of", "deepest"] ["told", "body", "many_of", "deepest"] (defScope (top 54)) := ⟨rfl, rfl, rfl, by decide +kernel, rfl, by decide +kernel, by decide +kernel⟩
/-- a look of the text x as the program makes it -/
def Told (K : PySem.W.Frag) (H : Hp) (a : Addr) (x : Str) (d : Int) : Prop := IsLook K H a x (Txt.split x " ").length d
def spTold (K : PySem.W.Frag) : Sp := fun vs H Q _ => ∃ a x d, vs = [.ref a, .str x, .int (Txt.split x " ").length, .int d] ∧ Told K H a x d ∧ GoodAt x d ∧ x.length ≤ 900 ∧ (Txt.split x " ").length ≤ 80 ∧ d ≤ 8 ∧ ∀ H', Same H H' → Q (.bl true) H'
theorem own_i {K : PySem.W.Frag} {mg : Str → Option Value} (LK : Lk K mg) {H : Hp} {a b : Addr} {x y : Str} {n d m e : Int} {Q : VK} (h : IsLook K H a x n d) (g : IsLook K H b y m e) (k : Q (.bl (decide (x = y))) H) : rOwn K (He.ga K "Look") (spEqL K) (.ref a) (.ref b) H Q := by
  obtain ⟨dx, fs, ha, r⟩ := id h
  obtain ⟨dy, gs, hb, r'⟩ := id g
  exact ⟨a, dx, fs, _, rfl, ha, .ins hb, LK.nf, a, x, n, d, _, rfl, h, .inl ⟨b, y, m, e, rfl, g, ⟨_, rfl⟩, k⟩⟩
theorem ownS_i {K : PySem.W.Frag} {mg : Str → Option Value} (LK : Lk K mg) {H : Hp} {a : Addr} {x y : Str} {n d : Int} {Q : VK} (h : IsLook K H a x n d) (k : Q (.bl false) H) : rOwn K (He.ga K "Look") (spEqL K) (.ref a) (.str y) H Q := by
  obtain ⟨dx, fs, ha, r⟩ := id h
  exact ⟨a, dx, fs, _, rfl, ha, .str y, LK.nfs, a, x, n, d, _, rfl, h, .inr ⟨y, rfl, ⟨_, rfl⟩, k⟩⟩
section
variable {P : Program} {w : World} {K : PySem.W.Frag} {mg : Str → Option Value} {base : Heap} {f : Addr} {fd : FuncData} {fI fE : Addr} {fdI fdE : FuncData} {ds m1 m2 : List Value}
theorem ok_told (Z : Free mg) (LK : Lk K mg) (F : FnP K "_law_told" "_law_told" s_told [] f fd) (LM : LkM P w K mg base fI fdI ds m1 m2) (EQ : EqM P w K mg base fE fdE) {f1 : Addr} {fd1 : FuncData} (Cs : Cal P w K mg base CX0 2 "_law_same" ["told", "due"] spSame f1 fd1) :
    FnOk P w K mg base CX0 5 f fd ["told", "body", "many_of", "deepest"] (spTold K) := by
  refine F.ok scTold (fun vs H Q E h => ?_) (fun cdv A outer s H vs Q E hr h => ?_)
  · obtain ⟨a, b, c, rfl, _⟩ := h
    rfl
  · obtain ⟨a, x, d, rfl, hT, hg, hx, hn, hd, k⟩ := h
    obtain ⟨dx, fs, ha, h1, h2, h3, _⟩ := id hT
    refine ⟨_, PSs.nox (pss_cons (ps_if (pt_not (pt_val (pe_call Cs.ok (hr.mono (by omega)) rfl Cs.mg Cs.kp Cs.b .nil pass0 (pa_cons (pe_tup (pa_cons (pe_fld (pv 0) rfl) (pa_cons (pe_fld (pv 0) rfl) (pa_cons (pe_fld (pv 0) rfl) pa_nil)))) (pa_cons (pe_tup (pa_cons (pv 1) (pa_cons (pv 2) (pa_cons (pv 3) pa_nil)))) pa_nil))))) 
        (pss_one (ps_ret pe_bl)) pss_nil)
      (pss_one (ps_ret (pe_and (pe_cmpR (op_own EQ.ok (hr.mono (by omega)) EQ.s EQ.fn EQ.b pass0) (pv 0) (pe_make LM.mkr LM.ok (hr.mono (by omega)) rfl LM.m LM.b LM.d passN0 (pa_cons (pv 1) pa_nil)) (nomark _)) (pe_and (pe_not (pe_cmpR (op_own EQ.ok (hr.mono (by omega)) EQ.s EQ.fn EQ.b pass0) (pv 0) (pv 1) (nomark _))) (pe_one (pe_cmpR (op_own EQ.ok (hr.mono (by omega)) EQ.s EQ.fn EQ.b pass0) (pe_makeK0 LM.mkr LM.ok (hr.mono (by omega)) rfl LM.m LM.bt passN0 (pk_cons (pe_fld (pv 0) rfl) pk_nil)) (pv 0) (nomark _)))))))), ?_⟩
    have c1 := LK.cls
    have c2 := LK.n_text
    have c3 := LK.n_words
    have c4 := LK.n_depth
    walk_at "w"
    rename_i T1 m1' T2 m2'
    have s1 : Same H (upd (upd H T1 (.tup [.str x, .int ((Txt.split x " ").length : Nat), .int d])) T2 (.tup [.str x, .int ((Txt.split x " ").length : Nat), .int d])) := Same.new (Same.new (Same.refl _) m1') m2'
    refine ⟨T1, T2, _, rfl, (upd_ne (ne_nw m2' upd_same)).trans upd_same, upd_same, by show 3 ≤ 1000; decide, fun z hz => ?_, fun H2 s2 => ?_⟩
    · simp only [List.mem_cons, List.not_mem_nil, or_false] at hz
      rcases hz with rfl | rfl | rfl
      · exact .inl ⟨_, rfl⟩
      · exact .inr ⟨_, rfl⟩
      · exact .inr ⟨_, rfl⟩
    have s3 := s1.trans s2
    have hT2 := IsLook.same hT s3
    walk_at "w"
    refine tMake_i ?_
    walk_at "w"
    refine made_i (own := false) hx hg (fun _ => ⟨hn, hd⟩) (fun b H3 s4 nb' hb => ?_)
    have hT3 := IsLook.same hT2 s4
    refine own_i LK hT3 hb ?_
    refine bl_i (iteTk (decide_eq_true rfl) ?_)
    walk_at "w"
    refine ownS_i LK hT3 ?_
    walk_at "w"
    refine tMakeK_i ?_
    obtain ⟨dx3, fs3, ha3, h13, h23, h33, _⟩ := id hT3
    walk_at "w"
    refine made_i (own := false) hx hg (fun _ => ⟨hn, hd⟩) (fun b2 H5 s5 nb2' hb2 => ?_)
    walk_at "w"
    refine own_i LK hb2 (IsLook.same hT3 s5) ?_
    rw [decide_eq_true rfl]
    exact k _ ((s3.trans s4).trans s5)
end
end K9
set_option Elab.async false
set_option linter.all false
set_option maxRecDepth 100000
set_option maxHeartbeats 4000000
namespace K9
open PySem PySem.Spec PyProof.Rows L2
/-! ### what is joined by a sign is split by it -/
theorem sep_inj {α : Type} {c : α} : ∀ {a b x y : List α}, c ∉ a → c ∉ b → a ++ c :: x = b ++ c :: y → a = b ∧ x = y
  | [], [], x, y, _, _, h => ⟨rfl, (List.cons.inj h).2⟩
  | [], b :: bs, x, y, _, hb, h => absurd ((List.cons.inj h).1 ▸ List.mem_cons_self) hb
  | a :: as, [], x, y, ha, _, h => absurd ((List.cons.inj h).1 ▸ List.mem_cons_self) ha
  | a :: as, b :: bs, x, y, ha, hb, h => by
    obtain ⟨e, h⟩ := List.cons.inj h
    obtain ⟨e1, e2⟩ := sep_inj (fun z => ha (List.mem_cons_of_mem _ z)) (fun z => hb (List.mem_cons_of_mem _ z)) h
    exact ⟨by rw [e, e1], e2⟩
def lj (c : Nat) : List (List Nat) → List Nat
  | [] => []
  | [x] => x
  | x :: y :: r => x ++ c :: lj c (y :: r)
theorem lj_inj {c : Nat} : ∀ {l m : List (List Nat)}, l ≠ [] → m ≠ [] → (∀ x ∈ l, c ∉ x) → (∀ x ∈ m, c ∉ x) → lj c l = lj c m → l = m
  | [], _, h, _, _, _, _ => absurd rfl h
  | _, [], _, h, _, _, _ => absurd rfl h
  | [x], [y], _, _, _, _, h => by rw [show x = y from h]
  | [x], y :: z :: r, _, _, hx, _, h => by
    have h : x = y ++ c :: lj c (z :: r) := h
    exact absurd (h ▸ List.mem_append_right _ List.mem_cons_self) (hx x List.mem_cons_self)
  | x :: w :: l, [y], _, _, _, hy, h => by
    have h : x ++ c :: lj c (w :: l) = y := h
    exact absurd (h ▸ List.mem_append_right _ List.mem_cons_self) (hy y List.mem_cons_self)
  | x :: w :: l, y :: z :: r, _, _, hx, hy, h => by
    obtain ⟨e1, e2⟩ := sep_inj (hx x List.mem_cons_self) (hy y List.mem_cons_self) (show x ++ c :: lj c (w :: l) = y ++ c :: lj c (z :: r) from h)
    have := lj_inj (by simp) (by simp) (fun q hq => hx q (List.mem_cons_of_mem _ hq)) (fun q hq => hy q (List.mem_cons_of_mem _ hq)) e2
    rw [e1, this]
theorem lj_join (c : Nat) : ∀ l : List Str, (Str.join ⟨#[c]⟩ l).cps.toList = lj c (l.map fun z => z.cps.toList)
  | [] => rfl
  | [x] => rfl
  | x :: y :: r => by
    show (x ++ ⟨#[c]⟩ ++ Str.join ⟨#[c]⟩ (y :: r)).cps.toList = _
    rw [Str.cps_append, Str.cps_append, Array.toList_append, Array.toList_append, lj_join c (y :: r), List.append_assoc]
    rfl
theorem split_of_join {c : Nat} {ws : List Str} (h0 : ws ≠ []) (h : ∀ z ∈ ws, c ∉ z.cps.toList) : Txt.split (Str.join ⟨#[c]⟩ ws) ⟨#[c]⟩ = ws := by
  have e := StrLaws.join_split (Str.join ⟨#[c]⟩ ws) ⟨#[c]⟩
  have e2 := congrArg (fun z : Str => z.cps.toList) e
  rw [lj_join, lj_join] at e2
  have hne : Txt.split (Str.join ⟨#[c]⟩ ws) ⟨#[c]⟩ ≠ [] := fun z => by
    have := split_pos (Str.join ⟨#[c]⟩ ws) ⟨#[c]⟩
    rw [z] at this
    exact absurd this (by simp)
  have e3 := lj_inj (by simpa using hne) (by simpa using h0) (fun x hx => by
    obtain ⟨z, hz, rfl⟩ := List.mem_map.mp hx
    exact StrLaws.split_free _ _ z hz) (fun x hx => by
    obtain ⟨z, hz, rfl⟩ := List.mem_map.mp hx
    exact h z hz) e2
  have inj : ∀ {l m : List Str}, (l.map fun z => z.cps.toList) = (m.map fun z => z.cps.toList) → l = m := by
    intro l
    induction l with
    | nil => intro m q; cases m with
      | nil => rfl
      | cons _ _ => cases q
    | cons a l ih =>
      intro m q
      cases m with
      | nil => cases q
      | cons b m =>
        obtain ⟨q1, q2⟩ := List.cons.inj q
        rw [ih q2, Str.ext' (Array.toList_inj.mp q1)]
  exact inj e3
theorem join_app (sep : Str) : ∀ {l m : List Str}, l ≠ [] → m ≠ [] → Str.join sep (l ++ m) = Str.join sep l ++ sep ++ Str.join sep m
  | [], _, h, _ => absurd rfl h
  | _, [], _, h => absurd rfl h
  | [x], y :: m, _, _ => rfl
  | x :: z :: r, y :: m, _, h => by
    show x ++ sep ++ Str.join sep (z :: r ++ y :: m) = x ++ sep ++ Str.join sep (z :: r) ++ sep ++ Str.join sep (y :: m)
    rw [join_app sep (by simp) h]
    simp only [Str.append_assoc]
theorem ws_ne : ∀ t : LT, t.ws ≠ []
  | .leaf _ => by simp [LT.ws]
  | .step _ _ => by simp [LT.ws]
  | .bin _ _ _ => by simp [LT.ws]
theorem sp_cat : ("( " : Str) = sOpen ++ (" " : Str) := by decide +kernel
theorem sp_cat2 : (" )" : Str) = (" " : Str) ++ sClose := by decide +kernel
theorem txt_join : ∀ t : LT, t.txt = Str.join " " t.ws
  | .leaf s => rfl
  | .step s t => by
    show ((Str.empty ++ s) ++ (" " : Str)) ++ t.txt = Str.join " " ([s] ++ t.ws)
    rw [join_app _ (by simp) (ws_ne t), txt_join t, Str.empty_append]
    rfl
  | .bin s a b => by
    show ((((((Str.empty ++ ("( " : Str)) ++ a.txt) ++ (" " : Str)) ++ s) ++ (" " : Str)) ++ b.txt) ++ (" )" : Str) = Str.join " " ([sOpen] ++ (a.ws ++ ([s] ++ (b.ws ++ [sClose]))))
    rw [join_app _ (by simp) (by simp [ws_ne]), join_app _ (ws_ne a) (by simp), join_app _ (by simp) (by simp [ws_ne]), join_app _ (ws_ne b) (by simp), txt_join a, txt_join b, Str.empty_append, sp_cat, sp_cat2]
    show _ = sOpen ++ (" " : Str) ++ (Str.join " " a.ws ++ (" " : Str) ++ (s ++ (" " : Str) ++ (Str.join " " b.ws ++ (" " : Str) ++ sClose)))
    simp only [Str.append_assoc]
/-- no word has a space -/
def NoSp (z : Str) : Prop := 32 ∉ z.cps.toList
theorem leaf_nosp {s : Str} (h : leafB s = true) : NoSp s := by rcases leaf_cases h with rfl | rfl <;> (unfold NoSp; decide +kernel)
theorem op_nosp {s : Str} (h : opB s = true) : NoSp s := by rcases op_cases h with rfl | rfl <;> (unfold NoSp; decide +kernel)
theorem step_nosp {s : Str} (h : (stepL.lookup s).isSome = true) : NoSp s := by rcases step_cases h with rfl | rfl | rfl | rfl <;> (unfold NoSp; decide +kernel)
theorem ws_nosp : ∀ t : LT, t.ok → ∀ z ∈ t.ws, NoSp z
  | .leaf s, h, z, hz => by
    rw [List.mem_singleton.mp (show z ∈ [s] from hz)]
    exact leaf_nosp h
  | .step s t, h, z, hz => by
    rcases List.mem_cons.mp (show z ∈ s :: t.ws from hz) with rfl | hz
    · exact step_nosp h.1
    · exact ws_nosp t h.2 z hz
  | .bin s a b, h, z, hz => by
    have hz : z ∈ sOpen :: (a.ws ++ s :: (b.ws ++ [sClose])) := hz
    simp only [List.mem_cons, List.mem_append, List.mem_singleton, List.not_mem_nil, or_false] at hz
    rcases hz with rfl | hz | rfl | hz | rfl
    · unfold NoSp; decide +kernel
    · exact ws_nosp a h.2.1 z hz
    · exact op_nosp h.1
    · exact ws_nosp b h.2.2 z hz
    · unfold NoSp; decide +kernel
theorem split_txt {t : LT} (h : t.ok) : Txt.split t.txt " " = t.ws := by
  rw [txt_join]
  exact split_of_join (c := 32) (ws_ne t) (ws_nosp t h)
end K9
set_option Elab.async false
set_option linter.all false
set_option maxRecDepth 100000
set_option maxHeartbeats 4000000
namespace K9
open PySem PySem.Spec PyProof.Rows L2
/-! ### words exchanged -/
def fx (l : List (Str × Str)) (s : Str) : Str := (l.lookup s).getD s
def LT.ex (l : List (Str × Str)) : LT → LT
  | .leaf s => .leaf (fx l s)
  | .step s t => .step (fx l s) (t.ex l)
  | .bin s a b => .bin (fx l s) (a.ex l) (b.ex l)
/-- a table that keeps brackets and the kinds of words -/
structure Tab (l : List (Str × Str)) : Prop where
  o : fx l sOpen = sOpen
  c : fx l sClose = sClose
  lf : ∀ s, leafB s = true → leafB (fx l s) = true
  op : ∀ s, opB s = true → opB (fx l s) = true
  st : ∀ s, (stepL.lookup s).isSome = true → (stepL.lookup (fx l s)).isSome = true
theorem tab_mirr : Tab mirr where
  o := by decide +kernel
  c := by decide +kernel
  lf := fun s h => by rcases leaf_cases h with rfl | rfl <;> decide +kernel
  op := fun s h => by rcases op_cases h with rfl | rfl <;> decide +kernel
  st := fun s h => by rcases step_cases h with rfl | rfl | rfl | rfl <;> decide +kernel
theorem tab_turn : Tab turn where
  o := by decide +kernel
  c := by decide +kernel
  lf := fun s h => by rcases leaf_cases h with rfl | rfl <;> decide +kernel
  op := fun s h => by rcases op_cases h with rfl | rfl <;> decide +kernel
  st := fun s h => by rcases step_cases h with rfl | rfl | rfl | rfl <;> decide +kernel
theorem ex_ok {l : List (Str × Str)} (T : Tab l) : ∀ t : LT, t.ok → (t.ex l).ok
  | .leaf s, h => T.lf s h
  | .step s t, h => ⟨T.st s h.1, ex_ok T t h.2⟩
  | .bin s a b, h => ⟨T.op s h.1, ex_ok T a h.2.1, ex_ok T b h.2.2⟩
theorem ex_ws {l : List (Str × Str)} (T : Tab l) : ∀ t : LT, (t.ex l).ws = t.ws.map (fx l)
  | .leaf s => rfl
  | .step s t => by
    show fx l s :: (t.ex l).ws = (s :: t.ws).map (fx l)
    rw [ex_ws T t]
    rfl
  | .bin s a b => by
    show sOpen :: ((a.ex l).ws ++ fx l s :: ((b.ex l).ws ++ [sClose])) = (sOpen :: (a.ws ++ s :: (b.ws ++ [sClose]))).map (fx l)
    rw [ex_ws T a, ex_ws T b]
    simp [T.o, T.c]
theorem ex_dep {l : List (Str × Str)} : ∀ t : LT, (t.ex l).dep = t.dep
  | .leaf s => rfl
  | .step s t => by
    show (t.ex l).dep + 1 = t.dep + 1
    rw [ex_dep t]
  | .bin s a b => by
    show imax (a.ex l).dep (b.ex l).dep = imax a.dep b.dep
    rw [ex_dep a, ex_dep b]
theorem exch_txt {l : List (Str × Str)} (T : Tab l) {t : LT} (h : t.ok) : exch l t.txt = (t.ex l).txt := by
  unfold exch
  rw [split_txt h, txt_join, ex_ws T t]
  exact StrLaws.glued_eq_join _ _
theorem ex_ex {l m : List (Str × Str)} {f : Str → Str} (hl : ∀ s, leafB s = true → fx l (fx m s) = f s) (ho : ∀ s, opB s = true → fx l (fx m s) = f s) (hs : ∀ s, (stepL.lookup s).isSome = true → fx l (fx m s) = f s) (g : LT → LT)
    (g1 : ∀ s, g (.leaf s) = .leaf (f s)) (g2 : ∀ s t, g (.step s t) = .step (f s) (g t)) (g3 : ∀ s a b, g (.bin s a b) = .bin (f s) (g a) (g b)) : ∀ t : LT, t.ok → (t.ex m).ex l = g t
  | .leaf s, h => by
    show LT.leaf (fx l (fx m s)) = _
    rw [hl s h, g1]
  | .step s t, h => by
    show LT.step (fx l (fx m s)) ((t.ex m).ex l) = _
    rw [hs s h.1, g2, ex_ex hl ho hs g g1 g2 g3 t h.2]
  | .bin s a b, h => by
    show LT.bin (fx l (fx m s)) ((a.ex m).ex l) ((b.ex m).ex l) = _
    rw [ho s h.1, g3, ex_ex hl ho hs g g1 g2 g3 a h.2.1, ex_ex hl ho hs g g1 g2 g3 b h.2.2]
theorem mirr_mirr {t : LT} (h : t.ok) : (t.ex mirr).ex mirr = t :=
  ex_ex (f := id) (fun s h => by rcases leaf_cases h with rfl | rfl <;> decide +kernel) (fun s h => by rcases op_cases h with rfl | rfl <;> decide +kernel) (fun s h => by rcases step_cases h with rfl | rfl | rfl | rfl <;> decide +kernel) id (fun _ => rfl) (fun _ _ => rfl) (fun _ _ _ => rfl) t h
theorem turn_turn {t : LT} (h : t.ok) : (t.ex turn).ex turn = t :=
  ex_ex (f := id) (fun s h => by rcases leaf_cases h with rfl | rfl <;> decide +kernel) (fun s h => by rcases op_cases h with rfl | rfl <;> decide +kernel) (fun s h => by rcases step_cases h with rfl | rfl | rfl | rfl <;> decide +kernel) id (fun _ => rfl) (fun _ _ => rfl) (fun _ _ _ => rfl) t h
def fmt2 (s : Str) : Str := fx mirr (fx turn s)
def LT.two : LT → LT
  | .leaf s => .leaf (fmt2 s)
  | .step s t => .step (fmt2 s) t.two
  | .bin s a b => .bin (fmt2 s) a.two b.two
theorem mirr_turn {t : LT} (h : t.ok) : (t.ex mirr).ex turn = (t.ex turn).ex mirr :=
  (ex_ex (f := fmt2) (fun s h => by rcases leaf_cases h with rfl | rfl <;> decide +kernel) (fun s h => by rcases op_cases h with rfl | rfl <;> decide +kernel) (fun s h => by rcases step_cases h with rfl | rfl | rfl | rfl <;> decide +kernel) LT.two (fun _ => rfl) (fun _ _ => rfl) (fun _ _ _ => rfl) t h).trans
  (ex_ex (f := fmt2) (fun _ _ => rfl) (fun _ _ => rfl) (fun _ _ => rfl) LT.two (fun _ => rfl) (fun _ _ => rfl) (fun _ _ _ => rfl) t h).symm
/-- the nodes exchanged make the trees exchanged -/
theorem Built.ex {l : List (Str × Str)} (T : Tab l) {nds : List Nd} {ts : List LT} (h : Built nds ts) : Built (nds.map (exN l)) (ts.map (LT.ex l)) := by
  refine ⟨by rw [List.length_map, List.length_map, h.len], fun i n t h1 h2 => ?_⟩
  rw [List.getElem?_map] at h1 h2
  obtain ⟨n, hn, rfl⟩ := Option.map_eq_some_iff.mp h1
  obtain ⟨t, ht, rfl⟩ := Option.map_eq_some_iff.mp h2
  have k := h.at_ i n t hn ht
  rw [← List.map_take]
  cases k with
  | leaf hs => exact .leaf (T.lf _ hs)
  | step hs e => exact .step (T.st _ hs) (by rw [List.getElem?_map, e]; rfl)
  | bin hs e1 e2 => exact .bin (T.op _ hs) (by rw [List.getElem?_map, e1]; rfl) (by rw [List.getElem?_map, e2]; rfl)
/-- all trees made are trees -/
theorem Built.all_ok {nds : List Nd} {ts : List LT} (h : Built nds ts) : ∀ (n i : Nat) (t : LT), i < n → ts[i]? = some t → t.ok
  | 0, i, t, hi, _ => absurd hi (Nat.not_lt_zero _)
  | n + 1, i, t, hi, ht => by
    have hl := (List.getElem?_eq_some_iff.mp ht).1
    obtain ⟨nd, hn⟩ : ∃ nd, nds[i]? = some nd := ⟨nds[i]'(by rw [h.len]; exact hl), List.getElem?_eq_getElem _⟩
    have k := h.at_ i _ t hn ht
    have low : ∀ (j : Nat) (u : LT), (ts.take i)[j]? = some u → u.ok := fun j u hj => by
      have h1 := (List.getElem?_eq_some_iff.mp hj).1
      rw [List.length_take] at h1
      exact h.all_ok n j u (by omega) (take_get hj)
    cases k with
    | leaf hs => exact hs
    | step hs e => exact ⟨hs, low _ _ e⟩
    | bin hs e1 e2 => exact ⟨hs, low _ _ e1, low _ _ e2⟩
theorem Built.okAt {nds : List Nd} {ts : List LT} (h : Built nds ts) {i : Nat} {t : LT} (ht : ts[i]? = some t) : t.ok := h.all_ok (i + 1) i t (Nat.lt_succ_self _) ht
/-- a text is not long -/
theorem txt_len : ∀ t : LT, t.ok → t.txt.length + 1 ≤ 5 * t.ws.length
  | .leaf s, h => by
    have : s.length ≤ 4 := by rcases leaf_cases h with rfl | rfl <;> decide +kernel
    show s.length + 1 ≤ 5 * 1
    omega
  | .step s t, h => by
    have : s.length ≤ 2 := by rcases step_cases h.1 with rfl | rfl | rfl | rfl <;> decide +kernel
    have := txt_len t h.2
    show (((Str.empty ++ s) ++ (" " : Str)) ++ t.txt).length + 1 ≤ 5 * (t.ws.length + 1)
    rw [slen, slen, slen, show (" " : Str).length = 1 from rfl, show Str.empty.length = 0 from rfl]
    omega
  | .bin s a b, h => by
    have : s.length ≤ 1 := by rcases op_cases h.1 with rfl | rfl <;> decide +kernel
    have h1 := txt_len a h.2.1
    have h2 := txt_len b h.2.2
    have e : (LT.bin s a b).ws.length = a.ws.length + b.ws.length + 3 := by
      show (sOpen :: (a.ws ++ s :: (b.ws ++ [sClose]))).length = _
      simp
      omega
    rw [e]
    show (((((((Str.empty ++ ("( " : Str)) ++ a.txt) ++ (" " : Str)) ++ s) ++ (" " : Str)) ++ b.txt) ++ (" )" : Str)).length + 1 ≤ _
    rw [slen, slen, slen, slen, slen, slen, slen, show (" " : Str).length = 1 from rfl, show Str.empty.length = 0 from rfl, show ("( " : Str).length = 2 from rfl, show (" )" : Str).length = 2 from rfl]
    omega
end K9
set_option Elab.async false
set_option linter.all false
set_option maxRecDepth 100000
set_option maxHeartbeats 4000000
namespace K9
open PySem PySem.Spec PyProof.Rows L2
/-! ### the trees on top while a tree is made -/
def valAt (f : LT → Nat) (ts : List LT) (i : Nat) : Nat := ((ts[i]?).map f).getD 0
def sumAt (f : LT → Nat) (ts : List LT) (tops : List Nat) : Nat := (tops.map (valAt f ts)).sum
theorem valAt_some {f : LT → Nat} {ts : List LT} {i : Nat} {t : LT} (h : ts[i]? = some t) : valAt f ts i = f t := by
  unfold valAt
  rw [h]
  rfl
theorem valAt_snoc {f : LT → Nat} {ts : List LT} {t : LT} {i : Nat} (h : i < ts.length) : valAt f (ts ++ [t]) i = valAt f ts i := by
  unfold valAt
  rw [List.getElem?_append_left h]
theorem valAt_new {f : LT → Nat} {ts : List LT} {t : LT} : valAt f (ts ++ [t]) ts.length = f t := by
  unfold valAt
  rw [List.getElem?_append_right (Nat.le_refl _), Nat.sub_self]
  rfl
theorem sumAt_snoc {f : LT → Nat} {ts : List LT} {t : LT} {tops : List Nat} (h : ∀ i ∈ tops, i < ts.length) : sumAt f (ts ++ [t]) tops = sumAt f ts tops := by
  unfold sumAt
  congr 1
  exact List.map_congr_left fun i hi => valAt_snoc (h i hi)
theorem sumAt_app {f : LT → Nat} {ts : List LT} {a b : List Nat} : sumAt f ts (a ++ b) = sumAt f ts a + sumAt f ts b := by
  unfold sumAt
  rw [List.map_append, List.sum_append]
theorem sumAt_one {f : LT → Nat} {ts : List LT} {a : Nat} : sumAt f ts [a] = valAt f ts a := by
  unfold sumAt
  simp
theorem sumAt_set {f : LT → Nat} {ts : List LT} : ∀ {tops : List Nat} {i a b : Nat}, tops[i]? = some a → sumAt f ts (tops.set i b) + valAt f ts a = sumAt f ts tops + valAt f ts b
  | [], i, a, b, h => by simp at h
  | c :: r, 0, a, b, h => by
    cases Option.some.inj h
    show (valAt f ts b + sumAt f ts r) + valAt f ts c = (valAt f ts c + sumAt f ts r) + valAt f ts b
    omega
  | c :: r, i + 1, a, b, h => by
    have := sumAt_set (f := f) (ts := ts) (tops := r) (i := i) (a := a) (b := b) h
    show (valAt f ts c + sumAt f ts (r.set i b)) + valAt f ts a = (valAt f ts c + sumAt f ts r) + valAt f ts b
    omega
theorem sumAt_mem {f : LT → Nat} {ts : List LT} : ∀ {tops : List Nat} {a : Nat}, a ∈ tops → valAt f ts a ≤ sumAt f ts tops
  | c :: r, a, h => by
    show _ ≤ valAt f ts c + sumAt f ts r
    rcases List.mem_cons.mp h with rfl | h
    · omega
    · have := sumAt_mem (f := f) (ts := ts) h
      omega
def wt (n : Nd) : Nat := if n.2.2 ≥ 0 then 3 else 1
def LT.wn (t : LT) : Nat := t.ws.length
def LT.sn : LT → Nat
  | .leaf _ => 0
  | .step _ t => t.sn + 1
  | .bin _ a b => a.sn + b.sn
theorem dep_sn : ∀ t : LT, t.dep ≤ t.sn
  | .leaf _ => Int.le_refl _
  | .step _ t => by
    have := dep_sn t
    show t.dep + 1 ≤ ((t.sn + 1 : Nat) : Int)
    omega
  | .bin _ a b => by
    have := dep_sn a
    have := dep_sn b
    show imax a.dep b.dep ≤ ((a.sn + b.sn : Nat) : Int)
    unfold imax
    split <;> omega
/-- the state of the making: s steps and c brackets so far -/
structure TI (leaves s c : Nat) (nds : List Nd) (ts : List LT) (tops : List Nat) : Prop where
  b : Built nds ts
  lt : ∀ i ∈ tops, i < ts.length
  w : sumAt LT.wn ts tops = (nds.map wt).sum
  n : sumAt LT.sn ts tops = s
  al : ∀ t ∈ ts, t.wn ≤ (nds.map wt).sum
  sum : (nds.map wt).sum = leaves + s + 3 * c
  cnt : tops.length + c = leaves
  last : tops.length = 1 → tops = [ts.length - 1]
section
variable {l s c : Nat} {nds : List Nd} {ts : List LT} {tops : List Nat} {z : Str}
theorem wt_snoc {n : Nd} : ((nds ++ [n]).map wt).sum = (nds.map wt).sum + wt n := by
  rw [List.map_append, List.sum_append]
  simp
theorem TI.nil : TI 0 0 0 [] [] [] := ⟨Built.nil, (fun i h => nomatch h), rfl, rfl, (fun t h => nomatch h), rfl, rfl, (fun h => by simp at h)⟩
theorem TI.leaf (h : TI l 0 0 nds ts tops) (hz : leafB z = true) : TI (l + 1) 0 0 (nds ++ [(z, -1, -1)]) (ts ++ [.leaf z]) (tops ++ [ts.length]) := by
  have e1 : wt (z, -1, -1) = 1 := rfl
  refine ⟨h.b.snoc (.leaf hz), fun i hi => ?_, ?_, ?_, fun t ht => ?_, ?_, ?_, fun hl => ?_⟩
  · rw [List.length_append, List.length_singleton]
    rcases List.mem_append.mp hi with hi | hi
    · exact Nat.lt_succ_of_lt (h.lt i hi)
    · rw [List.mem_singleton.mp hi]
      exact Nat.lt_succ_self _
  · rw [sumAt_app, sumAt_snoc h.lt, sumAt_one, valAt_new, h.w, wt_snoc, e1]
    rfl
  · rw [sumAt_app, sumAt_snoc h.lt, sumAt_one, valAt_new, h.n]
    rfl
  · rw [wt_snoc, e1]
    rcases List.mem_append.mp ht with ht | ht
    · exact Nat.le_succ_of_le (h.al t ht)
    · rw [List.mem_singleton.mp ht]
      exact Nat.le_add_left 1 _
  · have := h.sum
    rw [wt_snoc, e1]
    omega
  · rw [List.length_append, List.length_singleton]
    have := h.cnt
    omega
  · rw [List.length_append, List.length_singleton] at hl
    have : tops = [] := List.length_eq_zero_iff.mp (by omega)
    rw [this, List.length_append, List.length_singleton]
    rfl
theorem TI.step {t a : Nat} {u : LT} (h : TI l s c nds ts tops) (ht : tops[t]? = some a) (hu : ts[a]? = some u) (hz : (stepL.lookup z).isSome = true) : TI l (s + 1) c (nds ++ [(z, (a : Int), -1)]) (ts ++ [.step z u]) (tops.set t ts.length) := by
  have e1 : wt (z, (a : Int), -1) = 1 := rfl
  have hv : ∀ f, valAt f (ts ++ [.step z u]) a = f u := fun f => by rw [valAt_snoc (List.getElem?_eq_some_iff.mp hu).1, valAt_some hu]
  have hm := List.mem_of_getElem? ht
  refine ⟨h.b.snoc (.step hz hu), fun i hi => ?_, ?_, ?_, fun t' ht' => ?_, ?_, ?_, fun hl => ?_⟩
  · rw [List.length_append, List.length_singleton]
    rcases List.mem_or_eq_of_mem_set hi with hi | hi
    · exact Nat.lt_succ_of_lt (h.lt i hi)
    · rw [hi]
      exact Nat.lt_succ_self _
  · have := sumAt_set (f := LT.wn) (ts := ts ++ [.step z u]) (b := ts.length) ht
    rw [sumAt_snoc h.lt, hv, valAt_new, h.w] at this
    rw [wt_snoc, e1]
    have e : (LT.step z u).wn = u.wn + 1 := rfl
    omega
  · have := sumAt_set (f := LT.sn) (ts := ts ++ [.step z u]) (b := ts.length) ht
    rw [sumAt_snoc h.lt, hv, valAt_new, h.n] at this
    have e : (LT.step z u).sn = u.sn + 1 := rfl
    omega
  · rw [wt_snoc, e1]
    rcases List.mem_append.mp ht' with ht' | ht'
    · exact Nat.le_succ_of_le (h.al t' ht')
    · rw [List.mem_singleton.mp ht']
      have := h.al u (List.mem_of_getElem? hu)
      show u.wn + 1 ≤ _
      omega
  · rw [wt_snoc, e1, h.sum]
    omega
  · rw [List.length_set]
    exact h.cnt
  · rw [List.length_set] at hl
    obtain rfl : tops = [a] := by
      match tops, hl, hm with
      | [x], _, hm => rw [List.mem_singleton.mp hm]
    obtain rfl : t = 0 := by
      have := (List.getElem?_eq_some_iff.mp ht).1
      simp at this
      exact this
    rw [List.length_append, List.length_singleton]
    rfl
theorem TI.bin {t a k : Nat} {u v : LT} (h : TI l s c nds ts (tops ++ [k])) (ht : tops[t]? = some a) (hu : ts[a]? = some u) (hv : ts[k]? = some v) (hz : opB z = true) : TI l s (c + 1) (nds ++ [(z, (a : Int), (k : Int))]) (ts ++ [.bin z u v]) (tops.set t ts.length) := by
  have e1 : wt (z, (a : Int), (k : Int)) = 3 := if_pos (by show (0 : Int) ≤ (k : Int); omega)
  have hlt : ∀ i ∈ tops, i < ts.length := fun i hi => h.lt i (List.mem_append_left _ hi)
  have hva : ∀ f, valAt f (ts ++ [.bin z u v]) a = f u := fun f => by rw [valAt_snoc (List.getElem?_eq_some_iff.mp hu).1, valAt_some hu]
  have hw := h.w
  have hn := h.n
  rw [sumAt_app, sumAt_one, valAt_some hv] at hw hn
  have hm := List.mem_of_getElem? ht
  have e : (LT.bin z u v).wn = u.wn + v.wn + 3 := by
    show (sOpen :: (u.ws ++ z :: (v.ws ++ [sClose]))).length = u.ws.length + v.ws.length + 3
    simp
    omega
  refine ⟨h.b.snoc (.bin hz hu hv), fun i hi => ?_, ?_, ?_, fun t' ht' => ?_, ?_, ?_, fun hl => ?_⟩
  · rw [List.length_append, List.length_singleton]
    rcases List.mem_or_eq_of_mem_set hi with hi | hi
    · exact Nat.lt_succ_of_lt (hlt i hi)
    · rw [hi]
      exact Nat.lt_succ_self _
  · have := sumAt_set (f := LT.wn) (ts := ts ++ [.bin z u v]) (b := ts.length) ht
    rw [sumAt_snoc hlt, hva, valAt_new] at this
    rw [wt_snoc, e1]
    omega
  · have := sumAt_set (f := LT.sn) (ts := ts ++ [.bin z u v]) (b := ts.length) ht
    rw [sumAt_snoc hlt, hva, valAt_new] at this
    have e2 : (LT.bin z u v).sn = u.sn + v.sn := rfl
    omega
  · rw [wt_snoc, e1]
    rcases List.mem_append.mp ht' with ht' | ht'
    · have := h.al t' ht'
      omega
    · rw [List.mem_singleton.mp ht', e]
      have := sumAt_mem (f := LT.wn) (ts := ts) hm
      rw [valAt_some hu] at this
      omega
  · rw [wt_snoc, e1, h.sum]
    omega
  · have := h.cnt
    rw [List.length_append, List.length_singleton] at this
    rw [List.length_set]
    omega
  · rw [List.length_set] at hl
    obtain rfl : tops = [a] := by
      match tops, hl, hm with
      | [x], _, hm => rw [List.mem_singleton.mp hm]
    obtain rfl : t = 0 := by
      have := (List.getElem?_eq_some_iff.mp ht).1
      simp at this
      exact this
    rw [List.length_append, List.length_singleton]
    rfl
end
end K9
set_option Elab.async false
set_option linter.all false
set_option maxRecDepth 100000
set_option maxHeartbeats 4000000
namespace K9
open PySem PySem.Spec PyProof.Rows L2
/-! ### steps through a reading -/
/-- H a = some o, where H is told by its stores -/
local macro_rules | `(tactic| walk_at "look") => `(tactic| first
  | assumption
  | exact upd_same
  | (refine Eq.trans (upd_ne ?_) ?_ <;> first
      | assumption
      | exact Ne.symm (by assumption)
      | exact ne_nw (by assumption) (by walk_at "look")
      | exact Ne.symm (ne_nw (by assumption) (by walk_at "look"))
      | walk_at "look"))
local macro_rules | `(tactic| walk_at "sq") => `(tactic| first
  | assumption
  | exact SqL.of (by walk_at "look")
  | exact SqT.of (by walk_at "look"))
local macro_rules | `(tactic| walk_at "c") => `(tactic| first
  | decide
  | omega
  | assumption
  | exact Or.inr ⟨by decide, by decide⟩
  | exact ⟨by decide, by decide⟩
  | exact Nat.le_of_ble_eq_true rfl
  | exact line1000 (by assumption)
  | (intro z; omega)
  | (dsimp only; first | assumption | omega)
  | (constructor <;> first | decide | omega))
local macro_rules | `(tactic| walk_at "fl") => `(tactic| first
  | assumption
  | rfl
  | exact flat_ints _
  | decide +kernel
  | (simp only [List.all_map, List.all_cons, List.all_nil]; rfl))
local macro_rules | `(tactic| walk_at "ty") => `(tactic| first
  | exact TyX.base (TyOf.str _)
  | exact TyX.base (TyOf.int _)
  | exact TyX.base (TyOf.bl _)
  | exact TyX.base TyOf.non
  | exact TyX.base (TyOf.tup (by walk_at "look"))
  | exact TyX.base (TyOf.lst (by walk_at "look"))
  | exact TyX.base (TyOf.dK (by walk_at "look")))
local macro_rules | `(tactic| walk_at "kit") => `(tactic| first
  | assumption
  | exact kit_str_bool
  | exact kit_str_int
  | exact kit_str_str
  | exact kit_str_dict
  | exact kit_str_list
  | exact kit_str_tuple
  | exact kit_int_bool
  | exact kit_int_int
  | exact kit_int_str
  | exact kit_int_dict
  | exact kit_int_list
  | exact kit_int_tuple
  | exact kit_bool_bool
  | exact kit_bool_int
  | exact kit_bool_str
  | exact kit_bool_dict
  | exact kit_bool_list
  | exact kit_bool_tuple
  | exact kit_list_bool
  | exact kit_list_int
  | exact kit_list_str
  | exact kit_list_dict
  | exact kit_list_list
  | exact kit_list_tuple
  | exact kit_tuple_bool
  | exact kit_tuple_int
  | exact kit_tuple_str
  | exact kit_tuple_dict
  | exact kit_tuple_list
  | exact kit_tuple_tuple
  | exact kit_dict_bool
  | exact kit_dict_int
  | exact kit_dict_str
  | exact kit_dict_dict
  | exact kit_dict_list
  | exact kit_dict_tuple
  | exact kit_NoneType_bool
  | exact kit_NoneType_int
  | exact kit_NoneType_str
  | exact kit_NoneType_dict
  | exact kit_NoneType_list
  | exact kit_NoneType_tuple)
local macro_rules | `(tactic| walk_at "len") => `(tactic| (refine sline ?_; (try simp only [slen, show ("( " : Str).length = 2 from rfl, show (" " : Str).length = 1 from rfl, show (" )" : Str).length = 2 from rfl, show Str.empty.length = 0 from rfl]); omega))
local macro_rules | `(tactic| walk_at "w1") => `(tactic| (first
  | ((with_reducible apply tVar_i); exact rfl)
  | with_reducible refine tC_i ?_
  | with_reducible refine tCons_i ?_
  | with_reducible refine tNil_i ?_
  | with_reducible refine tOp_i ?_
  | with_reducible refine tSeq_i ?_
  | with_reducible refine tAsg_i ?_
  | with_reducible refine tDrop_i ?_
  | with_reducible refine tRet_i ?_
  | with_reducible refine tNext_i ?_
  | with_reducible refine tIfS_i ?_
  | with_reducible refine tIf_i ?_
  | with_reducible refine tTest_i ?_
  | with_reducible refine tB_i ?_
  | with_reducible refine tNot_i ?_
  | with_reducible refine tAnd_i ?_
  | with_reducible refine tOr_i ?_
  | with_reducible refine tAndV_i ?_
  | with_reducible refine tOrV_i ?_
  | with_reducible refine tNotV_i ?_
  | with_reducible refine tNotT_i ?_
  | with_reducible refine tUn_i ?_
  | with_reducible refine tCB_i ?_
  | with_reducible refine tCall_i ?_
  | with_reducible refine tTup_i ?_
  | with_reducible refine tLst_i ?_
  | with_reducible refine tPar_i ?_
  | with_reducible refine tPar3_i ?_
  | with_reducible refine tSl_i ?_
  | with_reducible refine bl_i ?_
  | with_reducible refine tFor_i ?_
  | with_reducible refine tLc_i ?_
  | with_reducible refine iEnum_i ?_
  | with_reducible refine iList_i ?_
  | with_reducible refine iTup_i ?_
  | with_reducible refine iRng1_i ?_
  | ((with_reducible apply enum_i); walk_at "sq")
  | ((with_reducible apply list_i); walk_at "sq")
  | ((with_reducible apply tup_i); walk_at "sq")
  | ((with_reducible refine rng1_i ?_ ?_); walk_at "c")
  | with_reducible refine par2_i ?_
  | with_reducible refine par3_i ?_
  | with_reducible refine gName_i ?_
  | with_reducible refine gc_i ?_
  | with_reducible refine gNil_i ?_
  | with_reducible refine rI0_i ?_
  | with_reducible refine rU_i ?_
  | with_reducible refine max2_i ?_
  | with_reducible refine tM1_i ?_
  | with_reducible refine tM0_i ?_
  | with_reducible refine str_i ?_
  | with_reducible refine tBM_iL ?_
  | with_reducible refine tBM0_iL ?_
  | ((with_reducible refine rEq_i ?_ ?_); exact rfl)
  | ((with_reducible refine rNe_i ?_ ?_); exact rfl)
  | ((with_reducible refine rI_i ?_ ?_); walk_at "c")
  | ((with_reducible apply ty_i); walk_at "sq")
  | ((with_reducible apply gTup_i); walk_at "sq"; exact rfl)
  | ((with_reducible apply rIxL_i); walk_at "sq"; first | exact rfl | assumption)
  | ((with_reducible apply rIxT_i); walk_at "sq"; first | exact rfl | assumption)
  | ((with_reducible apply rInT_i); walk_at "sq"; exact rfl; exact rfl)
  | ((with_reducible apply rInL_i); walk_at "sq"; exact rfl; exact rfl)
  | with_reducible refine gSub_i ?_
  | with_reducible refine tJs1_i ?_
  | with_reducible refine tJs0_i ?_
  | with_reducible refine tFmt_i ?_
  | ((with_reducible refine fmtS_i ?_ ?_); walk_at "len")
  | ((with_reducible refine js_i ?_ ?_); walk_at "len")
  | ((with_reducible apply rCat_i); walk_at "look"; walk_at "look"; walk_at "c")
  | ((with_reducible apply rIsi_i); walk_at "ty"; walk_at "kit")
  | ((with_reducible apply rNe_nil); walk_at "sq"; walk_at "fl"; walk_at "sq")
  | ((with_reducible apply rEq_nil); walk_at "sq"; walk_at "fl"; walk_at "sq")
  | with_reducible refine tDisp_i ?_
  | with_reducible refine tPairs0_i ?_
  | with_reducible refine tPairs1_i ?_
  | ((with_reducible apply disp1_i); walk_at "look")
  | ((with_reducible apply disp2_i); walk_at "look")
  | with_reducible refine tFld_i ?_
  | with_reducible refine sFld_i ?_
  | ((with_reducible apply fld_i); walk_at "look"; assumption; assumption; first | exact rfl | assumption)
  | ((with_reducible apply sfld_i); walk_at "look"; assumption; assumption; walk_at "c")
  | with_reducible refine tRevL_i ?_
  | ((with_reducible apply rev_i); walk_at "sq")
  | ((with_reducible apply rSetL_i); walk_at "look"; first | exact rfl | assumption)
  | ((with_reducible apply rIxK_i); assumption; assumption)
  | ((with_reducible apply rInK_i); assumption)
  | ((with_reducible apply rAppend_i); walk_at "look"; walk_at "c")
  | ((with_reducible apply rPop_i); walk_at "look"; first | exact rfl | assumption)
  | ((with_reducible apply len_i); walk_at "sq")
  | ((with_reducible apply lenT_i); walk_at "sq")
  | ((with_reducible apply rSlL_i); walk_at "sq")
  | with_reducible refine iteT ?_
  | with_reducible refine iteF ?_
  | ((with_reducible refine iteTk ?_ ?_); assumption)
  | ((with_reducible refine iteFk ?_ ?_); assumption)
  | ((with_reducible refine iteTk ?_ ?_); decide +kernel)
  | ((with_reducible refine iteFk ?_ ?_); decide +kernel)
  | ((with_reducible refine iteTk ?_ ?_); exact rfl)
  | ((with_reducible refine iteFk ?_ ?_); exact rfl)
  | with_reducible refine fun (p : Addr) (n : _ = none) => ?_
  | with_reducible refine Or.inl ⟨_, rfl, ?_⟩
  | with_reducible refine ⟨_, rfl, ?_⟩
  | with_reducible refine ⟨_, _, rfl, rfl, ?_⟩
  | ((with_reducible refine ⟨_, _, _, _, _, rfl, ClsV.ty _, ?_, ?_, ?_⟩); walk_at "ty"; walk_at "kit")
  | ((with_reducible refine And.intro ?_ ?_); walk_at "c")))
local macro_rules | `(tactic| walk_at "w") => `(tactic| repeat (walk_at "w1"))
local macro_rules | `(tactic| walk_at "but") => `(tactic| first
  | assumption
  | exact But.refl _ _
  | (refine But.upd ?_; walk_at "but")
  | (refine But.new ?_ (by assumption); walk_at "but"))
local macro_rules | `(tactic| walk_at "same") => `(tactic| first
  | assumption
  | exact Same.refl _
  | (refine Same.new ?_ (by assumption); walk_at "same")
  | (refine Same.trans (by assumption) ?_; walk_at "same"))
local macro_rules | `(tactic| walk_at "x") => `(tactic| (dsimp only [Cx.nox, Cx.wish, cxOf, L2H.cxH]))
theorem JarC.lst {H : Hp} {j c : Addr} (h : JarC H j c) : ∀ r, H j ≠ some (.tup r) := fun r z => by
  obtain ⟨ns, i, r', n, m, h1, _⟩ := h.ex
  rw [h1] at z
  cases z
theorem JarC.upd {H : Hp} {j c p : Addr} {o : HO} (h : JarC H j c) (e1 : p ≠ j) (e2 : p ≠ c) : JarC (L2.upd H p o) j c := by
  obtain ⟨ns, i, r, n, m, h1, h2, h3, h4⟩ := h.ex
  exact ⟨ns, i, r, n, m, (upd_ne (Ne.symm e1)).trans h1, (upd_ne (Ne.symm e2)).trans h2, h3, h4⟩
theorem JarC.old {H : Hp} {j c : Addr} (h : JarC H j c) : H j ≠ none ∧ H c ≠ none := by
  obtain ⟨ns, i, r, n, m, h1, h2, h3, h4⟩ := h.ex
  constructor
  · rw [h1]
    simp
  · rw [h2]
    simp
theorem ixN_at {n j : Nat} (hj : j < n) : ixN n (j : Int) = some j := by
  unfold ixN
  rw [if_pos (by omega), if_pos (by omega), Int.toNat_natCast]
theorem But.updN {j p : Addr} {H H' : Hp} {o : HO} (s : But j H H') (n : H p = none) : But j H (L2.upd H' p o) := fun b u h z => (upd_ne (fun e => by rw [e, n] at h; cases h)).trans (s b u h z)
theorem tCut_i {t u : TS} {D : Ends} {σ : L2.St} {H : Hp} (Mid : L2.St → Hp → Prop) (h1 : t { D with nx := Mid } σ H) (h2 : ∀ σ' H', Mid σ' H' → u D σ' H') : C8.tCut t u D σ H := ⟨Mid, h1, h2⟩
def tCutT (t : TT) : TT := fun σ H Q => ∃ R : Bool → Hp → Prop, t σ H R ∧ ∀ b H', R b H' → Q b H'
theorem pt_cut {X : Cx} {e : Expr} {t : TT} (h : PT X e t) : PT X e (tCutT t) := ⟨fun pins s σ H Q I ⟨R, q, k⟩ => thn (h.run pins s σ H R I q) fun b s1 ⟨H1, I1, r⟩ => ⟨H1, I1, k b H1 r⟩⟩
theorem tCutT_i {t : TT} {σ : L2.St} {H : Hp} {Q : Bool → Hp → Prop} (R : Bool → Hp → Prop) (h : t σ H R) (k : ∀ b H', R b H' → Q b H') : tCutT t σ H Q := ⟨R, h, k⟩
/-- the tree and the tops stand beside the jar -/
structure TSt (H0 H : Hp) (j c p1 p2 : Addr) (as : List Addr) (nds : List Nd) (tops : List Nat) : Prop where
  s : But j H0 H
  jar : JarC H j c
  nc : H0 c ≠ none
  n1 : H0 p1 = none
  n2 : H0 p2 = none
  e1 : p1 ≠ j
  e2 : p2 ≠ j
  ne : p1 ≠ p2
  t : LRa H p1 as (nds.map ndV)
  o : H p2 = some (.lst (tops.map fun i : Nat => V.int (i : Int)))
section
variable {H0 H H' : Hp} {j c p1 p2 T : Addr} {as : List Addr} {nds : List Nd} {tops : List Nat} {o : HO}
theorem TSt.draw (h : TSt H0 H j c p1 p2 as nds tops) (b : But j H H') (J : JarC H' j c) : TSt H0 H' j c p1 p2 as nds tops :=
  ⟨h.s.trans b, J, h.nc, h.n1, h.n2, h.e1, h.e2, h.ne, h.t.but b h.e1 h.jar.lst, b _ _ h.o h.e2⟩
theorem TSt.fresh (h : TSt H0 H j c p1 p2 as nds tops) (n : H T = none) : TSt H0 (upd H T o) j c p1 p2 as nds tops :=
  ⟨h.s.trans (But.of (Same.new (Same.refl _) n)), h.jar.same (Same.new (Same.refl _) n), h.nc, h.n1, h.n2, h.e1, h.e2, h.ne, h.t.fresh n, (upd_ne (ne_nw n h.o)).trans h.o⟩
theorem TSt.push (h : TSt H0 H j c p1 p2 as nds tops) (n : Nd) (hT : H T = some (.tup (ndV n))) : TSt H0 (upd H p1 (.lst (as.map V.ref ++ [.ref T]))) j c p1 p2 (as ++ [T]) (nds ++ [n]) tops := by
  refine ⟨h.s.updN h.n1, h.jar.upd h.e1 (fun z => h.nc (z ▸ h.n1)), h.nc, h.n1, h.n2, h.e1, h.e2, h.ne, ?_, (upd_ne (Ne.symm h.ne)).trans h.o⟩
  rw [List.map_append]
  exact h.t.push hT
theorem TSt.setO (h : TSt H0 H j c p1 p2 as nds tops) (xs : List V) (tops' : List Nat) (e : xs = tops'.map fun i : Nat => V.int (i : Int)) : TSt H0 (upd H p2 (.lst xs)) j c p1 p2 as nds tops' := by
  subst e
  exact ⟨h.s.updN h.n2, h.jar.upd h.e2 (fun z => h.nc (z ▸ h.n2)), h.nc, h.n1, h.n2, h.e1, h.e2, h.ne, h.t.other h.o h.ne, upd_same⟩
end
theorem TI.len {l s c : Nat} {nds : List Nd} {ts : List LT} {tops : List Nat} (h : TI l s c nds ts tops) : ts.length ≤ l + s + 3 * c := by
  rw [← h.sum, ← h.b.len]
  have : ∀ l : List Nd, l.length ≤ (l.map wt).sum := fun l => by
    induction l with
    | nil => exact Nat.le_refl _
    | cons a l ih =>
      rw [List.map_cons, List.sum_cons, List.length_cons]
      have : 1 ≤ wt a := by unfold wt; split <;> omega
      omega
  exact this nds
abbrev s_tree : Stmt := (top 49)
theorem scTree : FnScope ["jar", "leaves", "most", "tree", "tops", "k", "t", "last_word", "k_last", "menu"] ["jar", "leaves", "most"] (defScope (top 49)) := ⟨rfl, rfl, rfl, by decide +kernel, rfl, by decide +kernel, by decide +kernel⟩
def spTree : Sp := fun vs H Q _ => ∃ (j c : Addr) (l m : Nat), vs = [.ref j, .int l, .int m] ∧ JarC H j c ∧ 1 ≤ l ∧ l ≤ 4 ∧ m ≤ 7 ∧
  ∀ p H' nds ts s c', But j H H' → JarC H' j c → H p = none → p ≠ j → LR H' p (nds.map ndV) → TI l s c' nds ts [ts.length - 1] → s ≤ m → 0 < ts.length → Q (.ref p) H'
section
variable {P : Program} {w : World} {K : PySem.W.Frag} {mg : Str → Option Value} {base : Heap} {f : Addr} {fd : FuncData}
theorem ok_tree (Z : Free mg) (F : FnP K "_law_tree" "_law_tree" s_tree [] f fd) {f1 f2 : Addr} {fd1 fd2 : FuncData} (Cd : Cal P w K mg base CX0 1 "_law_draw" ["jar", "many"] spDraw f1 fd1) (Cp : Cal P w K mg base CX0 2 "_law_pick" ["jar", "menu"] (spPick K) f2 fd2) :
    FnOk P w K mg base CX0 3 f fd ["jar", "leaves", "most"] spTree := by
  refine F.ok scTree (fun vs H Q E h => ?_) (fun cdv A outer s H vs Q E hr h => ?_)
  · obtain ⟨a, b, c, d, rfl, _⟩ := h
    rfl
  · have hu := hu_of hr
    obtain ⟨j, c, l, m, rfl, hJ, hl1, hl4, hm7, k⟩ := h
    refine ⟨_, PSs.nox (pss_cons (ps_set (i := 3) scTree.nd rfl (Or.inl rfl) (pe_lst pa_nil))
      (pss_cons (ps_set (i := 4) scTree.nd rfl (Or.inl rfl) (pe_lst pa_nil))
      (pss_cons (ps_for PassesOwn.never rfl (pi_range1 (by rfl) Z.range (pa_cons (pv 1) pa_nil)) (pg_name (i := 5) scTree.nd rfl (Or.inl rfl)) 
        (pss_cons (ps_expr (pe_bm PySem.F.plainAttrs_list PySem.F.slot_list_append PySem.F.type_list_append mt_append (pv 3) (pa_cons (pe_tup (pa_cons (pe_ifExp (pt_cmpR op_eq (pe_call Cd.ok (hr.mono (by omega)) rfl Cd.mg Cd.kp Cd.b .nil pass0 (pa_cons (pv 0) (pa_cons pe_int pa_nil))) pe_int (nomark _)) pe_str pe_str) (pa_cons (pe_un un_neg pe_int) (pa_cons (pe_un un_neg pe_int) pa_nil)))) pa_nil)))
        (pss_one (ps_expr (pe_bm PySem.F.plainAttrs_list PySem.F.slot_list_append PySem.F.type_list_append mt_append (pv 4) (pa_cons (pv 5) pa_nil))))))
      (pss_cons (ps_for PassesOwn.never rfl (pi_range1 (by rfl) Z.range (pa_cons (pe_op op_add (pv 2) (pv 1)) pa_nil)) (pg_name (i := 5) scTree.nd rfl (Or.inl rfl)) 
        (pss_cons (ps_set (i := 6) scTree.nd rfl (Or.inl rfl) (pe_call Cd.ok (hr.mono (by omega)) rfl Cd.mg Cd.kp Cd.b .nil pass0 (pa_cons (pv 0) (pa_cons (pe_callB call_len_seq (by rfl) Z.len PySem.boot_len (pa_cons (pv 4) pa_nil)) pa_nil))))
        (pss_cons (ps_set (i := 7) scTree.nd rfl (Or.inl rfl) (pe_ix ix_tup (pe_ix ix_list (pv 3) (pe_ix ix_list (pv 4) (pv 6) (fun _ _ => rfl)) (fun _ _ => rfl)) pe_int (fun _ _ => rfl)))
        (pss_one (ps_if (pt_cut (PW.pt (pw_and (pt_cmpR op_gt (pe_callB call_len_seq (by rfl) Z.len PySem.boot_len (pa_cons (pv 4) pa_nil)) pe_int (nomark _)) (pw_and1 (PW.pt (pw_or (pt_cmpR op_ge (pv 5) (pv 2) (nomark _)) (pw_or1 (pt_cmpR op_eq (pe_call Cd.ok (hr.mono (by omega)) rfl Cd.mg Cd.kp Cd.b .nil pass0 (pa_cons (pv 0) (pa_cons pe_int pa_nil))) pe_int (nomark _))))))))) 
          (pss_cons (ps_set (i := 8) scTree.nd rfl (Or.inl rfl) (pe_bm0 PySem.F.plainAttrs_list PySem.F.slot_list_pop PySem.F.type_list_pop mt_pop (pv 4)))
          (pss_cons (ps_set (i := 6) scTree.nd rfl (Or.inl rfl) (pe_op op_modN (pe_callTy call_int1 (by rfl) Z.int (by decide +kernel) (pa_cons (pv 6) pa_nil)) (pe_callB call_len_seq (by rfl) Z.len PySem.boot_len (pa_cons (pv 4) pa_nil))))
          (pss_cons (ps_expr (pe_bm PySem.F.plainAttrs_list PySem.F.slot_list_append PySem.F.type_list_append mt_append (pv 3) (pa_cons (pe_tup (pa_cons (pe_call Cp.ok (hr.mono (by omega)) rfl Cp.mg Cp.kp Cp.b .nil pass0 (pa_cons (pv 0) (pa_cons (pe_lst (pa_cons pe_str (pa_cons pe_str pa_nil))) pa_nil))) (pa_cons (pe_ix ix_list (pv 4) (pv 6) (fun _ _ => rfl)) (pa_cons (pv 8) pa_nil)))) pa_nil)))
          (pss_one (ps_asg (pe_op op_sub (pe_callB call_len_seq (by rfl) Z.len PySem.boot_len (pa_cons (pv 3) pa_nil)) pe_int) (pg_sub (pv 4) (pv 6) set_list)))))) 
          (pss_one (ps_if (pt_cmpR op_lt (pv 5) (pv 2) (nomark _)) 
            (pss_cons (ps_set (i := 9) scTree.nd rfl (Or.inl rfl) (pe_lst (pa_cons pe_str (pa_cons pe_str (pa_cons pe_str (pa_cons pe_str pa_nil))))))
            (C8.pss_cut (ps_if (pt_cmpR op_eq (pv 7) pe_str (nomark _)) 
              (pss_one (ps_set (i := 9) scTree.nd rfl (Or.inl rfl) (pe_lst (pa_cons pe_str (pa_cons pe_str (pa_cons pe_str (pa_cons pe_str (pa_cons pe_str (pa_cons pe_str pa_nil))))))))) pss_nil)
            (C8.pss_cut (ps_if (pt_cmpR op_eq (pv 7) pe_str (nomark _)) 
              (pss_one (ps_set (i := 9) scTree.nd rfl (Or.inl rfl) (pe_lst (pa_cons pe_str (pa_cons pe_str (pa_cons pe_str (pa_cons pe_str (pa_cons pe_str (pa_cons pe_str pa_nil))))))))) pss_nil)
            (pss_cons (ps_expr (pe_bm PySem.F.plainAttrs_list PySem.F.slot_list_append PySem.F.type_list_append mt_append (pv 3) (pa_cons (pe_tup (pa_cons (pe_call Cp.ok (hr.mono (by omega)) rfl Cp.mg Cp.kp Cp.b .nil pass0 (pa_cons (pv 0) (pa_cons (pv 9) pa_nil))) (pa_cons (pe_ix ix_list (pv 4) (pv 6) (fun _ _ => rfl)) (pa_cons (pe_un un_neg pe_int) pa_nil)))) pa_nil)))
            (pss_one (ps_asg (pe_op op_sub (pe_callB call_len_seq (by rfl) Z.len PySem.boot_len (pa_cons (pv 3) pa_nil)) pe_int) (pg_sub (pv 4) (pv 6) set_list))))))) pss_nil)))))))
      (pss_one (ps_ret (pv 3))))))), ?_⟩
    walk_at "w"
    rename_i p1 n1 p2 n2
    have n2' : H p2 = none := by rw [upd_ne (Ne.symm (ne_nw n2 upd_same))] at n2; exact n2
    have e1 : p1 ≠ j := fun z => hJ.old.1 (z ▸ n1)
    have e2 : p2 ≠ j := fun z => hJ.old.1 (z ▸ n2')
    have ne : p1 ≠ p2 := ne_nw n2 upd_same
    refine for_range (fun k σ' H' => ∃ (nds : List Nd) (ts : List LT) (tops : List Nat) (as : List Addr) (x5 x6 x7 x8 x9 : Option V), σ' = [some (.ref j), some (.int l), some (.int m), some (.ref p1), some (.ref p2), x5, x6, x7, x8, x9] ∧ TI k 0 0 nds ts tops ∧ ts.length = k ∧ TSt H H' j c p1 p2 as nds tops) ?_ (fun i σ' H' hi h => ?_) (fun σ' H' h => ?_)
    · refine ⟨[], [], [], [], none, none, none, none, none, rfl, TI.nil, rfl, ⟨But.of (Same.new (Same.new (Same.refl _) n1) n2), ?_, hJ.old.2, n1, n2', e1, e2, ne, ⟨(upd_ne ne).trans upd_same, .nil⟩, upd_same⟩⟩
      exact hJ.same (Same.new (Same.new (Same.refl _) n1) n2)
    · refine gName_i ?_
      refine abs_ends rfl rfl fun D hnx hrt => ?_
      obtain ⟨nds, ts, tops, as, x5, x6, x7, x8, x9, rfl, hT, hlen, hS⟩ := h
      have ho := hS.o
      have hal := hS.t.l
      walk_at "w"
      refine ⟨j, c, 3, rfl, hS.jar, by decide, by decide, fun d H2 hd0 hd3 hB hJ2 => ?_⟩
      replace hS := hS.draw hB hJ2
      have ho := hS.o
      have hal := hS.t.l
      have hla := hS.t.len
      rw [List.length_map, hT.b.len] at hla
      have hlo : tops.length = i := by have := hT.cnt; omega
      have z1 : (as.map V.ref).length < sizeLine := by
        rw [List.length_map, hla]
        exact small1000 (by omega)
      have z2 : (tops.map fun i : Nat => V.int (i : Int)).length < sizeLine := by
        rw [List.length_map]
        exact small1000 (by omega)
      have hne' := hS.ne
      have fin : ∀ (z : Str) (T : Addr), leafB z = true → H2 T = none → D.nx [some (.ref j), some (.int l), some (.int m), some (.ref p1), some (.ref p2), some (.int (0 + (i : Int))), x6, x7, x8, x9]
          (upd (upd (upd H2 T (.tup [.str z, .int (-1), .int (-1)])) p1 (.lst (as.map V.ref ++ [.ref T]))) p2 (.lst ((tops.map fun i : Nat => V.int (i : Int)) ++ [.int (0 + (i : Int))]))) := fun z T hz nT => by
        refine hnx _ _ ⟨_, _, _, _, _, _, _, _, _, rfl, hT.leaf hz, by rw [List.length_append, hlen]; rfl, ((hS.fresh nT).push (z, -1, -1) upd_same).setO _ _ ?_⟩
        rw [List.map_append, hlen, Int.zero_add]
        rfl
      walk_at "w"
      refine iteB (fun hd => ?_) (fun hd => ?_)
      all_goals
        walk_at "w"
        exact fin _ _ (by decide +kernel) (by assumption)
    · obtain ⟨nds, ts, tops, as, x5, x6, x7, x8, x9, rfl, hT, hlen, hS⟩ := h
      rw [Int.toNat_natCast] at hT hlen
      walk_at "w"
      refine for_range (fun i σ' H' => ∃ (s c' : Nat) (nds : List Nd) (ts : List LT) (tops : List Nat) (as : List Addr) (x5 x6 x7 x8 x9 : Option V), σ' = [some (.ref j), some (.int l), some (.int m), some (.ref p1), some (.ref p2), x5, x6, x7, x8, x9] ∧ TI l s c' nds ts tops ∧ s ≤ m ∧ s ≤ i ∧ 1 ≤ tops.length ∧
        (m ≤ i → tops.length + i ≤ l + m ∨ tops.length ≤ 1) ∧ TSt H H' j c p1 p2 as nds tops) ?_ (fun i σ' H' hi h => ?_) (fun σ' H' h => ?_)
      · exact ⟨0, 0, nds, ts, tops, as, x5, x6, x7, x8, x9, rfl, hT, Nat.zero_le _, Nat.zero_le _, by have := hT.cnt; omega, by have := hT.cnt; omega, hS⟩
      · refine gName_i ?_
        refine abs_ends rfl rfl fun D hnx hrt => ?_
        clear hS hT hlen
        obtain ⟨s, c', nds, ts, tops, as, x5, x6, x7, x8, x9, rfl, hT, hsm, hsi, ht1, htb, hS⟩ := h
        have hi : i < m + l := by omega
        have hcnt := hT.cnt
        have htl := hT.len
        have ho := hS.o
        have hal := hS.t.l
        walk_at "w"
        refine ⟨j, c, _, rfl, hS.jar, by rw [List.length_map]; omega, by rw [List.length_map]; omega, fun d H2 hd0 hd3 hB hJ2 => ?_⟩
        rw [List.length_map] at hd3
        obtain ⟨d, rfl⟩ : ∃ n : Nat, d = (n : Int) := ⟨d.toNat, by omega⟩
        replace hS := hS.draw hB hJ2
        clear ho hal
        have ho := hS.o
        have hal := hS.t.l
        have hdl : d < tops.length := by omega
        obtain ⟨a, ha⟩ : ∃ a, tops[d]? = some a := ⟨tops[d], List.getElem?_eq_getElem hdl⟩
        have hA : atI (tops.map fun i : Nat => V.int (i : Int)) (d : Int) = some (.int a) := atI_nat (by rw [List.getElem?_map, ha]; rfl)
        have hlt : a < ts.length := hT.lt a (List.mem_of_getElem? ha)
        have hla := hS.t.len
        rw [List.length_map, hT.b.len] at hla
        obtain ⟨b, hb⟩ : ∃ b, as[a]? = some b := ⟨as[a]'(by omega), List.getElem?_eq_getElem _⟩
        obtain ⟨nd, hnd⟩ : ∃ nd, nds[a]? = some nd := ⟨nds[a]'(by rw [hT.b.len]; omega), List.getElem?_eq_getElem _⟩
        obtain ⟨u, hu'⟩ : ∃ u, ts[a]? = some u := ⟨ts[a]'(by omega), List.getElem?_eq_getElem _⟩
        have hBt : atI (as.map V.ref) (a : Int) = some (.ref b) := atI_nat (by rw [List.getElem?_map, hb]; rfl)
        have hbt : H2 b = some (.tup [.str nd.1, .int nd.2.1, .int nd.2.2]) := paired_get hS.t.r hb (by rw [List.getElem?_map, hnd]; rfl)
        have z1 : (as.map V.ref).length < sizeLine := by
          rw [List.length_map, hla]
          exact small1000 (by omega)
        walk_at "w"
        refine tCutT_i (fun b H' => (b = true → 1 < tops.length) ∧ (b = false → i < m ∨ tops.length ≤ 1) ∧ But j H2 H' ∧ JarC H' j c) ?_ fun bb H3 ⟨hb1, hb2, hB2, hJ3⟩ => ?_
        · walk_at "w"
          refine iteB (fun h1 => ?_) (fun h1 => ?_)
          · walk_at "w"
            refine iteB (fun h2 => ?_) (fun h2 => ?_)
            · exact ⟨fun _ => by have := of_decide_eq_true h1; rw [List.length_map] at this; omega, fun z => Bool.noConfusion z, But.refl _ _, hS.jar⟩
            · walk_at "w"
              refine ⟨j, c, 3, rfl, hS.jar, by decide, by decide, fun e H3 he0 he3 hB3 hJ3 => ?_⟩
              walk_at "w"
              exact ⟨fun _ => by have := of_decide_eq_true h1; rw [List.length_map] at this; omega, fun _ => .inl (by have := of_decide_eq_false h2; omega), hB3, hJ3⟩
          · exact ⟨fun z => Bool.noConfusion z, fun _ => .inr (by have := of_decide_eq_false h1; rw [List.length_map] at this; omega), But.refl _ _, hS.jar⟩
        · cases bb with
          | true =>
            refine iteTk rfl ?_
            replace hS := hS.draw hB2 hJ3
            clear ho hal
            obtain ⟨tp, kl, rfl⟩ : ∃ tp kl, tops = tp ++ [kl] := ⟨tops.dropLast, tops.getLast (by rintro rfl; simp at ht1), (List.dropLast_concat_getLast _).symm⟩
            have htp : 1 ≤ tp.length := by
              have := hb1 rfl
              rw [List.length_append, List.length_singleton] at this
              omega
            obtain ⟨xs, hxs⟩ : ∃ xs, xs = (tp ++ [kl]).map fun i : Nat => V.int (i : Int) := ⟨_, rfl⟩
            have ho := hS.o
            rw [← hxs] at ho
            have hpop : xs[xs.length - 1]? = some (.int kl) := by rw [hxs]; simp
            have hdrop : xs.dropLast = tp.map fun i : Nat => V.int (i : Int) := by rw [hxs]; simp
            have hdlen : xs.dropLast.length = tp.length := by rw [hdrop, List.length_map]
            have hdz : (xs.dropLast.length : Int) ≠ 0 := by omega
            have hal := hS.t.l
            have hne1 := hS.ne
            replace hS := hS.setO _ tp hdrop
            obtain ⟨e, he, hel⟩ : ∃ e : Nat, (d : Int).fmod (xs.dropLast.length : Int) = (e : Int) ∧ e < tp.length := by
              have h1 := Int.fmod_nonneg_of_pos (d : Int) (b := (xs.dropLast.length : Int)) (by omega)
              have h2 := Int.fmod_lt_of_pos (d : Int) (b := (xs.dropLast.length : Int)) (by omega)
              exact ⟨((d : Int).fmod (xs.dropLast.length : Int)).toNat, by omega, by omega⟩
            obtain ⟨a2, ha2⟩ : ∃ a, tp[e]? = some a := ⟨tp[e], List.getElem?_eq_getElem hel⟩
            obtain ⟨u2, hu2⟩ : ∃ u, ts[a2]? = some u := ⟨ts[a2]'(hT.lt a2 (List.mem_append_left _ (List.mem_of_getElem? ha2))), List.getElem?_eq_getElem _⟩
            obtain ⟨v2, hv2⟩ : ∃ u, ts[kl]? = some u := ⟨ts[kl]'(hT.lt kl (List.mem_append_right _ List.mem_cons_self)), List.getElem?_eq_getElem _⟩
            have hE : atI (tp.map fun i : Nat => V.int (i : Int)) (e : Int) = some (.int a2) := atI_nat (by rw [List.getElem?_map, ha2]; rfl)
            walk_at "w"
            rename_i pm nm
            have hpj : pm ≠ j := Ne.symm (ne_nw nm (o := _) hS.jar.ex.choose_spec.choose_spec.choose_spec.choose_spec.choose_spec.1)
            refine ⟨j, c, pm, _, rfl, (hS.fresh nm).jar, upd_same, hpj, by decide, by decide, fun q x H4 hx hB4 hJ4 => ?_⟩
            replace hS := (hS.fresh nm).draw hB4 hJ4
            obtain ⟨z, rfl, hz⟩ : ∃ z, x = .str z ∧ opB z = true := by
              have := List.mem_of_getElem? hx
              simp only [List.mem_cons, List.not_mem_nil, or_false] at this
              rcases this with rfl | rfl
              · exact ⟨_, rfl, by decide +kernel⟩
              · exact ⟨_, rfl, by decide +kernel⟩
            clear ho hal
            have ho := hS.o
            have hal := hS.t.l
            rw [he]
            walk_at "w"
            rename_i T nT
            have hix : ixN (tp.map fun i : Nat => V.int (i : Int)).length (e : Int) = some e := ixN_at (by rw [List.length_map]; exact hel)
            walk_at "w"
            refine hnx _ _ ⟨s, c' + 1, _, _, _, _, _, _, _, _, _, rfl, hT.bin ha2 hu2 hv2 hz, hsm, by omega, by rw [List.length_set]; exact htp, ?_, ((hS.fresh nT).push (z, (a2 : Int), (kl : Int)) upd_same).setO _ _ ?_⟩
            · rw [List.length_set]
              rw [List.length_append, List.length_singleton] at hcnt htb
              omega
            · rw [List.map_set]
              congr 2
              rw [List.length_append, List.length_map, hla, List.length_singleton]
              omega
          | false =>
            refine iteFk rfl ?_
            replace hS := hS.draw hB2 hJ3
            clear ho hal
            have hJn := hS.jar
            walk_at "w"
            refine iteB (fun hd => ?_) (fun hd => ?_)
            · walk_at "w"
              rename_i pm nm
              obtain ⟨Mid, hMid⟩ : ∃ Mid : L2.St → Hp → Prop, Mid = fun σ' H' => ∃ (pm : Addr) (xs : List Str), σ' = [some (.ref j), some (.int l), some (.int m), some (.ref p1), some (.ref p2), some (.int (0 + (i : Int))), some (.int d), some (.str nd.1), x8, some (.ref pm)] ∧
                H' pm = some (.lst (xs.map V.str)) ∧ pm ≠ j ∧ (∀ x ∈ xs, (stepL.lookup x).isSome = true) ∧ 0 < xs.length ∧ xs.length < 1000 ∧ TSt H H' j c p1 p2 as nds tops := ⟨_, rfl⟩
              have mk : ∀ (H' : Hp) (pm : Addr) (xs : List Str) (y : Option V), H' pm = none → (∀ x ∈ xs, (stepL.lookup x).isSome = true) → 0 < xs.length → xs.length < 1000 → TSt H H' j c p1 p2 as nds tops →
                  Mid [some (.ref j), some (.int l), some (.int m), some (.ref p1), some (.ref p2), some (.int (0 + (i : Int))), some (.int d), some (.str nd.1), x8, some (.ref pm)] (upd H' pm (.lst (xs.map V.str))) := fun H' pm xs y n h1 h2 h3 h4 => by
                rw [hMid]
                exact ⟨pm, xs, rfl, upd_same, fun z => h4.jar.old.1 (z ▸ n), h1, h2, h3, h4.fresh n⟩
              have m0 := mk H3 pm ["r", "u", "r?", "u?"] none nm (by decide +kernel) (by decide) (by decide) hS
              refine tCut_i Mid ?_ (fun σ1 H5 hm1 => tCut_i Mid ?_ (fun σ2 H6 hm2 => ?_))
              · walk_at "w"
                refine iteB (fun h1 => ?_) (fun h1 => ?_)
                · walk_at "w"
                  rename_i pm2 nm2
                  exact mk _ pm2 ["r?", "u?", "r?", "u?", "r", "u"] none nm2 (by decide +kernel) (by decide) (by decide) (hS.fresh nm)
                · walk_at "w"
                  exact m0
              · rw [hMid] at hm1
                obtain ⟨pm1, xs, rfl, hm, hmj, hxs, hx0, hx1, hS1⟩ := id hm1
                walk_at "w"
                refine iteB (fun h1 => ?_) (fun h1 => ?_)
                · walk_at "w"
                  rename_i pm2 nm2
                  exact mk _ pm2 ["r", "u", "r", "u", "r?", "u?"] none nm2 (by decide +kernel) (by decide) (by decide) hS1
                · walk_at "w"
                  rw [hMid]
                  exact hm1
              · rw [hMid] at hm2
                clear m0 mk
                clear hS
                obtain ⟨pm1, xs, rfl, hm, hmj, hxs, hx0, hx1, hS⟩ := hm2
                have hal := hS.t.l
                walk_at "w"
                refine ⟨j, c, pm1, _, rfl, hS.jar, hm, hmj, by rw [List.length_map]; exact hx0, by rw [List.length_map]; exact hx1, fun q x H4 hx hB4 hJ4 => ?_⟩
                replace hS := hS.draw hB4 hJ4
                obtain ⟨z, rfl, hz⟩ : ∃ z, x = .str z ∧ (stepL.lookup z).isSome = true := by
                  have := List.mem_of_getElem? hx
                  obtain ⟨z, h1, rfl⟩ := List.mem_map.mp this
                  exact ⟨z, rfl, hxs z h1⟩
                clear hal
                have ho := hS.o
                have hal := hS.t.l
                have hne1 := hS.ne
                walk_at "w"
                rename_i T nT
                have hix : ixN (tops.map fun i : Nat => V.int (i : Int)).length (d : Int) = some d := ixN_at (by rw [List.length_map]; exact hdl)
                walk_at "w"
                refine hnx _ _ ⟨s + 1, c', _, _, _, _, _, _, _, _, _, rfl, hT.step ha hu' hz, ?_, by omega, by rw [List.length_set]; exact ht1, ?_, ((hS.fresh nT).push (z, (a : Int), -1) upd_same).setO _ _ ?_⟩
                · have := of_decide_eq_true hd
                  omega
                · rw [List.length_set]
                  have := of_decide_eq_true hd
                  omega
                · rw [List.map_set]
                  congr 2
                  rw [List.length_append, List.length_map, hla, List.length_singleton]
                  omega
            · have := of_decide_eq_false hd
              rcases hb2 rfl with h1 | h1
              · omega
              · exact hnx _ _ ⟨s, c', nds, ts, tops, as, _, _, _, _, _, rfl, hT, hsm, by omega, ht1, by omega, hS⟩
      · rw [show ((m : Int) + (l : Int)).toNat = m + l by omega] at h
        clear hS hT hlen
        obtain ⟨s, c', nds, ts, tops, as, x5, x6, x7, x8, x9, rfl, hT, hsm, hsi, ht1, htb, hS⟩ := h
        have ht : tops = [ts.length - 1] := hT.last (by have := htb (by omega); omega)
        subst ht
        walk_at "w"
        exact k p1 H' nds ts s c' hS.s hS.jar n1 e1 ⟨as, hS.t⟩ hT hsm (by have := hT.lt _ List.mem_cons_self; omega)
end
end K9
set_option Elab.async false
set_option linter.all false
set_option maxRecDepth 100000
set_option maxHeartbeats 4000000
/-! Items of a list behind a first one that gives a token out: x.replace(..) among them. -/
namespace K9
open PySem PySem.Spec PySem.Calls PyProof.Rows L2
section
variable {X : Cx} {a : Expr} {es : List Expr} {ta : TE} {t : TA} {op : Operator} {r : R2} {y : Str} {j : Nat} {c p : Pos}
/-- [a op "y", ..]: behind the first item a token is out -/
theorem pa_tok (ho : OpR X (binaryOp op) r) (ha : PE X a ta) (hr : PAT X es t) (hs : starEach (.BinOp a op (.Constant (.str y) j c) p :: es) X.env = (false, eval (.BinOp a op (.Constant (.str y) j c) p) X.env) :: starEach es X.env := by rfl) :
    PA X (.BinOp a op (.Constant (.str y) j c) p :: es) (tCons (tOp r ta (tC (.str y))) t) := by
  refine ⟨fun pos pins s σ H Q I h => ?_⟩
  rw [hs]
  show wpAny _ _ (spliced ((false, eval (.BinOp a op (.Constant (.str y) j c) p) X.env) :: backTo pos (starEach es X.env))) _ _ s
  refine Calls.spliced_cons (Q := fun _ s' => _) ?_
  refine wpAny_BinOp (thn (ha.run pins s σ H _ I h) fun v s1 ⟨x, H1, I1, r1, q1⟩ => Calls.Constant_str ?_)
  refine wpAny_mono (PySem.wpAny_toks (ho pins _ σ H1 x (.str y) v _ _ (I1.tok (s1.toks + 1)) r1 ⟨_, rfl⟩ q1)) (fun u s2 q => ?_) fun _ _ z => z.2
  obtain ⟨hk, z, H2, I2, r2, q2⟩ := q
  have hk : s1.toks + 1 ≤ s2.toks := hk
  exact thn (hr pos pins s2 σ H2 _ (by omega) I2 q2) fun us s3 ⟨xs, H3, I3, r3, q3⟩ => ⟨z :: xs, H3, I3, .cons r2 r3, q3⟩
end
theorem tReplC_i {to : TE} {y z : Str} {σ : L2.St} {H : Hp} {Q : VK} (k : to σ H fun v H1 => ∃ x, v = .str x ∧ x.length + (x.length + 1) * z.length ≤ 16777216 ∧ Q (.str (Txt.replace x y z)) H1) : CwR.tReplC to y z σ H Q := k
/-! ### lengths of texts cut and joined -/
def msum (ws : List Str) : Nat := (ws.map (·.length)).sum + ws.length
theorem msum_nil : msum [] = 0 := rfl
theorem msum_cons (a : Str) (l : List Str) : msum (a :: l) = a.length + 1 + msum l := by
  unfold msum
  rw [List.map_cons, List.sum_cons, List.length_cons]
  omega
theorem msum_app (l m : List Str) : msum (l ++ m) = msum l + msum m := by
  unfold msum
  rw [List.map_append, List.sum_append, List.length_append]
  omega
theorem join_len (sep : Str) (ws : List Str) : (Str.join sep ws).length = (ws.map (·.length)).sum + (ws.length - 1) * sep.length := by
  rw [← StrLaws.glued_eq_join, PySem.size_glued]
theorem join_le (ws : List Str) : (Str.join " " ws).length ≤ msum ws := by
  rw [join_len, show (" " : Str).length = 1 from rfl]
  unfold msum
  omega
theorem msum_split (x : Str) : msum (Txt.split x " ") = x.length + 1 := by
  have h := congrArg Str.length (StrLaws.join_split x " ")
  rw [join_len, show (" " : Str).length = 1 from rfl] at h
  have := split_pos x " "
  unfold msum
  omega
theorem msum_mem {z : Str} : ∀ {ws : List Str}, z ∈ ws → z.length + 1 ≤ msum ws
  | a :: l, h => by
    rw [msum_cons]
    rcases List.mem_cons.mp h with rfl | h
    · omega
    · have := msum_mem h
      omega
theorem msum_take (n : Nat) (ws : List Str) : msum (ws.take n) ≤ msum ws := by
  have := msum_app (ws.take n) (ws.drop n)
  rw [List.take_append_drop] at this
  omega
theorem msum_erase : ∀ (ws : List Str) (n : Nat), msum (ws.eraseIdx n) ≤ msum ws
  | [], n => by simp
  | a :: l, 0 => by
    rw [List.eraseIdx_cons_zero, msum_cons]
    omega
  | a :: l, n + 1 => by
    have := msum_erase l n
    rw [List.eraseIdx_cons_succ, msum_cons, msum_cons]
    omega
theorem msum_ins (ws : List Str) (n : Nat) (z : Str) : msum (ws.take n ++ [z] ++ ws.drop n) = msum ws + z.length + 1 := by
  have := msum_app (ws.take n) (ws.drop n)
  rw [List.take_append_drop] at this
  rw [msum_app, msum_app, msum_cons, msum_nil]
  omega
theorem msum_set : ∀ {ws : List Str} {n : Nat} {a : Str} (z : Str), ws[n]? = some a → msum (ws.set n z) + a.length = msum ws + z.length
  | [], n, a, z, h => by simp at h
  | b :: l, 0, a, z, h => by
    cases Option.some.inj h
    show msum (z :: l) + _ = _
    rw [msum_cons, msum_cons]
    omega
  | b :: l, n + 1, a, z, h => by
    have := msum_set (ws := l) (n := n) z h
    show msum (b :: l.set n z) + _ = _
    rw [msum_cons, msum_cons]
    omega
theorem rep_len (x z : Str) (hz : z.length ≤ 2) : (Txt.replace x " " z).length ≤ 2 * x.length := by
  have h := congrArg Str.length (StrLaws.join_split x " ")
  rw [join_len, show (" " : Str).length = 1 from rfl] at h
  rw [show (" " : Str) = ⟨#[32]⟩ from rfl, StrLaws.replace_one, ← show (" " : Str) = ⟨#[32]⟩ from rfl, join_len]
  have : ((Txt.split x " ").length - 1) * z.length ≤ ((Txt.split x " ").length - 1) * 2 := Nat.mul_le_mul_left _ hz
  omega
end K9
set_option Elab.async false
set_option linter.all false
set_option maxRecDepth 100000
set_option maxHeartbeats 4000000
namespace K9
open PySem PySem.Spec PyProof.Rows L2
/-! ### steps through a reading -/
/-- H a = some o, where H is told by its stores -/
local macro_rules | `(tactic| walk_at "look") => `(tactic| first
  | assumption
  | exact upd_same
  | (refine Eq.trans (upd_ne ?_) ?_ <;> first
      | assumption
      | exact Ne.symm (by assumption)
      | exact ne_nw (by assumption) (by walk_at "look")
      | exact Ne.symm (ne_nw (by assumption) (by walk_at "look"))
      | walk_at "look"))
local macro_rules | `(tactic| walk_at "sq") => `(tactic| first
  | assumption
  | exact SqL.of (by walk_at "look")
  | exact SqT.of (by walk_at "look"))
local macro_rules | `(tactic| walk_at "c") => `(tactic| first
  | decide
  | omega
  | assumption
  | exact Or.inr ⟨by decide, by decide⟩
  | exact ⟨by decide, by decide⟩
  | exact Nat.le_of_ble_eq_true rfl
  | exact line1000 (by assumption)
  | (intro z; omega)
  | (dsimp only; first | assumption | omega)
  | (constructor <;> first | decide | omega))
local macro_rules | `(tactic| walk_at "fl") => `(tactic| first
  | assumption
  | rfl
  | exact flat_ints _
  | decide +kernel
  | (simp only [List.all_map, List.all_cons, List.all_nil]; rfl))
local macro_rules | `(tactic| walk_at "ty") => `(tactic| first
  | exact TyX.base (TyOf.str _)
  | exact TyX.base (TyOf.int _)
  | exact TyX.base (TyOf.bl _)
  | exact TyX.base TyOf.non
  | exact TyX.base (TyOf.tup (by walk_at "look"))
  | exact TyX.base (TyOf.lst (by walk_at "look"))
  | exact TyX.base (TyOf.dK (by walk_at "look")))
local macro_rules | `(tactic| walk_at "kit") => `(tactic| first
  | assumption
  | exact kit_str_bool
  | exact kit_str_int
  | exact kit_str_str
  | exact kit_str_dict
  | exact kit_str_list
  | exact kit_str_tuple
  | exact kit_int_bool
  | exact kit_int_int
  | exact kit_int_str
  | exact kit_int_dict
  | exact kit_int_list
  | exact kit_int_tuple
  | exact kit_bool_bool
  | exact kit_bool_int
  | exact kit_bool_str
  | exact kit_bool_dict
  | exact kit_bool_list
  | exact kit_bool_tuple
  | exact kit_list_bool
  | exact kit_list_int
  | exact kit_list_str
  | exact kit_list_dict
  | exact kit_list_list
  | exact kit_list_tuple
  | exact kit_tuple_bool
  | exact kit_tuple_int
  | exact kit_tuple_str
  | exact kit_tuple_dict
  | exact kit_tuple_list
  | exact kit_tuple_tuple
  | exact kit_dict_bool
  | exact kit_dict_int
  | exact kit_dict_str
  | exact kit_dict_dict
  | exact kit_dict_list
  | exact kit_dict_tuple
  | exact kit_NoneType_bool
  | exact kit_NoneType_int
  | exact kit_NoneType_str
  | exact kit_NoneType_dict
  | exact kit_NoneType_list
  | exact kit_NoneType_tuple)
local macro_rules | `(tactic| walk_at "len") => `(tactic| (refine sline ?_; (try simp only [slen, show ("( " : Str).length = 2 from rfl, show (" " : Str).length = 1 from rfl, show (" )" : Str).length = 2 from rfl, show Str.empty.length = 0 from rfl]); omega))
local macro_rules | `(tactic| walk_at "w1") => `(tactic| (first
  | ((with_reducible apply tVar_i); exact rfl)
  | with_reducible refine tC_i ?_
  | with_reducible refine tCons_i ?_
  | with_reducible refine tNil_i ?_
  | with_reducible refine tOp_i ?_
  | with_reducible refine tSeq_i ?_
  | with_reducible refine tAsg_i ?_
  | with_reducible refine tDrop_i ?_
  | with_reducible refine tRet_i ?_
  | with_reducible refine tNext_i ?_
  | with_reducible refine tIfS_i ?_
  | with_reducible refine tIf_i ?_
  | with_reducible refine tTest_i ?_
  | with_reducible refine tB_i ?_
  | with_reducible refine tNot_i ?_
  | with_reducible refine tAnd_i ?_
  | with_reducible refine tOr_i ?_
  | with_reducible refine tAndV_i ?_
  | with_reducible refine tOrV_i ?_
  | with_reducible refine tNotV_i ?_
  | with_reducible refine tNotT_i ?_
  | with_reducible refine tUn_i ?_
  | with_reducible refine tCB_i ?_
  | with_reducible refine tCall_i ?_
  | with_reducible refine tTup_i ?_
  | with_reducible refine tLst_i ?_
  | with_reducible refine tPar_i ?_
  | with_reducible refine tPar3_i ?_
  | with_reducible refine tSl_i ?_
  | with_reducible refine bl_i ?_
  | with_reducible refine tFor_i ?_
  | with_reducible refine tLc_i ?_
  | with_reducible refine iEnum_i ?_
  | with_reducible refine iList_i ?_
  | with_reducible refine iTup_i ?_
  | with_reducible refine iRng1_i ?_
  | ((with_reducible apply enum_i); walk_at "sq")
  | ((with_reducible apply list_i); walk_at "sq")
  | ((with_reducible apply tup_i); walk_at "sq")
  | ((with_reducible refine rng1_i ?_ ?_); walk_at "c")
  | with_reducible refine par2_i ?_
  | with_reducible refine par3_i ?_
  | with_reducible refine gName_i ?_
  | with_reducible refine gc_i ?_
  | with_reducible refine gNil_i ?_
  | with_reducible refine rI0_i ?_
  | with_reducible refine rU_i ?_
  | with_reducible refine max2_i ?_
  | with_reducible refine tM1_i ?_
  | with_reducible refine tM0_i ?_
  | with_reducible refine str_i ?_
  | with_reducible refine tBM_iL ?_
  | with_reducible refine tBM0_iL ?_
  | ((with_reducible refine rEq_i ?_ ?_); exact rfl)
  | ((with_reducible refine rNe_i ?_ ?_); exact rfl)
  | ((with_reducible refine rI_i ?_ ?_); walk_at "c")
  | ((with_reducible apply ty_i); walk_at "sq")
  | ((with_reducible apply gTup_i); walk_at "sq"; exact rfl)
  | ((with_reducible apply rIxL_i); walk_at "sq"; first | exact rfl | assumption)
  | ((with_reducible apply rIxT_i); walk_at "sq"; first | exact rfl | assumption)
  | ((with_reducible apply rInT_i); walk_at "sq"; exact rfl; exact rfl)
  | ((with_reducible apply rInL_i); walk_at "sq"; exact rfl; exact rfl)
  | with_reducible refine gSub_i ?_
  | with_reducible refine tJs1_i ?_
  | with_reducible refine tJs0_i ?_
  | with_reducible refine tFmt_i ?_
  | ((with_reducible refine fmtS_i ?_ ?_); walk_at "len")
  | ((with_reducible refine js_i ?_ ?_); walk_at "len")
  | ((with_reducible apply rCat_i); walk_at "look"; walk_at "look"; walk_at "c")
  | ((with_reducible apply rIsi_i); walk_at "ty"; walk_at "kit")
  | ((with_reducible apply rNe_nil); walk_at "sq"; walk_at "fl"; walk_at "sq")
  | ((with_reducible apply rEq_nil); walk_at "sq"; walk_at "fl"; walk_at "sq")
  | with_reducible refine tDisp_i ?_
  | with_reducible refine tPairs0_i ?_
  | with_reducible refine tPairs1_i ?_
  | ((with_reducible apply disp1_i); walk_at "look")
  | ((with_reducible apply disp2_i); walk_at "look")
  | with_reducible refine tFld_i ?_
  | with_reducible refine sFld_i ?_
  | ((with_reducible apply fld_i); walk_at "look"; assumption; assumption; first | exact rfl | assumption)
  | ((with_reducible apply sfld_i); walk_at "look"; assumption; assumption; walk_at "c")
  | with_reducible refine tRevL_i ?_
  | ((with_reducible apply rev_i); walk_at "sq")
  | ((with_reducible apply rSetL_i); walk_at "look"; first | exact rfl | assumption)
  | ((with_reducible apply rIxK_i); assumption; assumption)
  | ((with_reducible apply rInK_i); assumption)
  | ((with_reducible apply rAppend_i); walk_at "look"; walk_at "c")
  | ((with_reducible apply rPop_i); walk_at "look"; first | exact rfl | assumption)
  | ((with_reducible apply len_i); walk_at "sq")
  | ((with_reducible apply lenT_i); walk_at "sq")
  | ((with_reducible apply rSlL_i); walk_at "sq")
  | with_reducible refine iteT ?_
  | with_reducible refine iteF ?_
  | ((with_reducible refine iteTk ?_ ?_); assumption)
  | ((with_reducible refine iteFk ?_ ?_); assumption)
  | ((with_reducible refine iteTk ?_ ?_); decide +kernel)
  | ((with_reducible refine iteFk ?_ ?_); decide +kernel)
  | ((with_reducible refine iteTk ?_ ?_); exact rfl)
  | ((with_reducible refine iteFk ?_ ?_); exact rfl)
  | with_reducible refine fun (p : Addr) (n : _ = none) => ?_
  | with_reducible refine Or.inl ⟨_, rfl, ?_⟩
  | with_reducible refine ⟨_, rfl, ?_⟩
  | with_reducible refine ⟨_, _, rfl, rfl, ?_⟩
  | ((with_reducible refine ⟨_, _, _, _, _, rfl, ClsV.ty _, ?_, ?_, ?_⟩); walk_at "ty"; walk_at "kit")
  | ((with_reducible refine And.intro ?_ ?_); walk_at "c")))
local macro_rules | `(tactic| walk_at "w") => `(tactic| repeat (walk_at "w1"))
local macro_rules | `(tactic| walk_at "but") => `(tactic| first
  | assumption
  | exact But.refl _ _
  | (refine But.upd ?_; walk_at "but")
  | (refine But.new ?_ (by assumption); walk_at "but"))
local macro_rules | `(tactic| walk_at "same") => `(tactic| first
  | assumption
  | exact Same.refl _
  | (refine Same.new ?_ (by assumption); walk_at "same")
  | (refine Same.trans (by assumption) ?_; walk_at "same"))
local macro_rules | `(tactic| walk_at "x") => `(tactic| (dsimp only [Cx.nox, Cx.wish, cxOf, L2H.cxH]))
abbrev s_bent : Stmt := (top 55)
theorem scBent : FnScope ["jar", "body", "words", "k", "way_of", "menu", "j"] ["jar", "body"] (defScope (top 55)) := ⟨rfl, rfl, rfl, by decide +kernel, rfl, by decide +kernel, by decide +kernel⟩
def bmenu : List Str := ["all", "none", "(", ")", "+", "&", "r", "u", "r?", "u?", "", "x", "All", "r?r", "-", "d", "?", "(all", "l"]
def spBent : Sp := fun vs H Q _ => ∃ (j c : Addr) (x : Str), vs = [.ref j, .str x] ∧ JarC H j c ∧ x.length ≤ 400 ∧ ∀ (y : Str) H', y.length ≤ 2 * x.length + 7 → But j H H' → JarC H' j c → Q (.str y) H'
theorem tNoPart_i {σ : L2.St} {H : Hp} {Q : Option Int → Hp → Prop} (k : Q none H) : tNoPart σ H Q := k
theorem tPart_i {te : TE} {σ : L2.St} {H : Hp} {Q : Option Int → Hp → Prop} (k : te σ H fun x H1 => ∃ i, x = .int i ∧ Q (some i) H1) : tPart te σ H Q := k
theorem map_ins (ws : List Str) (n : Nat) (z : Str) : (ws.map V.str).take n ++ [V.str z] ++ (ws.map V.str).drop n = (ws.take n ++ [z] ++ ws.drop n).map V.str := by
  simp
theorem map_erase (ws : List Str) : ∀ n : Nat, (ws.map V.str).eraseIdx n = (ws.eraseIdx n).map V.str := by
  induction ws with
  | nil => intro n; rfl
  | cons a l ih =>
    intro n
    cases n with
    | zero => rfl
    | succ n => rw [List.map_cons, List.eraseIdx_cons_succ, ih, List.eraseIdx_cons_succ, List.map_cons]
section
variable {P : Program} {w : World} {K : PySem.W.Frag} {mg : Str → Option Value} {base : Heap} {f : Addr} {fd : FuncData}
theorem ok_bent (Z : Free mg) (F : FnP K "_law_bent_look" "_law_bent_look" s_bent [] f fd) {f1 f2 : Addr} {fd1 fd2 : FuncData} (Cd : Cal P w K mg base CX0 1 "_law_draw" ["jar", "many"] spDraw f1 fd1) (Cp : Cal P w K mg base CX0 2 "_law_pick" ["jar", "menu"] (spPick K) f2 fd2) :
    FnOk P w K mg base CX0 3 f fd ["jar", "body"] spBent := by
  refine F.ok scBent (fun vs H Q E h => ?_) (fun cdv A outer s H vs Q E hr h => ?_)
  · obtain ⟨a, b, c, rfl, _⟩ := h
    rfl
  · have hu := hu_of hr
    obtain ⟨j, c, x, rfl, hJ, hx, k⟩ := h
    refine ⟨_, PSs.nox (pss_cons (ps_set (i := 2) scBent.nd rfl (Or.inl rfl) (pe_split (pv 1) pe_str))
      (pss_cons (ps_set (i := 3) scBent.nd rfl (Or.inl rfl) (pe_call Cd.ok (hr.mono (by omega)) rfl Cd.mg Cd.kp Cd.b .nil pass0 (pa_cons (pv 0) (pa_cons (pe_callB call_len_seq (by rfl) Z.len PySem.boot_len (pa_cons (pv 2) pa_nil)) pa_nil))))
      (pss_cons (ps_set (i := 4) scBent.nd rfl (Or.inl rfl) (pe_call Cd.ok (hr.mono (by omega)) rfl Cd.mg Cd.kp Cd.b .nil pass0 (pa_cons (pv 0) (pa_cons pe_int pa_nil))))
      (pss_cons (ps_set (i := 5) scBent.nd rfl (Or.inl rfl) (pe_lst (pa_cons pe_str (pa_cons pe_str (pa_cons pe_str (pa_cons pe_str (pa_cons pe_str (pa_cons pe_str (pa_cons pe_str (pa_cons pe_str (pa_cons pe_str (pa_cons pe_str (pa_cons pe_str (pa_cons pe_str (pa_cons pe_str (pa_cons pe_str (pa_cons pe_str (pa_cons pe_str (pa_cons pe_str (pa_cons pe_str (pa_cons pe_str pa_nil)))))))))))))))))))))
      (C8.pss_cut (ps_if (pt_cmpR op_eq (pv 4) pe_int (nomark _)) 
        (pss_one (ps_expr (pe_bm PySem.F.plainAttrs_list PySem.F.slot_list_pop PySem.F.type_list_pop mt_popAt (pv 2) (pa_cons (pv 3) pa_nil)))) 
        (pss_one (ps_if (pt_cmpR op_eq (pv 4) pe_int (nomark _)) 
          (pss_one (ps_expr (pe_bm PySem.F.plainAttrs_list PySem.F.slot_list_insert PySem.F.type_list_insert mt_insert (pv 2) (pa_cons (pv 3) (pa_cons (pe_ix ix_list (pv 2) (pv 3) (fun _ _ => rfl)) pa_nil))))) 
          (pss_one (ps_if (pt_cmpR op_eq (pv 4) pe_int (nomark _)) 
            (pss_cons (ps_set (i := 6) scBent.nd rfl (Or.inl rfl) (pe_call Cd.ok (hr.mono (by omega)) rfl Cd.mg Cd.kp Cd.b .nil pass0 (pa_cons (pv 0) (pa_cons (pe_callB call_len_seq (by rfl) Z.len PySem.boot_len (pa_cons (pv 2) pa_nil)) pa_nil))))
            (pss_one (ps_asg (pe_tup (pa_cons (pe_ix ix_list (pv 2) (pv 6) (fun _ _ => rfl)) (pa_cons (pe_ix ix_list (pv 2) (pv 3) (fun _ _ => rfl)) pa_nil))) (pg_tup rfl (pgs_cons (pg_sub (pv 2) (pv 3) set_list) (pgs_cons (pg_sub (pv 2) (pv 6) set_list) pgs_nil)))))) 
            (pss_one (ps_if (pt_cmpR op_eq (pv 4) pe_int (nomark _)) 
              (pss_one (ps_set (i := 2) scBent.nd rfl (Or.inl rfl) (pe_slice sl_list (pv 2) po_none (po_some (pv 3))))) 
              (pss_one (ps_if (pt_cmpR op_eq (pv 4) pe_int (nomark _)) 
                (pss_one (ps_expr (pe_bm PySem.F.plainAttrs_list PySem.F.slot_list_insert PySem.F.type_list_insert mt_insert (pv 2) (pa_cons (pv 3) (pa_cons (pe_call Cp.ok (hr.mono (by omega)) rfl Cp.mg Cp.kp Cp.b .nil pass0 (pa_cons (pv 0) (pa_cons (pv 5) pa_nil))) pa_nil))))) 
                (pss_one (ps_if (pt_cmpR op_eq (pv 4) pe_int (nomark _)) 
                  (pss_one (ps_ret (pe_call Cp.ok (hr.mono (by omega)) rfl Cp.mg Cp.kp Cp.b .nil pass0 (pa_cons (pv 0) (pa_cons (pe_lst (pa_tok op_add_str (pv 1) (pat_cons (CwR.PET.of (pe_op op_add_str pe_str (pv 1))) (pat_cons (CwR.PET.of (pe_op op_add_str (pv 1) pe_str)) (pat_cons (CwR.pet_replC (pv 1)) (pat_cons (CwR.PET.of (pe_op op_add_str (pv 1) pe_str)) (pat_cons (CwR.PET.of (pe_slice sl_str (pv 1) po_none (po_some (pe_un un_neg pe_int)))) (pat_cons (CwR.pet_replC (pv 1)) (pat_cons (CwR.PET.of (pe_op op_add_str (pe_op op_add_str pe_str (pv 1)) pe_str)) pat_nil))))))))) pa_nil))))) 
                  (pss_one (ps_asg (pe_call Cp.ok (hr.mono (by omega)) rfl Cp.mg Cp.kp Cp.b .nil pass0 (pa_cons (pv 0) (pa_cons (pv 5) pa_nil))) (pg_sub (pv 2) (pv 3) set_list))))))))))))))
      (pss_one (ps_ret (pe_join pe_str (pv 2))))))))), ?_⟩
    walk_at "w"
    refine ⟨Nat.le_trans (show x.length + 2 ≤ 1002 by omega) (Nat.le_of_ble_eq_true rfl), fun pw nw => ?_⟩
    have hj := hJ.old.1
    have epj : pw ≠ j := fun z => hj (z ▸ nw)
    have epc : pw ≠ c := fun z => hJ.old.2 (z ▸ nw)
    have hlen : (Txt.split x " ").length ≤ 402 := Nat.le_trans (split_le x " ") (by omega)
    have hpos := split_pos x " "
    walk_at "w"
    refine ⟨j, c, _, rfl, hJ.upd epj epc, by rw [List.length_map]; omega, by rw [List.length_map]; omega, fun d H2 hd0 hd1 hB hJ2 => ?_⟩
    rw [List.length_map] at hd1
    obtain ⟨d, rfl⟩ : ∃ n : Nat, d = (n : Int) := ⟨d.toNat, by omega⟩
    have hw2 : H2 pw = some (.lst ((Txt.split x " ").map V.str)) := hB _ _ upd_same epj
    have hB2 : But j H H2 := (But.of (Same.new (Same.refl _) nw)).trans hB
    walk_at "w"
    refine ⟨j, c, 8, rfl, hJ2, by decide, by decide, fun e H3 he0 he1 hB3 hJ3 => ?_⟩
    have hw3 := hB3 _ _ hw2 epj
    replace hB2 := hB2.trans hB3
    walk_at "w"
    rename_i pm nm
    have hpm : pm ≠ j := fun z => hJ3.old.1 (z ▸ nm)
    change C8.tCut _ _ _ _ (upd H3 pm (.lst (bmenu.map V.str)))
    have sm : Same H3 (upd H3 pm (.lst (bmenu.map V.str))) := Same.new (Same.refl _) nm
    have hmm := upd_same (H := H3) (a := pm) (o := .lst (bmenu.map V.str))
    generalize upd H3 pm (.lst (bmenu.map V.str)) = Hm at sm hmm ⊢
    have hBm : But j H Hm := hB2.trans (But.of sm)
    have hJm := hJ3.same sm
    have hwm := sm _ _ hw3
    generalize hws : Txt.split x " " = ws at hlen hpos hd1 hwm
    have hms : msum ws = x.length + 1 := by rw [← hws]; exact msum_split x
    have hwx : ∀ z ∈ ws, z.length ≤ x.length := fun z hz => by have := msum_mem hz; omega
    have hdw : d < ws.length := by omega
    obtain ⟨wd, hwd⟩ : ∃ wd, ws[d]? = some wd := ⟨ws[d]'hdw, List.getElem?_eq_getElem _⟩
    have hwdx := hwx _ (List.mem_of_getElem? hwd)
    have hd2 : (ws.map V.str)[d]? = some (.str wd) := by rw [List.getElem?_map, hwd]; rfl
    have hda : atI (ws.map V.str) (d : Int) = some (.str wd) := atI_nat hd2
    have hdi : ixN (ws.map V.str).length (d : Int) = some d := ixN_at (by rw [List.length_map]; exact hdw)
    have zw : (ws.map V.str).length < sizeLine := by
      rw [List.length_map]
      exact small1000 (by omega)
    have hmn : ∀ z ∈ bmenu, z.length ≤ 4 := by decide +kernel
    clear hw3 hw2 hB hB3 hJ3 hJ2 hB2 sm nm
    refine tCut_i (fun σ' H' => ∃ (ws' : List Str) (x3 x4 x5 x6 : Option V) (pw' : Addr), σ' = [some (.ref j), some (.str x), some (.ref pw'), x3, x4, x5, x6] ∧ H' pw' = some (.lst (ws'.map V.str)) ∧ msum ws' ≤ 2 * x.length + 7 ∧ But j H H' ∧ JarC H' j c) ?_ (fun σ' H' h => ?_)
    · have pick : ∀ (Q : VK), (∀ (z : Str) H', z.length ≤ 4 → But j H H' → JarC H' j c → H' pw = some (.lst (ws.map V.str)) → Q (.str z) H') → spPick K [.ref j, .ref pm] Hm Q E0 := fun Q q =>
        ⟨j, c, pm, _, rfl, hJm, hmm, hpm, by rw [List.length_map]; decide, by rw [List.length_map]; decide, fun i v H' hv hB' hJ' => by
          obtain ⟨z, hz, rfl⟩ := List.mem_map.mp (List.mem_of_getElem? hv)
          exact q z H' (hmn z hz) (hBm.trans hB') hJ' (hB' _ _ hwm epj)⟩
      walk_at "w"
      refine iteB (fun h => ?_) (fun h => ?_)
      · walk_at "w"
        refine ⟨pw, _, _, d, _, rfl, rfl, hwm, by omega, by omega, (ixN_seq hdi).1, hd2, ?_⟩
        rw [map_erase]
        exact ⟨_, _, _, _, _, pw, rfl, upd_same, by have := msum_erase ws d; omega, hBm.updN nw, hJm.upd epj epc⟩
      walk_at "w"
      refine iteB (fun h => ?_) (fun h => ?_)
      · walk_at "w"
        refine ⟨pw, _, (d : Int), _, rfl, rfl, hwm, zw, by omega, by omega, ?_⟩
        rw [Int.toNat_natCast, map_ins]
        exact ⟨_, _, _, _, _, pw, rfl, upd_same, by rw [msum_ins]; omega, hBm.updN nw, hJm.upd epj epc⟩
      walk_at "w"
      refine iteB (fun h => ?_) (fun h => ?_)
      · walk_at "w"
        refine ⟨j, c, _, rfl, hJm, by rw [List.length_map]; omega, by rw [List.length_map]; omega, fun b H4 hb0 hb1 hB4 hJ4 => ?_⟩
        rw [List.length_map] at hb1
        obtain ⟨b, rfl⟩ : ∃ n : Nat, b = (n : Int) := ⟨b.toNat, by omega⟩
        have hw4 := hB4 _ _ hwm epj
        have hbw : b < ws.length := by omega
        obtain ⟨wb, hwb⟩ : ∃ wd, ws[b]? = some wd := ⟨ws[b]'hbw, List.getElem?_eq_getElem _⟩
        have hba : atI (ws.map V.str) (b : Int) = some (.str wb) := atI_nat (by rw [List.getElem?_map, hwb]; rfl)
        walk_at "w"
        rename_i pt nt
        refine rSetL_i (j := b) upd_same (ixN_at (by rw [List.length_set, List.length_map]; exact hbw)) ?_
        have hs : (ws.set d wb)[b]? = some wb := by
          rw [List.getElem?_set]
          split
          · rfl
          · exact hwb
        have h1 := msum_set wb hwd
        have h2 := msum_set wd hs
        refine gNil_i ⟨(ws.set d wb).set b wd, _, _, _, _, pw, rfl, by rw [upd_same, List.map_set, List.map_set], by omega, ?_, ?_⟩
        · exact (((hBm.trans hB4).trans (But.of (Same.new (Same.refl _) nt))).updN nw).updN nw
        · exact ((hJ4.same (Same.new (Same.refl _) nt)).upd epj epc).upd epj epc
      walk_at "w"
      refine iteB (fun h => ?_) (fun h => ?_)
      · walk_at "w"
        refine tNoPart_i (tPart_i ?_)
        walk_at "w"
        rename_i pt nt
        rw [cutNat _ _ (by rw [List.length_map]; omega), ← List.map_take]
        exact ⟨_, _, _, _, _, pt, rfl, upd_same, by have := msum_take d ws; omega, hBm.trans (But.of (Same.new (Same.refl _) nt)), hJm.same (Same.new (Same.refl _) nt)⟩
      walk_at "w"
      refine iteB (fun h => ?_) (fun h => ?_)
      · walk_at "w"
        refine pick _ fun z H4 hz hB4 hJ4 hw4 => ?_
        walk_at "w"
        refine ⟨pw, _, (d : Int), _, rfl, rfl, hw4, zw, by omega, by omega, ?_⟩
        rw [Int.toNat_natCast, map_ins]
        exact ⟨_, _, _, _, _, pw, rfl, upd_same, by rw [msum_ins]; omega, hB4.updN nw, hJ4.upd epj epc⟩
      walk_at "w"
      refine iteB (fun h => ?_) (fun h => ?_)
      · walk_at "w"
        have l1 : (" " : Str).length = 1 := rfl
        have l2 : (" all" : Str).length = 4 := rfl
        have l3 : ("\n" : Str).length = 1 := rfl
        have l4 : ("( " : Str).length = 2 := rfl
        have l5 : (" )" : Str).length = 2 := rfl
        have l6 : ("  " : Str).length = 2 := rfl
        have l7 : ("" : Str).length = 0 := rfl
        refine ⟨sline (by omega), ?_⟩
        walk_at "w"
        refine ⟨sline (by omega), ?_⟩
        walk_at "w"
        refine ⟨sline (by omega), ?_⟩
        walk_at "w"
        refine tReplC_i ?_
        walk_at "w"
        refine ⟨by rw [l6]; omega, ?_⟩
        walk_at "w"
        refine ⟨sline (by omega), ?_⟩
        walk_at "w"
        refine tNoPart_i ?_
        refine tPart_i ?_
        walk_at "w"
        refine ⟨x, rfl, sline (by omega), ?_⟩
        walk_at "w"
        refine tReplC_i ?_
        walk_at "w"
        refine ⟨by rw [l7]; omega, ?_⟩
        walk_at "w"
        refine ⟨sline (by omega), ?_⟩
        walk_at "w"
        refine ⟨sline (by rw [slen]; omega), ?_⟩
        walk_at "w"
        rename_i pl nl
        refine ⟨j, c, pl, _, rfl, hJm.same (Same.new (Same.refl _) nl), upd_same, fun z => hJm.old.1 (z ▸ nl), (show 0 < 8 by decide), (show 8 < 1000 by decide), fun i v H' hv hB' hJ' => ?_⟩
        have hB2 := (hBm.trans (But.of (Same.new (Same.refl _) nl))).trans hB'
        have r1 := rep_len x "  " (by decide)
        have r2 := rep_len x "" (by decide)
        have r3 := cutS_length x none (some (-1))
        have := List.mem_of_getElem? hv
        simp only [List.mem_cons, List.not_mem_nil, or_false] at this
        rcases this with rfl | rfl | rfl | rfl | rfl | rfl | rfl | rfl
        · exact k _ _ (by rw [slen]; omega) hB2 hJ'
        · exact k _ _ (by rw [slen]; omega) hB2 hJ'
        · exact k _ _ (by rw [slen]; omega) hB2 hJ'
        · exact k _ _ (by omega) hB2 hJ'
        · exact k _ _ (by rw [slen]; omega) hB2 hJ'
        · exact k _ _ (Nat.le_trans r3 (by omega)) hB2 hJ'
        · exact k _ _ (by omega) hB2 hJ'
        · exact k _ _ (by rw [slen, slen]; omega) hB2 hJ'
      · walk_at "w"
        refine pick _ fun z H4 hz hB4 hJ4 hw4 => ?_
        walk_at "w"
        rw [← List.map_set]
        exact ⟨_, _, _, _, _, pw, rfl, upd_same, by have := msum_set z hwd; omega, hB4.updN nw, hJ4.upd epj epc⟩
    · obtain ⟨ws', x3, x4, x5, x6, pw', rfl, hw', hm', hB', hJ'⟩ := h
      walk_at "w"
      refine ⟨_, pw', ws', rfl, rfl, .inl (SqL.of hw'), ?_, k _ _ ?_ hB' hJ'⟩
      · rw [show (" " : Str).length = 1 from rfl, Nat.mul_one]
        exact Nat.le_trans hm' (by omega)
      · rw [show Txt.join " " ws' = Str.join " " ws' from StrLaws.glued_eq_join _ _]
        exact Nat.le_trans (join_le ws') hm'
end
end K9
set_option Elab.async false
set_option linter.all false
set_option maxRecDepth 100000
set_option maxHeartbeats 4000000
/-! A def whose code object is told; a lambda's context lets errors out; heaps in which tables grow. -/
namespace K9
open PySem PySem.Spec PySem.Calls PyProof.Rows L2
theorem FunD_okC {P : Program} {w : World} {K : PySem.W.Frag} {mg : Str → Option Value} {base : Heap} {CX : CXT} {x qual : Str} {params : Arguments} {body : List Stmt} {scope : Scope} {dvs : List V} {kws : List (Str × V)} {p : He.Defn} {fd : FuncData} {N ps : List Str} {k : Nat} {sp : Sp}
    (F : FunD K x qual params body scope dvs kws (He.fAd K p) fd) (S : FnScope N ps scope) (len : ∀ vs H Q E, sp vs H Q E → vs.length = ps.length)
    (hbody : ∀ (A : Around) (outer : List Env) (s : Shared) (H : Hp) (vs : List V) (Q : VK) (E : XK), Room k (A.deeper (envOfC qual scope s.heap.objs.size (He.fAd K p) (.ref (He.codeOf K p)))) → sp vs H Q E →
      ∃ t, PSs (cxOf CX P w K mg base N qual scope (He.fAd K p) (.ref (He.codeOf K p)) A outer s H E) body t ∧ t { nx := fun _ H' => Q .non H', rt := Q } (start N vs) H) : FnOk P w K mg base CX (k + 1) (He.fAd K p) fd ps sp := by
  obtain ⟨oc, od, dV, kV, doc, pm, an, cdv, ct, osl, rfl, lk, hcd, _, _⟩ := F.ex
  obtain ⟨c, rfl⟩ := He.codeIn_ref hcd
  have e : He.codeOf K p = c := He.codeOf_eq lk rfl
  subst e
  exact fn_of lk hcd S len hbody
/-- what the lambda's context lets out -/
theorem lam_passes {X : Cx} {A : Around} {outer : List Env} {s : Shared} {H : Hp} {E : XK} {scope : Scope} {f c' : Addr} : Passes (L2N.CX X.prog X.w) (lamC X A outer s H E scope f c') E :=
  L2N.passes_call (X := lamC X A outer s H E scope f c') (W := fun cls d _ H => E cls d H) (L2N.takes_of (X := lamC X A outer s H E scope f c') rfl rfl rfl rfl) (fun _ _ _ _ h => h)
theorem Tabs_keep {T : List (Addr × Str)} {H H' : Hp} (t : LamX.Tabs T H) (k : ∀ b o, H b = some o → (∀ xs, o ≠ .lst xs) → H' b = some o) : LamX.Tabs T H' := fun p hp => by
  obtain ⟨ps, h1, h2, h3⟩ := t p hp
  refine ⟨ps, k _ _ h1 (fun xs z => by cases z), h2, fun pos cv hc => ?_⟩
  obtain ⟨c, e1, e2⟩ := h3 pos cv hc
  exact ⟨c, e1, k _ _ e2 (fun xs z => by unfold LamX.CodeO at z; cases z)⟩
theorem tLam2_i {T : List (Addr × Str)} {q : Str} {TT : (Hp → VK → XK → Prop) → List V → Hp → VK → Prop} {t : XK → TE} {ta : TA} {σ : L2.St} {H : Hp} {Q : VK} (hT : LamX.Tabs T H)
    (k : ∀ (H1 : Hp) (c' : Addr), LamX.ExtN H H1 → LamX.Tabs T H1 → H1 c' = some (LamX.CodeO c' q) → ta σ H1 fun ys H2 => H2 c' = some (LamX.CodeO c' q) ∧ TT (fun H' Q' E' => t E' σ H' Q') ys H2 Q) : tLam2 T q TT t ta σ H Q := ⟨hT, k⟩
end K9
set_option Elab.async false
set_option linter.all false
set_option maxRecDepth 100000
set_option maxHeartbeats 4000000
namespace K9
open PySem PySem.Spec PyProof.Rows L2
/-! ### steps through a reading -/
/-- H a = some o, where H is told by its stores -/
local macro_rules | `(tactic| walk_at "look") => `(tactic| first
  | assumption
  | exact upd_same
  | (refine Eq.trans (upd_ne ?_) ?_ <;> first
      | assumption
      | exact Ne.symm (by assumption)
      | exact ne_nw (by assumption) (by walk_at "look")
      | exact Ne.symm (ne_nw (by assumption) (by walk_at "look"))
      | walk_at "look"))
local macro_rules | `(tactic| walk_at "sq") => `(tactic| first
  | assumption
  | exact SqL.of (by walk_at "look")
  | exact SqT.of (by walk_at "look"))
local macro_rules | `(tactic| walk_at "c") => `(tactic| first
  | decide
  | omega
  | assumption
  | exact Or.inr ⟨by decide, by decide⟩
  | exact ⟨by decide, by decide⟩
  | exact Nat.le_of_ble_eq_true rfl
  | exact line1000 (by assumption)
  | (intro z; omega)
  | (dsimp only; first | assumption | omega)
  | (constructor <;> first | decide | omega))
local macro_rules | `(tactic| walk_at "fl") => `(tactic| first
  | assumption
  | rfl
  | exact flat_ints _
  | decide +kernel
  | (simp only [List.all_map, List.all_cons, List.all_nil]; rfl))
local macro_rules | `(tactic| walk_at "ty") => `(tactic| first
  | exact TyX.base (TyOf.str _)
  | exact TyX.base (TyOf.int _)
  | exact TyX.base (TyOf.bl _)
  | exact TyX.base TyOf.non
  | exact TyX.base (TyOf.tup (by walk_at "look"))
  | exact TyX.base (TyOf.lst (by walk_at "look"))
  | exact TyX.base (TyOf.dK (by walk_at "look")))
local macro_rules | `(tactic| walk_at "kit") => `(tactic| first
  | assumption
  | exact kit_str_bool
  | exact kit_str_int
  | exact kit_str_str
  | exact kit_str_dict
  | exact kit_str_list
  | exact kit_str_tuple
  | exact kit_int_bool
  | exact kit_int_int
  | exact kit_int_str
  | exact kit_int_dict
  | exact kit_int_list
  | exact kit_int_tuple
  | exact kit_bool_bool
  | exact kit_bool_int
  | exact kit_bool_str
  | exact kit_bool_dict
  | exact kit_bool_list
  | exact kit_bool_tuple
  | exact kit_list_bool
  | exact kit_list_int
  | exact kit_list_str
  | exact kit_list_dict
  | exact kit_list_list
  | exact kit_list_tuple
  | exact kit_tuple_bool
  | exact kit_tuple_int
  | exact kit_tuple_str
  | exact kit_tuple_dict
  | exact kit_tuple_list
  | exact kit_tuple_tuple
  | exact kit_dict_bool
  | exact kit_dict_int
  | exact kit_dict_str
  | exact kit_dict_dict
  | exact kit_dict_list
  | exact kit_dict_tuple
  | exact kit_NoneType_bool
  | exact kit_NoneType_int
  | exact kit_NoneType_str
  | exact kit_NoneType_dict
  | exact kit_NoneType_list
  | exact kit_NoneType_tuple)
local macro_rules | `(tactic| walk_at "len") => `(tactic| (refine sline ?_; (try simp only [slen, show ("( " : Str).length = 2 from rfl, show (" " : Str).length = 1 from rfl, show (" )" : Str).length = 2 from rfl, show Str.empty.length = 0 from rfl]); omega))
local macro_rules | `(tactic| walk_at "w1") => `(tactic| (first
  | ((with_reducible apply tVar_i); exact rfl)
  | with_reducible refine tC_i ?_
  | with_reducible refine tCons_i ?_
  | with_reducible refine tNil_i ?_
  | with_reducible refine tOp_i ?_
  | with_reducible refine tSeq_i ?_
  | with_reducible refine tAsg_i ?_
  | with_reducible refine tDrop_i ?_
  | with_reducible refine tRet_i ?_
  | with_reducible refine tNext_i ?_
  | with_reducible refine tIfS_i ?_
  | with_reducible refine tIf_i ?_
  | with_reducible refine tTest_i ?_
  | with_reducible refine tB_i ?_
  | with_reducible refine tNot_i ?_
  | with_reducible refine tAnd_i ?_
  | with_reducible refine tOr_i ?_
  | with_reducible refine tAndV_i ?_
  | with_reducible refine tOrV_i ?_
  | with_reducible refine tNotV_i ?_
  | with_reducible refine tNotT_i ?_
  | with_reducible refine tUn_i ?_
  | with_reducible refine tCB_i ?_
  | with_reducible refine tCall_i ?_
  | with_reducible refine tTup_i ?_
  | with_reducible refine tLst_i ?_
  | with_reducible refine tPar_i ?_
  | with_reducible refine tPar3_i ?_
  | with_reducible refine tSl_i ?_
  | with_reducible refine bl_i ?_
  | with_reducible refine tFor_i ?_
  | with_reducible refine tLc_i ?_
  | with_reducible refine iEnum_i ?_
  | with_reducible refine iList_i ?_
  | with_reducible refine iTup_i ?_
  | with_reducible refine iRng1_i ?_
  | ((with_reducible apply enum_i); walk_at "sq")
  | ((with_reducible apply list_i); walk_at "sq")
  | ((with_reducible apply tup_i); walk_at "sq")
  | ((with_reducible refine rng1_i ?_ ?_); walk_at "c")
  | with_reducible refine par2_i ?_
  | with_reducible refine par3_i ?_
  | with_reducible refine gName_i ?_
  | with_reducible refine gc_i ?_
  | with_reducible refine gNil_i ?_
  | with_reducible refine rI0_i ?_
  | with_reducible refine rU_i ?_
  | with_reducible refine max2_i ?_
  | with_reducible refine tM1_i ?_
  | with_reducible refine tM0_i ?_
  | with_reducible refine str_i ?_
  | with_reducible refine tBM_iL ?_
  | with_reducible refine tBM0_iL ?_
  | ((with_reducible refine rEq_i ?_ ?_); exact rfl)
  | ((with_reducible refine rNe_i ?_ ?_); exact rfl)
  | ((with_reducible refine rI_i ?_ ?_); walk_at "c")
  | ((with_reducible apply ty_i); walk_at "sq")
  | ((with_reducible apply gTup_i); walk_at "sq"; exact rfl)
  | ((with_reducible apply rIxL_i); walk_at "sq"; first | exact rfl | assumption)
  | ((with_reducible apply rIxT_i); walk_at "sq"; first | exact rfl | assumption)
  | ((with_reducible apply rInT_i); walk_at "sq"; exact rfl; exact rfl)
  | ((with_reducible apply rInL_i); walk_at "sq"; exact rfl; exact rfl)
  | with_reducible refine gSub_i ?_
  | with_reducible refine tJs1_i ?_
  | with_reducible refine tJs0_i ?_
  | with_reducible refine tFmt_i ?_
  | ((with_reducible refine fmtS_i ?_ ?_); walk_at "len")
  | ((with_reducible refine js_i ?_ ?_); walk_at "len")
  | ((with_reducible apply rCat_i); walk_at "look"; walk_at "look"; walk_at "c")
  | ((with_reducible apply rIsi_i); walk_at "ty"; walk_at "kit")
  | ((with_reducible apply rNe_nil); walk_at "sq"; walk_at "fl"; walk_at "sq")
  | ((with_reducible apply rEq_nil); walk_at "sq"; walk_at "fl"; walk_at "sq")
  | with_reducible refine tDisp_i ?_
  | with_reducible refine tPairs0_i ?_
  | with_reducible refine tPairs1_i ?_
  | ((with_reducible apply disp1_i); walk_at "look")
  | ((with_reducible apply disp2_i); walk_at "look")
  | with_reducible refine tFld_i ?_
  | with_reducible refine sFld_i ?_
  | ((with_reducible apply fld_i); walk_at "look"; assumption; assumption; first | exact rfl | assumption)
  | ((with_reducible apply sfld_i); walk_at "look"; assumption; assumption; walk_at "c")
  | with_reducible refine tRevL_i ?_
  | ((with_reducible apply rev_i); walk_at "sq")
  | ((with_reducible apply rSetL_i); walk_at "look"; first | exact rfl | assumption)
  | ((with_reducible apply rIxK_i); assumption; assumption)
  | ((with_reducible apply rInK_i); assumption)
  | ((with_reducible apply rAppend_i); walk_at "look"; walk_at "c")
  | ((with_reducible apply rPop_i); walk_at "look"; first | exact rfl | assumption)
  | ((with_reducible apply len_i); walk_at "sq")
  | ((with_reducible apply lenT_i); walk_at "sq")
  | ((with_reducible apply rSlL_i); walk_at "sq")
  | with_reducible refine iteT ?_
  | with_reducible refine iteF ?_
  | ((with_reducible refine iteTk ?_ ?_); assumption)
  | ((with_reducible refine iteFk ?_ ?_); assumption)
  | ((with_reducible refine iteTk ?_ ?_); decide +kernel)
  | ((with_reducible refine iteFk ?_ ?_); decide +kernel)
  | ((with_reducible refine iteTk ?_ ?_); exact rfl)
  | ((with_reducible refine iteFk ?_ ?_); exact rfl)
  | with_reducible refine fun (p : Addr) (n : _ = none) => ?_
  | with_reducible refine Or.inl ⟨_, rfl, ?_⟩
  | with_reducible refine ⟨_, rfl, ?_⟩
  | with_reducible refine ⟨_, _, rfl, rfl, ?_⟩
  | ((with_reducible refine ⟨_, _, _, _, _, rfl, ClsV.ty _, ?_, ?_, ?_⟩); walk_at "ty"; walk_at "kit")
  | ((with_reducible refine And.intro ?_ ?_); walk_at "c")))
local macro_rules | `(tactic| walk_at "w") => `(tactic| repeat (walk_at "w1"))
local macro_rules | `(tactic| walk_at "but") => `(tactic| first
  | assumption
  | exact But.refl _ _
  | (refine But.upd ?_; walk_at "but")
  | (refine But.new ?_ (by assumption); walk_at "but"))
local macro_rules | `(tactic| walk_at "same") => `(tactic| first
  | assumption
  | exact Same.refl _
  | (refine Same.new ?_ (by assumption); walk_at "same")
  | (refine Same.trans (by assumption) ?_; walk_at "same"))
local macro_rules | `(tactic| walk_at "x") => `(tactic| (dsimp only [Cx.nox, Cx.wish, cxOf, L2H.cxH]))
abbrev s_law : Stmt := (top 56)
theorem scLaw : FnScope ["script", "jar", "made", "k", "tree", "body", "deepest", "many_of", "sign", "first", "last", "told", "across", "about", "one_look", "own", "t", "bent", "due", "first_text", "last_text", "other_look", "strange"] ["script"] (defScope (top 56)) := ⟨rfl, rfl, rfl, by decide +kernel, rfl, by decide +kernel, by decide +kernel⟩
abbrev lawP : He.Defn := ("law", none)
abbrev lawN : List Str := ["script", "jar", "made", "k", "tree", "body", "deepest", "many_of", "sign", "first", "last", "told", "across", "about", "one_look", "own", "t", "bent", "due", "first_text", "last_text", "other_look", "strange"]
abbrev lawX (P : Program) (w : World) (K : PySem.W.Frag) (mg : Str → Option Value) (base : Heap) (A : Around) (outer : List Env) (s : Shared) (H : Hp) (E : XK) : Cx := (cxOf CX0 P w K mg base lawN "law" (defScope s_law) (He.fAd K lawP) (.ref (He.codeOf K lawP)) A outer s H E).nox
abbrev lamQ : Str := ("law" : Str) ++ ".<locals>." ++ "<lambda>"
/-- a method of Look, as its callers know it -/
structure LMeth (P : Program) (w : World) (K : PySem.W.Frag) (mg : Str → Option Value) (base : Heap) (m : Str) (sp : Sp) (f : Addr) (fd : FuncData) : Prop where
  ok : FnOk P w K mg base CX0 5 f fd ["self"] sp
  me : Meth K (He.ga K "Look") m f
  b : Binds K fd ["self"] []
/-- _law_refused, as its callers know it -/
structure RefF (P : Program) (w : World) (K : PySem.W.Frag) (mg : Str → Option Value) (base : Heap) (f : Addr) (fd : FuncData) : Prop where
  ok : ∀ (f0 c' : Addr) (q : Str) (Hm : Hp) (sm : Shared) (tl : Hp → VK → XK → Prop), LamAt P w K mg base 4 f0 c' q Hm sm tl → FnJ P w K mg base 8 f fd ["call", "due"] Hm sm (spLam q (ttRefused K) f0 c' tl)
  mg : mg "_law_refused" = some (.ref f)
  kp : PySem.W.keepIn K (.ref f) = true
  b : Binds K fd ["call", "due"] []
/-- all stays but what stands at j, and tables -/
def KeepT (j : Addr) (H H' : Hp) : Prop := ∀ b o, H b = some o → b ≠ j → (∀ ps, o ≠ .tbl ps) → H' b = some o
theorem KeepT.refl (j : Addr) (H : Hp) : KeepT j H H := fun _ _ h _ _ => h
theorem KeepT.trans {j : Addr} {H H1 H2 : Hp} (a : KeepT j H H1) (b : KeepT j H1 H2) : KeepT j H H2 := fun c o h n q => b c o (a c o h n q) n q
theorem KeepT.but {j : Addr} {H H' : Hp} (a : But j H H') : KeepT j H H' := fun b o h n _ => a b o h n
theorem KeepT.same {j : Addr} {H H' : Hp} (a : Same H H') : KeepT j H H' := fun b o h _ _ => a b o h
theorem KeepT.ext {j : Addr} {H H' : Hp} (a : LamX.ExtN H H') : KeepT j H H' := fun b o h _ q => a b o h q
theorem KeepT.updN {j p : Addr} {H H' : Hp} {o : HO} (a : KeepT j H H') (n : H p = none) : KeepT j H (upd H' p o) := fun b u h x q => (upd_ne (fun e => by rw [e, n] at h; cases h)).trans (a b u h x q)
theorem JarC.ext {H H' : Hp} {j c : Addr} (h : JarC H j c) (e : LamX.ExtN H H') : JarC H' j c := by
  obtain ⟨ns, i, r, n, m, h1, h2, h3, h4⟩ := h.ex
  exact ⟨ns, i, r, n, m, e _ _ h1 (fun ps z => by cases z), e _ _ h2 (fun ps z => by cases z), h3, h4⟩
theorem Tabs_but {T : List (Addr × Str)} {H H' : Hp} {j c : Addr} (t : LamX.Tabs T H) (J : JarC H j c) (b : But j H H') : LamX.Tabs T H' := Tabs_keep t fun a o h n => b a o h fun e => by
  obtain ⟨ns, i, r, n', m, h1, _⟩ := J.ex
  rw [e, h1] at h
  exact n _ (Option.some.inj h).symm
theorem Tabs_same {T : List (Addr × Str)} {H H' : Hp} (t : LamX.Tabs T H) (b : Same H H') : LamX.Tabs T H' := Tabs_keep t fun a o h _ => b a o h
/-- what is carried through the law -/
structure LC (T : List (Addr × Str)) (H : Hp) (j c : Addr) : Prop where
  jar : JarC H j c
  tb : LamX.Tabs T H
theorem LC.but {T : List (Addr × Str)} {H H' : Hp} {j c : Addr} (h : LC T H j c) (b : But j H H') (J : JarC H' j c) : LC T H' j c := ⟨J, Tabs_but h.tb h.jar b⟩
theorem LC.same {T : List (Addr × Str)} {H H' : Hp} {j c : Addr} (h : LC T H j c) (b : Same H H') : LC T H' j c := ⟨h.jar.same b, Tabs_same h.tb b⟩
theorem LC.ext {T : List (Addr × Str)} {H H' : Hp} {j c : Addr} (h : LC T H j c) (b : LamX.ExtN H H') (t : LamX.Tabs T H') : LC T H' j c := ⟨h.jar.ext b, t⟩
theorem badmade_i {K : PySem.W.Frag} {H : Hp} {x : Str} {n : Int} {own : Bool} {R : VK} {E : XK} (hx : x.length ≤ 900) (g : BadAt x n) (k : ∀ cls d H', Same H H' → Bad1 K n cls d H' → E cls d H') (a dx : Addr) (na : H a = none) (nd : H dx = none) (ne : dx ≠ a) :
    spLook K [.ref a, .str x, .bl own] (upd (upd H dx (.own a)) a (.ins (He.ga K "Look") dx [])) R E :=
  ⟨a, dx, _, own, rfl, upd_same, (upd_ne ne).trans upd_same, .inr ⟨x, rfl, hx, .inl ⟨n, g, fun cls d H' s hB => k cls d H' (fun b o e => s b o ((upd_ne (fun z => by rw [z, na] at e; cases e)).trans ((upd_ne (fun z => by rw [z, nd] at e; cases e)).trans e))) hB⟩⟩⟩
theorem ps_mono {X : Cx} {st : Stmt} {t t' : TS} (h : PS X st t) (m : ∀ D σ H, t' D σ H → t D σ H) : PS X st t' := ⟨fun pins s σ H D I q => h.run pins s σ H D I (m D σ H q)⟩
theorem law_or (y : Str) : (∃ tr : LT, tr.ok ∧ Txt.split y " " = tr.ws ∧ lawRes y = [.str "made", .int (Txt.split y " ").length, .int tr.dep]) ∨ ∃ n, lawRes y = [.str "BadLook", .int n] ∧ BadAt y n := by
  cases hL : lawRun lw0 (Txt.split y " ") with
  | made n d =>
    obtain ⟨tr, htr, hws⟩ := whole_tree (ws := Txt.split y " ") (by rw [hL]; trivial)
    refine .inl ⟨tr, htr, hws, ?_⟩
    unfold lawRes
    rw [hws, lawRun_whole htr]
    rfl
  | bad n => exact .inr ⟨n, by unfold lawRes; rw [hL]; rfl, law_bad (.inr hL)⟩
  | short => exact .inr ⟨_, by unfold lawRes; rw [hL]; rfl, law_bad (.inl ⟨hL, rfl⟩)⟩
def forB : Stmt → List Stmt
  | .For _ _ b _ _ => b
  | _ => []
def preBent (Pt : Addr) : TS := fun D σ H => ∃ (j c : Addr) (x : Str) (v0 v2 v3 v4 v6 v7 v8 v9 v10 v11 v12 v13 v14 v15 v16 v17 v18 v19 v20 v21 v22 : Option V), σ = [v0, some (.ref j), v2, v3, v4, some (.str x), v6, v7, v8, v9, v10, v11, v12, v13, v14, v15, v16, v17, v18, v19, v20, v21, v22] ∧ LC [(Pt, lamQ)] H j c ∧ x.length ≤ 190 ∧
      ∀ v17' v18' H', KeepT j H H' → LC [(Pt, lamQ)] H' j c → D.nx [v0, some (.ref j), v2, v3, v4, some (.str x), v6, v7, v8, v9, v10, v11, v12, v13, v14, v15, v16, v17', v18', v19, v20, v21, v22] H'
theorem turn_bent {P : Program} {w : World} {K : PySem.W.Frag} {mg : Str → Option Value} {base : Heap} {A : Around} {outer : List Env} {s : Shared} {H0 : Hp} {E : XK} {Pt : Addr} {fI fE fB fj fd' ft fy fe fx fr fl fp fR fm fu : Addr} {fdI fdE fdB fdj fdd fdt fdy fde fdx fdr fdl fdp fdR fdm fdu : FuncData} {ds m1 m2 : List Value}
    (Z : Free mg) (LK : Lk K mg) (LM : LkM P w K mg base fI fdI ds m1 m2) (EQ : EqM P w K mg base fE fdE) (RF : RefF P w K mg base fR fdR) (TB : LamX.TabB base mg (He.codeOf K lawP) Pt) (MM : LMeth P w K mg base "mirrored" (spMove K mirr) fm fdm) (MT : LMeth P w K mg base "turned_about" (spMove K turn) fu fdu)
    (Cj : Cal P w K mg base CX0 1 "_law_jar" ["script"] (spJar K) fj fdj) (Cd : Cal P w K mg base CX0 1 "_law_draw" ["jar", "many"] spDraw fd' fdd) (Ct : Cal P w K mg base CX0 3 "_law_tree" ["jar", "leaves", "most"] spTree ft fdt) (Cy : Cal P w K mg base CX0 1 "_law_say" ["tree"] spSay fy fdy)
    (Ce : Cal P w K mg base CX0 1 "_law_deep" ["tree"] spDeep fe fde) (Cx : Cal P w K mg base CX0 1 "_law_exchanged" ["tree", "words"] spExl fx fdx) (Cr : Cal P w K mg base CX0 1 "_law_look_read" ["v"] spRead fr fdr) (Cl : Cal P w K mg base CX0 5 "_law_told" ["told", "body", "many_of", "deepest"] (spTold K) fl fdl)
    (Cb : Cal P w K mg base CX0 3 "_law_bent_look" ["jar", "body"] spBent fB fdB) (Cp : Cal P w K mg base CX0 2 "_law_pick" ["jar", "menu"] (spPick K) fp fdp)
    (hr : Room 8 (A.deeper (envOfC "law" (defScope s_law) s.heap.objs.size (He.fAd K lawP) (.ref (He.codeOf K lawP))))) : PSs (lawX P w K mg base A outer s H0 E) (forB ((forB ((defBody s_law).getD 2 (.Pass ⟨0, 0, 0, 0⟩))).getD 12 (.Pass ⟨0, 0, 0, 0⟩)))
    (preBent Pt) := by
  have hu := hu_of hr
  have hu64 : (A.deeper (envOfC "law" (defScope s_law) s.heap.objs.size (He.fAd K lawP) (.ref (He.codeOf K lawP)))).units + 64 < cLine := hr.units
  refine pss_mono ((pss_cons (ps_set (i := 17) scLaw.nd rfl (Or.inr rfl) (pe_call Cb.ok (hr.mono (by omega)) rfl Cb.mg Cb.kp Cb.b .nil pass0 (pa_cons (pv 1) (pa_cons (pv 5) pa_nil))))
      (C8.pss_cut (ps_if (pt_cmpR op_eq (pe_call Cd.ok (hr.mono (by omega)) rfl Cd.mg Cd.kp Cd.b .nil pass0 (pa_cons (pv 1) (pa_cons pe_int pa_nil))) pe_int (nomark _)) 
        (pss_one (ps_set (i := 17) scLaw.nd rfl (Or.inr rfl) (pe_call Cb.ok (hr.mono (by omega)) rfl Cb.mg Cb.kp Cb.b .nil pass0 (pa_cons (pv 1) (pa_cons (pv 17) pa_nil))))) pss_nil)
      (pss_cons (ps_set (i := 18) scLaw.nd rfl (Or.inl rfl) (pe_call Cr.ok (hr.mono (by omega)) rfl Cr.mg Cr.kp Cr.b .nil pass0 (pa_cons (pv 17) pa_nil)))
      (pss_one (ps_if (pt_cmpR op_eq (pe_ix ix_tup (pv 18) pe_int (fun _ _ => rfl)) pe_str (nomark _)) 
        (pss_one (ps_if (PW.pt (pw_and (pt_cmpR op_le (pe_ix ix_tup (pv 18) pe_int (fun _ _ => rfl)) pe_int (nomark _)) (pw_and (pt_cmpR op_le (pe_ix ix_tup (pv 18) pe_int (fun _ _ => rfl)) pe_int (nomark _)) (pw_and1 (pt_not (pt_val (pe_call Cl.ok (hr.mono (by omega)) rfl Cl.mg Cl.kp Cl.b .nil pass0 (pa_cons (pe_make LM.mkr LM.ok (hr.mono (by omega)) rfl LM.m LM.b LM.d passN0 (pa_cons (pv 17) pa_nil)) (pa_cons (pv 17) (pa_cons (pe_ix ix_tup (pv 18) pe_int (fun _ _ => rfl)) (pa_cons (pe_ix ix_tup (pv 18) pe_int (fun _ _ => rfl)) pa_nil))))))))))) 
          (pss_one (ps_ret pe_bl)) pss_nil)) 
        (pss_one (ps_if (pt_not (pt_val (pe_callLam (T := [(Pt, lamQ)]) (TT := ttRefused K) (fun f c' Hm sm tl LA => RF.ok f c' _ Hm sm tl LA) (hr.mono (by omega)) rfl RF.mg RF.kp RF.b TB rfl (List.mem_singleton.mpr rfl) (fun p hp _ => by rw [List.mem_singleton.mp hp]; rfl) (LamX.lamS_by (sc := defScope s_law) (by decide +kernel)) rfl (fun _ _ _ _ _ => rfl) (fun A outer s H E f c' hr' => pe_make LM.mkr LM.ok (hr'.mono (by omega)) rfl LM.m LM.b LM.d lam_passes (pa_cons (pv 17) pa_nil)) (pa_cons (pv 18) pa_nil)))) 
          (pss_one (ps_ret pe_bl)) pss_nil)))))))) ?_
  rintro D σ H ⟨j, c, x, v0, v2, v3, v4, v6, v7, v8, v9, v10, v11, v12, v13, v14, v15, v16, v17, v18, v19, v20, v21, v22, rfl, hC, hx, k⟩
  walk_at "w"
  refine ⟨j, c, x, rfl, hC.jar, by omega, fun y H1 hy hB hJ1 => ?_⟩
  replace k := fun a b H' h => k a b H' ((KeepT.but hB).trans h)
  replace hC := hC.but hB hJ1
  walk_at "w"
  refine tCut_i (fun σ' H' => ∃ y : Str, σ' = [v0, some (.ref j), v2, v3, v4, some (.str x), v6, v7, v8, v9, v10, v11, v12, v13, v14, v15, v16, some (.str y), v18, v19, v20, v21, v22] ∧ y.length ≤ 900 ∧ KeepT j H1 H' ∧ LC [(Pt, lamQ)] H' j c) ?_ (fun σ' H' h => ?_)
  · walk_at "w"
    refine ⟨j, c, 4, rfl, hC.jar, by decide, by decide, fun d H2 hd0 hd3 hB2 hJ2 => ?_⟩
    replace hC := hC.but hB2 hJ2
    walk_at "w"
    refine iteB (fun hd => ?_) (fun hd => ?_)
    · walk_at "w"
      refine ⟨j, c, y, rfl, hJ2, by omega, fun z H3 hz hB3 hJ3 => ?_⟩
      walk_at "w"
      exact ⟨(KeepT.but hB2).trans (KeepT.but hB3), hC.but hB3 hJ3⟩
    · walk_at "w"
      exact ⟨KeepT.but hB2, hC⟩
  · clear hB hJ1 hy
    obtain ⟨y, rfl, hy, hk1, hC⟩ := h
    replace k := fun a b H' h => k a b H' (hk1.trans h)
    walk_at "w"
    refine ⟨y, rfl, hy, fun t H2 s2 ht => ?_⟩
    replace k := fun a b H' h => k a b H' ((KeepT.same s2).trans h)
    replace hC := hC.same s2
    rcases law_or y with ⟨tr, htr, hws, hlr⟩ | ⟨n, hlr, hbad⟩
    · have ht : H2 t = some (.tup [.str "made", .int (Txt.split y " ").length, .int tr.dep]) := by rw [ht, hlr]
      have hg : GoodAt y tr.dep := good_whole htr hws
      walk_at "w"
      refine iteB (fun h1 => ?_) (fun h1 => ?_)
      · have h1 := of_decide_eq_true h1
        walk_at "w"
        refine iteB (fun h2 => ?_) (fun h2 => ?_)
        · have h2 := of_decide_eq_true h2
          walk_at "w"
          refine tMake_i ?_
          walk_at "w"
          refine made_i (own := false) hy hg (fun _ => ⟨by omega, h2⟩) (fun b H3 s3 nb hl => ?_)
          have ht3 := s3 _ _ ht
          walk_at "w"
          refine ⟨b, y, tr.dep, rfl, hl, hg, hy, by omega, h2, fun H4 s4 => ?_⟩
          walk_at "w"
          exact k _ _ _ (KeepT.same (s3.trans s4)) (hC.same (s3.trans s4))
        · walk_at "w"
          exact k _ _ _ (KeepT.refl _ _) hC
      · walk_at "w"
        exact k _ _ _ (KeepT.refl _ _) hC
    · have ht : H2 t = some (.tup [.str "BadLook", .int n]) := by rw [ht, hlr]
      walk_at "w"
      refine tLam2_i hC.tb fun H3 c' eN T1 hc => ?_
      walk_at "w"
      refine ⟨t, n, rfl, eN _ _ ht (fun ps z => by cases z), fun H4 s4 => ?_, fun Q' E' hE => ?_⟩
      · walk_at "w"
        exact k _ _ _ ((KeepT.ext eN).trans (KeepT.same s4)) ((hC.ext eN T1).same s4)
      · refine tMake_i ?_
        walk_at "w"
        exact fun b dx nb nd ne => badmade_i (own := false) hy hbad (fun cls d H' s hB => hE cls d H' s hB) b dx nb nd ne
end K9
set_option Elab.async false
set_option linter.all false
set_option maxRecDepth 100000
set_option maxHeartbeats 4000000
namespace K9
open PySem PySem.Spec PyProof.Rows L2
/-! ### steps through a reading -/
/-- H a = some o, where H is told by its stores -/
local macro_rules | `(tactic| walk_at "look") => `(tactic| first
  | assumption
  | exact upd_same
  | (refine Eq.trans (upd_ne ?_) ?_ <;> first
      | assumption
      | exact Ne.symm (by assumption)
      | exact ne_nw (by assumption) (by walk_at "look")
      | exact Ne.symm (ne_nw (by assumption) (by walk_at "look"))
      | walk_at "look"))
local macro_rules | `(tactic| walk_at "sq") => `(tactic| first
  | assumption
  | exact SqL.of (by walk_at "look")
  | exact SqT.of (by walk_at "look"))
local macro_rules | `(tactic| walk_at "c") => `(tactic| first
  | decide
  | omega
  | assumption
  | exact Or.inr ⟨by decide, by decide⟩
  | exact ⟨by decide, by decide⟩
  | exact Nat.le_of_ble_eq_true rfl
  | exact line1000 (by assumption)
  | (intro z; omega)
  | (dsimp only; first | assumption | omega)
  | (constructor <;> first | decide | omega))
local macro_rules | `(tactic| walk_at "fl") => `(tactic| first
  | assumption
  | rfl
  | exact flat_ints _
  | decide +kernel
  | (simp only [List.all_map, List.all_cons, List.all_nil]; rfl))
local macro_rules | `(tactic| walk_at "ty") => `(tactic| first
  | exact TyX.base (TyOf.str _)
  | exact TyX.base (TyOf.int _)
  | exact TyX.base (TyOf.bl _)
  | exact TyX.base TyOf.non
  | exact TyX.base (TyOf.tup (by walk_at "look"))
  | exact TyX.base (TyOf.lst (by walk_at "look"))
  | exact TyX.base (TyOf.dK (by walk_at "look")))
local macro_rules | `(tactic| walk_at "kit") => `(tactic| first
  | assumption
  | exact kit_str_bool
  | exact kit_str_int
  | exact kit_str_str
  | exact kit_str_dict
  | exact kit_str_list
  | exact kit_str_tuple
  | exact kit_int_bool
  | exact kit_int_int
  | exact kit_int_str
  | exact kit_int_dict
  | exact kit_int_list
  | exact kit_int_tuple
  | exact kit_bool_bool
  | exact kit_bool_int
  | exact kit_bool_str
  | exact kit_bool_dict
  | exact kit_bool_list
  | exact kit_bool_tuple
  | exact kit_list_bool
  | exact kit_list_int
  | exact kit_list_str
  | exact kit_list_dict
  | exact kit_list_list
  | exact kit_list_tuple
  | exact kit_tuple_bool
  | exact kit_tuple_int
  | exact kit_tuple_str
  | exact kit_tuple_dict
  | exact kit_tuple_list
  | exact kit_tuple_tuple
  | exact kit_dict_bool
  | exact kit_dict_int
  | exact kit_dict_str
  | exact kit_dict_dict
  | exact kit_dict_list
  | exact kit_dict_tuple
  | exact kit_NoneType_bool
  | exact kit_NoneType_int
  | exact kit_NoneType_str
  | exact kit_NoneType_dict
  | exact kit_NoneType_list
  | exact kit_NoneType_tuple)
local macro_rules | `(tactic| walk_at "len") => `(tactic| (refine sline ?_; (try simp only [slen, show ("( " : Str).length = 2 from rfl, show (" " : Str).length = 1 from rfl, show (" )" : Str).length = 2 from rfl, show Str.empty.length = 0 from rfl]); omega))
local macro_rules | `(tactic| walk_at "w1") => `(tactic| (first
  | ((with_reducible apply tVar_i); exact rfl)
  | with_reducible refine tC_i ?_
  | with_reducible refine tCons_i ?_
  | with_reducible refine tNil_i ?_
  | with_reducible refine tOp_i ?_
  | with_reducible refine tSeq_i ?_
  | with_reducible refine tAsg_i ?_
  | with_reducible refine tDrop_i ?_
  | with_reducible refine tRet_i ?_
  | with_reducible refine tNext_i ?_
  | with_reducible refine tIfS_i ?_
  | with_reducible refine tIf_i ?_
  | with_reducible refine tTest_i ?_
  | with_reducible refine tB_i ?_
  | with_reducible refine tNot_i ?_
  | with_reducible refine tAnd_i ?_
  | with_reducible refine tOr_i ?_
  | with_reducible refine tAndV_i ?_
  | with_reducible refine tOrV_i ?_
  | with_reducible refine tNotV_i ?_
  | with_reducible refine tNotT_i ?_
  | with_reducible refine tUn_i ?_
  | with_reducible refine tCB_i ?_
  | with_reducible refine tCall_i ?_
  | with_reducible refine tTup_i ?_
  | with_reducible refine tLst_i ?_
  | with_reducible refine tPar_i ?_
  | with_reducible refine tPar3_i ?_
  | with_reducible refine tSl_i ?_
  | with_reducible refine bl_i ?_
  | with_reducible refine tFor_i ?_
  | with_reducible refine tLc_i ?_
  | with_reducible refine iEnum_i ?_
  | with_reducible refine iList_i ?_
  | with_reducible refine iTup_i ?_
  | with_reducible refine iRng1_i ?_
  | ((with_reducible apply enum_i); walk_at "sq")
  | ((with_reducible apply list_i); walk_at "sq")
  | ((with_reducible apply tup_i); walk_at "sq")
  | ((with_reducible refine rng1_i ?_ ?_); walk_at "c")
  | with_reducible refine par2_i ?_
  | with_reducible refine par3_i ?_
  | with_reducible refine gName_i ?_
  | with_reducible refine gc_i ?_
  | with_reducible refine gNil_i ?_
  | with_reducible refine rI0_i ?_
  | with_reducible refine rU_i ?_
  | with_reducible refine max2_i ?_
  | with_reducible refine tM1_i ?_
  | with_reducible refine tM0_i ?_
  | with_reducible refine str_i ?_
  | with_reducible refine tBM_iL ?_
  | with_reducible refine tBM0_iL ?_
  | ((with_reducible refine rEq_i ?_ ?_); exact rfl)
  | ((with_reducible refine rNe_i ?_ ?_); exact rfl)
  | ((with_reducible refine rI_i ?_ ?_); walk_at "c")
  | ((with_reducible apply ty_i); walk_at "sq")
  | ((with_reducible apply gTup_i); walk_at "sq"; exact rfl)
  | ((with_reducible apply rIxL_i); walk_at "sq"; first | exact rfl | assumption)
  | ((with_reducible apply rIxT_i); walk_at "sq"; first | exact rfl | assumption)
  | ((with_reducible apply rInT_i); walk_at "sq"; exact rfl; exact rfl)
  | ((with_reducible apply rInL_i); walk_at "sq"; exact rfl; exact rfl)
  | with_reducible refine gSub_i ?_
  | with_reducible refine tJs1_i ?_
  | with_reducible refine tJs0_i ?_
  | with_reducible refine tFmt_i ?_
  | ((with_reducible refine fmtS_i ?_ ?_); walk_at "len")
  | ((with_reducible refine js_i ?_ ?_); walk_at "len")
  | ((with_reducible apply rCat_i); walk_at "look"; walk_at "look"; walk_at "c")
  | ((with_reducible apply rIsi_i); walk_at "ty"; walk_at "kit")
  | ((with_reducible apply rNe_nil); walk_at "sq"; walk_at "fl"; walk_at "sq")
  | ((with_reducible apply rEq_nil); walk_at "sq"; walk_at "fl"; walk_at "sq")
  | with_reducible refine tDisp_i ?_
  | with_reducible refine tPairs0_i ?_
  | with_reducible refine tPairs1_i ?_
  | ((with_reducible apply disp1_i); walk_at "look")
  | ((with_reducible apply disp2_i); walk_at "look")
  | with_reducible refine tFld_i ?_
  | with_reducible refine sFld_i ?_
  | ((with_reducible apply fld_i); walk_at "look"; assumption; assumption; first | exact rfl | assumption)
  | ((with_reducible apply sfld_i); walk_at "look"; assumption; assumption; walk_at "c")
  | with_reducible refine tRevL_i ?_
  | ((with_reducible apply rev_i); walk_at "sq")
  | ((with_reducible apply rSetL_i); walk_at "look"; first | exact rfl | assumption)
  | ((with_reducible apply rIxK_i); assumption; assumption)
  | ((with_reducible apply rInK_i); assumption)
  | ((with_reducible apply rAppend_i); walk_at "look"; walk_at "c")
  | ((with_reducible apply rPop_i); walk_at "look"; first | exact rfl | assumption)
  | ((with_reducible apply len_i); walk_at "sq")
  | ((with_reducible apply lenT_i); walk_at "sq")
  | ((with_reducible apply rSlL_i); walk_at "sq")
  | with_reducible refine iteT ?_
  | with_reducible refine iteF ?_
  | ((with_reducible refine iteTk ?_ ?_); assumption)
  | ((with_reducible refine iteFk ?_ ?_); assumption)
  | ((with_reducible refine iteTk ?_ ?_); decide +kernel)
  | ((with_reducible refine iteFk ?_ ?_); decide +kernel)
  | ((with_reducible refine iteTk ?_ ?_); exact rfl)
  | ((with_reducible refine iteFk ?_ ?_); exact rfl)
  | with_reducible refine fun (p : Addr) (n : _ = none) => ?_
  | with_reducible refine Or.inl ⟨_, rfl, ?_⟩
  | with_reducible refine ⟨_, rfl, ?_⟩
  | with_reducible refine ⟨_, _, rfl, rfl, ?_⟩
  | ((with_reducible refine ⟨_, _, _, _, _, rfl, ClsV.ty _, ?_, ?_, ?_⟩); walk_at "ty"; walk_at "kit")
  | ((with_reducible refine And.intro ?_ ?_); walk_at "c")))
local macro_rules | `(tactic| walk_at "w") => `(tactic| repeat (walk_at "w1"))
local macro_rules | `(tactic| walk_at "but") => `(tactic| first
  | assumption
  | exact But.refl _ _
  | (refine But.upd ?_; walk_at "but")
  | (refine But.new ?_ (by assumption); walk_at "but"))
local macro_rules | `(tactic| walk_at "same") => `(tactic| first
  | assumption
  | exact Same.refl _
  | (refine Same.new ?_ (by assumption); walk_at "same")
  | (refine Same.trans (by assumption) ?_; walk_at "same"))
local macro_rules | `(tactic| walk_at "x") => `(tactic| (dsimp only [Cx.nox, Cx.wish, cxOf, L2H.cxH]))
theorem blkOk_in {N : List Str} {sc sc1 sc0 scope : Scope} {own : List (Str × Nat)} (e : sc = relS sc1 sc0) (h : blkC N (relS sc1 sc0) scope own = true) : BlkOk N sc scope own := by
  rw [e]
  exact blkOk_by h
def prePairs (K : PySem.W.Frag) : TS := fun D σ H => ∃ (mm : Addr) (as : List Addr) (L : List (Str × Addr)) (v0 v1 v3 v4 v5 v6 v7 v8 v9 v10 v11 v12 v13 v14 v15 v16 v17 v18 v19 v20 v21 v22 : Option V), σ = [v0, v1, some (.ref mm), v3, v4, v5, v6, v7, v8, v9, v10, v11, v12, v13, v14, v15, v16, v17, v18, v19, v20, v21, v22] ∧
      LRa H mm as (L.map fun p => [.str p.1, .ref p.2]) ∧ (∀ p ∈ L, ∃ n d, IsLook K H p.2 p.1 n d) ∧ L.length ≤ 10 ∧ ∀ H', Same H H' → D.nx σ H'
theorem st_pairs {P : Program} {w : World} {K : PySem.W.Frag} {mg : Str → Option Value} {base : Heap} {A : Around} {outer : List Env} {s : Shared} {H0 : Hp} {E : XK} {Pt : Addr} {fI fE fB fj fd' ft fy fe fx fr fl fp fR fm fu : Addr} {fdI fdE fdB fdj fdd fdt fdy fde fdx fdr fdl fdp fdR fdm fdu : FuncData} {ds m1 m2 : List Value}
    (Z : Free mg) (LK : Lk K mg) (LM : LkM P w K mg base fI fdI ds m1 m2) (EQ : EqM P w K mg base fE fdE) (RF : RefF P w K mg base fR fdR) (TB : LamX.TabB base mg (He.codeOf K lawP) Pt) (MM : LMeth P w K mg base "mirrored" (spMove K mirr) fm fdm) (MT : LMeth P w K mg base "turned_about" (spMove K turn) fu fdu)
    (Cj : Cal P w K mg base CX0 1 "_law_jar" ["script"] (spJar K) fj fdj) (Cd : Cal P w K mg base CX0 1 "_law_draw" ["jar", "many"] spDraw fd' fdd) (Ct : Cal P w K mg base CX0 3 "_law_tree" ["jar", "leaves", "most"] spTree ft fdt) (Cy : Cal P w K mg base CX0 1 "_law_say" ["tree"] spSay fy fdy)
    (Ce : Cal P w K mg base CX0 1 "_law_deep" ["tree"] spDeep fe fde) (Cx : Cal P w K mg base CX0 1 "_law_exchanged" ["tree", "words"] spExl fx fdx) (Cr : Cal P w K mg base CX0 1 "_law_look_read" ["v"] spRead fr fdr) (Cl : Cal P w K mg base CX0 5 "_law_told" ["told", "body", "many_of", "deepest"] (spTold K) fl fdl)
    (Cb : Cal P w K mg base CX0 3 "_law_bent_look" ["jar", "body"] spBent fB fdB) (Cp : Cal P w K mg base CX0 2 "_law_pick" ["jar", "menu"] (spPick K) fp fdp)
    (hr : Room 8 (A.deeper (envOfC "law" (defScope s_law) s.heap.objs.size (He.fAd K lawP) (.ref (He.codeOf K lawP))))) : PS (lawX P w K mg base A outer s H0 E) ((defBody s_law).getD 3 (.Pass ⟨0, 0, 0, 0⟩))
    (prePairs K) := by
  have hu := hu_of hr
  have hu64 : (A.deeper (envOfC "law" (defScope s_law) s.heap.objs.size (He.fAd K lawP) (.ref (He.codeOf K lawP)))).units + 64 < cLine := hr.units
  refine ps_mono ((ps_if (pt_cmpR (op_neD hu64) (pe_lc (own := [("first_text", 19), ("one_look", 14)]) (g := (gTup K 2 (gCons (gName 19) (gCons (gName 14) gNil)))) (tt := (tTest (tOp (rNeD K) (tLc (iList K (tVar 2)) (gTup K 2 (gCons (gName 20) (gCons (gName 21) gNil))) (tTest (tOp rNe (tOp (rOwn K (He.ga K "Look") (spEqL K)) (tVar 14) (tVar 21)) (tOp rEq (tVar 19) (tVar 20)))) (tC (.int 1)) [20, 21]) (tLst tNil)))) (by rfl) scLaw.nd (pi_list (pv 2)) (blkOk_by (own := [("first_text", 19), ("one_look", 14)]) (N := ["script", "jar", "made", "k", "tree", "body", "deepest", "many_of", "sign", "first", "last", "told", "across", "about", "one_look", "own", "t", "bent", "due", "first_text", "last_text", "other_look", "strange"]) (sc := defScope (top 56)) (by decide +kernel)) (fun _ _ _ _ _ => (pg_tup rfl (pgs_cons (pg_name (i := 19) scLaw.nd rfl (Or.inr rfl)) (pgs_cons (pg_name (i := 14) scLaw.nd rfl (Or.inr rfl)) pgs_nil))))
     (fun _ _ _ _ _ => by
      refine pts_one (pt_cmpR (show OpR _ (compareOp .NotEq) (rNeD K) from op_neD hu64) ?_ (pe_lst pa_nil) (nomark _))
      refine pe_lc (own := [("last_text", 20), ("other_look", 21)]) rfl scLaw.nd ?_ ?_ (fun _ _ _ _ _ => ?_) (fun _ _ _ _ _ => ?_) (fun _ _ _ _ _ => ?_)
      · exact pi_list (pv 2)
      · exact blkOk_in (N := lawN) (sc0 := defScope s_law) rfl (by decide +kernel)
      · exact pg_tup rfl (pgs_cons (pg_name (i := 20) scLaw.nd rfl (Or.inl rfl)) (pgs_cons (pg_name (i := 21) scLaw.nd rfl (Or.inl rfl)) pgs_nil))
      · exact pts_one (pt_cmpR op_ne (pe_cmpR (show OpR _ (compareOp .Eq) (rOwn K (He.ga K "Look") (spEqL K)) from op_own EQ.ok (hr.mono (by omega)) EQ.s EQ.fn EQ.b pass0) (pv 14) (pv 21) (nomark _)) (pe_cmpR op_eq (pv 19) (pv 20) (nomark _)) (nomark _))
      · exact pe_int) (fun _ _ _ _ _ => pe_int)) (pe_lst pa_nil) (nomark _)) 
        (pss_one (ps_ret pe_bl)) pss_nil)) ?_
  rintro D σ H ⟨mm, as, L, v0, v1, v3, v4, v5, v6, v7, v8, v9, v10, v11, v12, v13, v14, v15, v16, v17, v18, v19, v20, v21, v22, rfl, hm, hL, hl, k⟩
  have hlen := hm.len
  rw [List.length_map] at hlen
  have hml := hm.l
  refine tIfS_i (tTest_i (tOp_i (tLc_i (iList_i ?_))))
  walk_at "w"
  rename_i D1 n1
  have one : ∀ (H' : Hp), Same H H' → ∀ (i : Nat) (x : V), (as.map V.ref)[i]? = some x → ∃ a z b n d, x = .ref a ∧ H' a = some (.tup [.str z, .ref b]) ∧ IsLook K H' b z n d := fun H' s1 i x hx => by
    obtain ⟨a, r, rfl, hr, ha⟩ := (hm.same s1).item hx
    rw [List.getElem?_map] at hr
    obtain ⟨p, hp, rfl⟩ := Option.map_eq_some_iff.mp hr
    obtain ⟨n, d, hl⟩ := hL p (List.mem_of_getElem? hp)
    exact ⟨a, _, _, n, d, rfl, ha, hl.same s1⟩
  refine lc_list (xs := as.map V.ref) (fun i H' => Same H H' ∧ H' D1 = some (.lst [])) ⟨Same.new (Same.refl _) n1, upd_same⟩ (fun i H' hi h => SqL.of (h.1 _ _ hm.l)) (fun i x H1 hi h => ?_) (fun H' h => ?_)
  · obtain ⟨s1, e1⟩ := h
    obtain ⟨a, z, b, n, d, rfl, ha, hb⟩ := one H1 s1 i x hi
    refine gTup_i (SqT.of ha) rfl (gc_i (gName_i (gc_i (gName_i (gNil_i ?_)))))
    refine ⟨rfl, ?_⟩
    refine tTest_i (tOp_i (tLc_i (iList_i ?_)))
    have hm1 := s1 _ _ hm.l
    walk_at "w"
    rename_i D2 n2
    refine lc_list (xs := as.map V.ref) (fun i H' => Same H1 H' ∧ H' D2 = some (.lst [])) ⟨Same.new (Same.refl _) n2, upd_same⟩ (fun i H' hi h => SqL.of (h.1 _ _ hm1)) (fun i2 x2 H2 hi2 h2 => ?_) (fun H' h2 => ?_)
    · obtain ⟨s2, e2⟩ := h2
      obtain ⟨a2, z2, b2, n2, d2, rfl, ha2, hb2⟩ := one H2 (s1.trans s2) i2 x2 hi2
      refine gTup_i (SqT.of ha2) rfl (gc_i (gName_i (gc_i (gName_i (gNil_i ?_)))))
      refine ⟨rfl, ?_⟩
      walk_at "w"
      refine own_i LK (hb.same s2) hb2 ?_
      walk_at "w"
      refine iteFk (by rw [decS]; simp) ?_
      exact ⟨s2, e2⟩
    · obtain ⟨s2, e2⟩ := h2
      walk_at "w"
      rename_i D3 n3
      exact ⟨s1.trans (Same.new s2 n3), (Same.new s2 n3) _ _ e1⟩
  · obtain ⟨s1, e1⟩ := h
    walk_at "w"
    rename_i D3 n3
    exact k _ (Same.new s1 n3)
end K9
set_option Elab.async false
set_option linter.all false
set_option maxRecDepth 100000
set_option maxHeartbeats 4000000
namespace K9
open PySem PySem.Spec PyProof.Rows L2
/-! ### steps through a reading -/
/-- H a = some o, where H is told by its stores -/
local macro_rules | `(tactic| walk_at "look") => `(tactic| first
  | assumption
  | exact upd_same
  | (refine Eq.trans (upd_ne ?_) ?_ <;> first
      | assumption
      | exact Ne.symm (by assumption)
      | exact ne_nw (by assumption) (by walk_at "look")
      | exact Ne.symm (ne_nw (by assumption) (by walk_at "look"))
      | walk_at "look"))
local macro_rules | `(tactic| walk_at "sq") => `(tactic| first
  | assumption
  | exact SqL.of (by walk_at "look")
  | exact SqT.of (by walk_at "look"))
local macro_rules | `(tactic| walk_at "c") => `(tactic| first
  | decide
  | omega
  | assumption
  | exact Or.inr ⟨by decide, by decide⟩
  | exact ⟨by decide, by decide⟩
  | exact Nat.le_of_ble_eq_true rfl
  | exact line1000 (by assumption)
  | (intro z; omega)
  | (dsimp only; first | assumption | omega)
  | (constructor <;> first | decide | omega))
local macro_rules | `(tactic| walk_at "fl") => `(tactic| first
  | assumption
  | rfl
  | exact flat_ints _
  | decide +kernel
  | (simp only [List.all_map, List.all_cons, List.all_nil]; rfl))
local macro_rules | `(tactic| walk_at "ty") => `(tactic| first
  | exact TyX.base (TyOf.str _)
  | exact TyX.base (TyOf.int _)
  | exact TyX.base (TyOf.bl _)
  | exact TyX.base TyOf.non
  | exact TyX.base (TyOf.tup (by walk_at "look"))
  | exact TyX.base (TyOf.lst (by walk_at "look"))
  | exact TyX.base (TyOf.dK (by walk_at "look")))
local macro_rules | `(tactic| walk_at "kit") => `(tactic| first
  | assumption
  | exact kit_str_bool
  | exact kit_str_int
  | exact kit_str_str
  | exact kit_str_dict
  | exact kit_str_list
  | exact kit_str_tuple
  | exact kit_int_bool
  | exact kit_int_int
  | exact kit_int_str
  | exact kit_int_dict
  | exact kit_int_list
  | exact kit_int_tuple
  | exact kit_bool_bool
  | exact kit_bool_int
  | exact kit_bool_str
  | exact kit_bool_dict
  | exact kit_bool_list
  | exact kit_bool_tuple
  | exact kit_list_bool
  | exact kit_list_int
  | exact kit_list_str
  | exact kit_list_dict
  | exact kit_list_list
  | exact kit_list_tuple
  | exact kit_tuple_bool
  | exact kit_tuple_int
  | exact kit_tuple_str
  | exact kit_tuple_dict
  | exact kit_tuple_list
  | exact kit_tuple_tuple
  | exact kit_dict_bool
  | exact kit_dict_int
  | exact kit_dict_str
  | exact kit_dict_dict
  | exact kit_dict_list
  | exact kit_dict_tuple
  | exact kit_NoneType_bool
  | exact kit_NoneType_int
  | exact kit_NoneType_str
  | exact kit_NoneType_dict
  | exact kit_NoneType_list
  | exact kit_NoneType_tuple)
local macro_rules | `(tactic| walk_at "len") => `(tactic| (refine sline ?_; (try simp only [slen, show ("( " : Str).length = 2 from rfl, show (" " : Str).length = 1 from rfl, show (" )" : Str).length = 2 from rfl, show Str.empty.length = 0 from rfl]); omega))
local macro_rules | `(tactic| walk_at "w1") => `(tactic| (first
  | ((with_reducible apply tVar_i); exact rfl)
  | with_reducible refine tC_i ?_
  | with_reducible refine tCons_i ?_
  | with_reducible refine tNil_i ?_
  | with_reducible refine tOp_i ?_
  | with_reducible refine tSeq_i ?_
  | with_reducible refine tAsg_i ?_
  | with_reducible refine tDrop_i ?_
  | with_reducible refine tRet_i ?_
  | with_reducible refine tNext_i ?_
  | with_reducible refine tIfS_i ?_
  | with_reducible refine tIf_i ?_
  | with_reducible refine tTest_i ?_
  | with_reducible refine tB_i ?_
  | with_reducible refine tNot_i ?_
  | with_reducible refine tAnd_i ?_
  | with_reducible refine tOr_i ?_
  | with_reducible refine tAndV_i ?_
  | with_reducible refine tOrV_i ?_
  | with_reducible refine tNotV_i ?_
  | with_reducible refine tNotT_i ?_
  | with_reducible refine tUn_i ?_
  | with_reducible refine tCB_i ?_
  | with_reducible refine tCall_i ?_
  | with_reducible refine tTup_i ?_
  | with_reducible refine tLst_i ?_
  | with_reducible refine tPar_i ?_
  | with_reducible refine tPar3_i ?_
  | with_reducible refine tSl_i ?_
  | with_reducible refine bl_i ?_
  | with_reducible refine tFor_i ?_
  | with_reducible refine tLc_i ?_
  | with_reducible refine iEnum_i ?_
  | with_reducible refine iList_i ?_
  | with_reducible refine iTup_i ?_
  | with_reducible refine iRng1_i ?_
  | ((with_reducible apply enum_i); walk_at "sq")
  | ((with_reducible apply list_i); walk_at "sq")
  | ((with_reducible apply tup_i); walk_at "sq")
  | ((with_reducible refine rng1_i ?_ ?_); walk_at "c")
  | with_reducible refine par2_i ?_
  | with_reducible refine par3_i ?_
  | with_reducible refine gName_i ?_
  | with_reducible refine gc_i ?_
  | with_reducible refine gNil_i ?_
  | with_reducible refine rI0_i ?_
  | with_reducible refine rU_i ?_
  | with_reducible refine max2_i ?_
  | with_reducible refine tM1_i ?_
  | with_reducible refine tM0_i ?_
  | with_reducible refine str_i ?_
  | with_reducible refine tBM_iL ?_
  | with_reducible refine tBM0_iL ?_
  | ((with_reducible refine rEq_i ?_ ?_); exact rfl)
  | ((with_reducible refine rNe_i ?_ ?_); exact rfl)
  | ((with_reducible refine rI_i ?_ ?_); walk_at "c")
  | ((with_reducible apply ty_i); walk_at "sq")
  | ((with_reducible apply gTup_i); walk_at "sq"; exact rfl)
  | ((with_reducible apply rIxL_i); walk_at "sq"; first | exact rfl | assumption)
  | ((with_reducible apply rIxT_i); walk_at "sq"; first | exact rfl | assumption)
  | ((with_reducible apply rInT_i); walk_at "sq"; exact rfl; exact rfl)
  | ((with_reducible apply rInL_i); walk_at "sq"; exact rfl; exact rfl)
  | with_reducible refine gSub_i ?_
  | with_reducible refine tJs1_i ?_
  | with_reducible refine tJs0_i ?_
  | with_reducible refine tFmt_i ?_
  | ((with_reducible refine fmtS_i ?_ ?_); walk_at "len")
  | ((with_reducible refine js_i ?_ ?_); walk_at "len")
  | ((with_reducible apply rCat_i); walk_at "look"; walk_at "look"; walk_at "c")
  | ((with_reducible apply rIsi_i); walk_at "ty"; walk_at "kit")
  | ((with_reducible apply rNe_nil); walk_at "sq"; walk_at "fl"; walk_at "sq")
  | ((with_reducible apply rEq_nil); walk_at "sq"; walk_at "fl"; walk_at "sq")
  | with_reducible refine tDisp_i ?_
  | with_reducible refine tPairs0_i ?_
  | with_reducible refine tPairs1_i ?_
  | ((with_reducible apply disp1_i); walk_at "look")
  | ((with_reducible apply disp2_i); walk_at "look")
  | with_reducible refine tFld_i ?_
  | with_reducible refine sFld_i ?_
  | ((with_reducible apply fld_i); walk_at "look"; assumption; assumption; first | exact rfl | assumption)
  | ((with_reducible apply sfld_i); walk_at "look"; assumption; assumption; walk_at "c")
  | with_reducible refine tRevL_i ?_
  | ((with_reducible apply rev_i); walk_at "sq")
  | ((with_reducible apply rSetL_i); walk_at "look"; first | exact rfl | assumption)
  | ((with_reducible apply rIxK_i); assumption; assumption)
  | ((with_reducible apply rInK_i); assumption)
  | ((with_reducible apply rAppend_i); walk_at "look"; walk_at "c")
  | ((with_reducible apply rPop_i); walk_at "look"; first | exact rfl | assumption)
  | ((with_reducible apply len_i); walk_at "sq")
  | ((with_reducible apply lenT_i); walk_at "sq")
  | ((with_reducible apply rSlL_i); walk_at "sq")
  | with_reducible refine iteT ?_
  | with_reducible refine iteF ?_
  | ((with_reducible refine iteTk ?_ ?_); assumption)
  | ((with_reducible refine iteFk ?_ ?_); assumption)
  | ((with_reducible refine iteTk ?_ ?_); decide +kernel)
  | ((with_reducible refine iteFk ?_ ?_); decide +kernel)
  | ((with_reducible refine iteTk ?_ ?_); exact rfl)
  | ((with_reducible refine iteFk ?_ ?_); exact rfl)
  | with_reducible refine fun (p : Addr) (n : _ = none) => ?_
  | with_reducible refine Or.inl ⟨_, rfl, ?_⟩
  | with_reducible refine ⟨_, rfl, ?_⟩
  | with_reducible refine ⟨_, _, rfl, rfl, ?_⟩
  | ((with_reducible refine ⟨_, _, _, _, _, rfl, ClsV.ty _, ?_, ?_, ?_⟩); walk_at "ty"; walk_at "kit")
  | ((with_reducible refine And.intro ?_ ?_); walk_at "c")))
local macro_rules | `(tactic| walk_at "w") => `(tactic| repeat (walk_at "w1"))
local macro_rules | `(tactic| walk_at "but") => `(tactic| first
  | assumption
  | exact But.refl _ _
  | (refine But.upd ?_; walk_at "but")
  | (refine But.new ?_ (by assumption); walk_at "but"))
local macro_rules | `(tactic| walk_at "same") => `(tactic| first
  | assumption
  | exact Same.refl _
  | (refine Same.new ?_ (by assumption); walk_at "same")
  | (refine Same.trans (by assumption) ?_; walk_at "same"))
local macro_rules | `(tactic| walk_at "x") => `(tactic| (dsimp only [Cx.nox, Cx.wish, cxOf, L2H.cxH]))
abbrev lawK : List Stmt := forB ((defBody s_law).getD 2 (.Pass ⟨0, 0, 0, 0⟩))
/-- a drawn tree's bounds -/
structure Small (t : LT) : Prop where
  ok : t.ok
  ws : t.ws.length ≤ 20
  dep : t.dep ≤ 7
theorem Small.ex {l : List (Str × Str)} (T : Tab l) {t : LT} (h : Small t) : Small (t.ex l) := ⟨ex_ok T t h.ok, by rw [ex_ws T t, List.length_map]; exact h.ws, by rw [ex_dep]; exact h.dep⟩
theorem Small.len {t : LT} (h : Small t) : t.txt.length ≤ 99 := by
  have := txt_len t h.ok
  have := h.ws
  omega
theorem Small.split {t : LT} (h : Small t) : Txt.split t.txt " " = t.ws := split_txt h.ok
theorem Small.good {t : LT} (h : Small t) : GoodAt t.txt t.dep := good_whole h.ok h.split
theorem TI.small {l s c m : Nat} {nds : List Nd} {ts : List LT} (h : TI l s c nds ts [ts.length - 1]) (hs : s ≤ m) (hm : m ≤ 7) (hl : l ≤ 4) (h0 : 0 < ts.length) : ∃ t, ts[ts.length - 1]? = some t ∧ Small t ∧ t.ws.length = (nds.map wt).sum ∧ (∀ u ∈ ts, u.ok ∧ u.ws.length ≤ 20) ∧ ts.length ≤ 1000 := by
  obtain ⟨t, ht⟩ : ∃ t, ts[ts.length - 1]? = some t := ⟨ts[ts.length - 1]'(by omega), List.getElem?_eq_getElem _⟩
  have hw := h.w
  have hn := h.n
  rw [sumAt_one, valAt_some ht] at hw hn
  have hc := h.cnt
  have hsum := h.sum
  have hlen := h.len
  rw [List.length_singleton] at hc
  have hw : t.ws.length = (nds.map wt).sum := hw
  have hd := dep_sn t
  refine ⟨t, ht, ⟨h.b.okAt ht, by omega, by omega⟩, hw, fun u hu => ?_, by omega⟩
  have h1 := h.al u hu
  obtain ⟨i, hi⟩ := List.getElem?_of_mem hu
  have h3 : u.wn = u.ws.length := rfl
  exact ⟨h.b.okAt hi, by omega⟩
theorem all_short {ts : List LT} (h : ∀ u ∈ ts, u.ok ∧ u.ws.length ≤ 20) : ∀ u ∈ ts, u.txt.length ≤ 400 := fun u hu => by
  have := txt_len u (h u hu).1
  have := (h u hu).2
  omega
theorem all_ex {l : List (Str × Str)} (T : Tab l) {ts : List LT} (h : ∀ u ∈ ts, u.ok ∧ u.ws.length ≤ 20) : ∀ u ∈ ts.map (LT.ex l), u.ok ∧ u.ws.length ≤ 20 := fun u hu => by
  obtain ⟨v, hv, rfl⟩ := List.mem_map.mp hu
  exact ⟨ex_ok T v (h v hv).1, by rw [ex_ws T v, List.length_map]; exact (h v hv).2⟩
theorem eqv_flatT {xs : List V} (h : xs.all flatD = true) : PyData.eqv (.tuple (xs.map dataV)) (.tuple (xs.map dataV)) = true := by
  have hs := shapedT h
  unfold SeqAt.shaped at hs
  exact SeqAt.eqv_refl _ (Bool.and_eq_true_iff.mp hs).1
theorem block1 {P : Program} {w : World} {K : PySem.W.Frag} {mg : Str → Option Value} {base : Heap} {A : Around} {outer : List Env} {s : Shared} {H0 : Hp} {E : XK} {Pt : Addr} {fI fE fB fj fd' ft fy fe fx fr fl fp fR fm fu : Addr} {fdI fdE fdB fdj fdd fdt fdy fde fdx fdr fdl fdp fdR fdm fdu : FuncData} {ds m1 m2 : List Value}
    (Z : Free mg) (LK : Lk K mg) (LM : LkM P w K mg base fI fdI ds m1 m2) (EQ : EqM P w K mg base fE fdE) (RF : RefF P w K mg base fR fdR) (TB : LamX.TabB base mg (He.codeOf K lawP) Pt) (MM : LMeth P w K mg base "mirrored" (spMove K mirr) fm fdm) (MT : LMeth P w K mg base "turned_about" (spMove K turn) fu fdu)
    (Cj : Cal P w K mg base CX0 1 "_law_jar" ["script"] (spJar K) fj fdj) (Cd : Cal P w K mg base CX0 1 "_law_draw" ["jar", "many"] spDraw fd' fdd) (Ct : Cal P w K mg base CX0 3 "_law_tree" ["jar", "leaves", "most"] spTree ft fdt) (Cy : Cal P w K mg base CX0 1 "_law_say" ["tree"] spSay fy fdy)
    (Ce : Cal P w K mg base CX0 1 "_law_deep" ["tree"] spDeep fe fde) (Cx : Cal P w K mg base CX0 1 "_law_exchanged" ["tree", "words"] spExl fx fdx) (Cr : Cal P w K mg base CX0 1 "_law_look_read" ["v"] spRead fr fdr) (Cl : Cal P w K mg base CX0 5 "_law_told" ["told", "body", "many_of", "deepest"] (spTold K) fl fdl)
    (Cb : Cal P w K mg base CX0 3 "_law_bent_look" ["jar", "body"] spBent fB fdB) (Cp : Cal P w K mg base CX0 2 "_law_pick" ["jar", "menu"] (spPick K) fp fdp)
    (hr : Room 8 (A.deeper (envOfC "law" (defScope s_law) s.heap.objs.size (He.fAd K lawP) (.ref (He.codeOf K lawP))))) {rest : List Stmt} {u : TS} (hrest : PSs (lawX P w K mg base A outer s H0 E) rest u) : PSs (lawX P w K mg base A outer s H0 E) (List.take 8 lawK ++ rest)
    (fun D σ H => ∃ (j c : Addr) (v0 v2 v3 v4 v5 v6 v7 v8 v9 v10 v11 v12 v13 v14 v15 v16 v17 v18 v19 v20 v21 v22 : Option V), σ = [v0, some (.ref j), v2, v3, v4, v5, v6, v7, v8, v9, v10, v11, v12, v13, v14, v15, v16, v17, v18, v19, v20, v21, v22] ∧ LC [(Pt, lamQ)] H j c ∧
      ∀ (t : LT) (a : Addr) v4' v8' v9' v10' H', Small t → But j H H' → LC [(Pt, lamQ)] H' j c → Told K H' a t.txt t.dep → u D [v0, some (.ref j), v2, v3, v4', some (.str t.txt), some (.int t.dep), some (.int (Txt.split t.txt " ").length), v8', v9', v10', some (.ref a), some (.str (t.ex mirr).txt), some (.str (t.ex turn).txt), v14, v15, v16, v17, v18, v19, v20, v21, v22] H') := by
  have hu := hu_of hr
  have hu64 : (A.deeper (envOfC "law" (defScope s_law) s.heap.objs.size (He.fAd K lawP) (.ref (He.codeOf K lawP)))).units + 64 < cLine := hr.units
  refine pss_mono ((pss_cons (ps_set (i := 4) scLaw.nd rfl (Or.inl rfl) (pe_call Ct.ok (hr.mono (by omega)) rfl Ct.mg Ct.kp Ct.b .nil pass0 (pa_cons (pv 1) (pa_cons (pe_op op_add pe_int (pe_call Cd.ok (hr.mono (by omega)) rfl Cd.mg Cd.kp Cd.b .nil pass0 (pa_cons (pv 1) (pa_cons pe_int pa_nil)))) (pa_cons (pe_call Cd.ok (hr.mono (by omega)) rfl Cd.mg Cd.kp Cd.b .nil pass0 (pa_cons (pv 1) (pa_cons pe_int pa_nil))) pa_nil)))))
      (pss_cons (ps_set (i := 5) scLaw.nd rfl (Or.inl rfl) (pe_call Cy.ok (hr.mono (by omega)) rfl Cy.mg Cy.kp Cy.b .nil pass0 (pa_cons (pv 4) pa_nil)))
      (pss_cons (ps_set (i := 6) scLaw.nd rfl (Or.inl rfl) (pe_call Ce.ok (hr.mono (by omega)) rfl Ce.mg Ce.kp Ce.b .nil pass0 (pa_cons (pv 4) pa_nil)))
      (pss_cons (ps_set (i := 7) scLaw.nd rfl (Or.inl rfl) (pe_callB (cr_sum rfl) (by rfl) Z.sum (by decide +kernel) (pa_cons (pe_lc (own := [("sign", 8), ("first", 9), ("last", 10)]) (g := (gTup K 3 (gCons (gName 8) (gCons (gName 9) (gCons (gName 10) gNil))))) (by rfl) scLaw.nd (pi_list (pv 4)) (blkOk_by (own := [("sign", 8), ("first", 9), ("last", 10)]) (N := ["script", "jar", "made", "k", "tree", "body", "deepest", "many_of", "sign", "first", "last", "told", "across", "about", "one_look", "own", "t", "bent", "due", "first_text", "last_text", "other_look", "strange"]) (sc := defScope (top 56)) (by decide +kernel)) (fun _ _ _ _ _ => (pg_tup rfl (pgs_cons (pg_name (i := 8) scLaw.nd rfl (Or.inl rfl)) (pgs_cons (pg_name (i := 9) scLaw.nd rfl (Or.inl rfl)) (pgs_cons (pg_name (i := 10) scLaw.nd rfl (Or.inl rfl)) pgs_nil))))) (fun _ _ _ _ _ => pts_nil) (fun _ _ _ _ _ => (pe_ifExp (pt_cmpR op_ge (pv 10) pe_int (nomark _)) pe_int pe_int))) pa_nil)))
      (pss_cons (ps_if (pt_cmpR (op_neD hu64) (pe_call Cr.ok (hr.mono (by omega)) rfl Cr.mg Cr.kp Cr.b .nil pass0 (pa_cons (pv 5) pa_nil)) (pe_tup (pa_cons pe_str (pa_cons (pv 7) (pa_cons (pv 6) pa_nil)))) (nomark _)) 
        (pss_one (ps_ret pe_bl)) pss_nil)
      (pss_cons (ps_set (i := 11) scLaw.nd rfl (Or.inl rfl) (pe_make LM.mkr LM.ok (hr.mono (by omega)) rfl LM.m LM.b LM.d passN0 (pa_cons (pv 5) pa_nil)))
      (pss_cons (ps_set (i := 12) scLaw.nd rfl (Or.inl rfl) (pe_call Cy.ok (hr.mono (by omega)) rfl Cy.mg Cy.kp Cy.b .nil pass0 (pa_cons (pe_call Cx.ok (hr.mono (by omega)) rfl Cx.mg Cx.kp Cx.b .nil pass0 (pa_cons (pv 4) (pa_cons (pe_disp (pps_cons pe_str pe_str (pps_cons pe_str pe_str (pps_cons pe_str pe_str (pps_cons pe_str pe_str pps_nil)))) (by rfl) (by rfl) (fun z => by cases z) (by decide)) pa_nil))) pa_nil)))
      (pss_cons (ps_set (i := 13) scLaw.nd rfl (Or.inl rfl) (pe_call Cy.ok (hr.mono (by omega)) rfl Cy.mg Cy.kp Cy.b .nil pass0 (pa_cons (pe_call Cx.ok (hr.mono (by omega)) rfl Cx.mg Cx.kp Cx.b .nil pass0 (pa_cons (pv 4) (pa_cons (pe_disp (pps_cons pe_str pe_str (pps_cons pe_str pe_str (pps_cons pe_str pe_str (pps_cons pe_str pe_str (pps_cons pe_str pe_str (pps_cons pe_str pe_str (pps_cons pe_str pe_str (pps_cons pe_str pe_str pps_nil)))))))) (by rfl) (by rfl) (fun z => by cases z) (by decide)) pa_nil))) pa_nil)))
      hrest))))))))) ?_
  rintro D σ H ⟨j, c, v0, v2, v3, v4, v5, v6, v7, v8, v9, v10, v11, v12, v13, v14, v15, v16, v17, v18, v19, v20, v21, v22, rfl, hC, k⟩
  walk_at "w"
  refine ⟨j, c, 4, rfl, hC.jar, by decide, by decide, fun d1 H1 hd0 hd1 hB1 hJ1 => ?_⟩
  walk_at "w"
  refine ⟨j, c, 8, rfl, hJ1, by decide, by decide, fun d2 H2 hd2 hd3 hB2 hJ2 => ?_⟩
  obtain ⟨l, rfl⟩ : ∃ n : Nat, d1 = (n : Int) := ⟨d1.toNat, by omega⟩
  obtain ⟨m, rfl⟩ : ∃ n : Nat, d2 = (n : Int) := ⟨d2.toNat, by omega⟩
  walk_at "w"
  refine ⟨j, c, l + 1, m, by rw [show ((l + 1 : Nat) : Int) = 1 + (l : Int) by omega]; rfl, hJ2, by omega, by omega, by omega, fun p H3 nds ts s' c' hB3 hJ3 np hpj hLR hTI hsm hts => ?_⟩
  obtain ⟨t, ht, hS, hws, htx, hl1000⟩ := hTI.small hsm (by omega) (by omega) hts
  have hb := hTI.b
  walk_at "w"
  refine ⟨p, nds, ts, t, rfl, hLR, hb, hl1000, all_short htx, ht, fun H4 s4 => ?_⟩
  walk_at "w"
  refine ⟨p, nds, ts, t, rfl, hLR.same s4, hb, hl1000, ht, fun H5 s5 => ?_⟩
  have hLR5 := (hLR.same s4).same s5
  have hB5 : But j H H5 := (((hB1.trans hB2).trans hB3).trans (But.of s4)).trans (But.of s5)
  have hC5 : LC [(Pt, lamQ)] H5 j c := (((hC.but hB1 hJ1).but hB2 hJ2).but hB3 hJ3).same (s4.trans s5)
  clear hB1 hB2 hB3 hJ1 hJ2 hJ3 s4 s5
  obtain ⟨as, hla⟩ := id hLR5
  have hlal := hla.l
  walk_at "w"
  rename_i D1 n1
  have hlen := hla.len
  rw [List.length_map, hb.len] at hlen
  refine lc_list (xs := as.map V.ref) (fun i H' => Same H5 H' ∧ H' D1 = some (.lst (((nds.take i).map fun n => (wt n : Int)).map V.int))) ⟨Same.new (Same.refl _) n1, upd_same⟩ (fun i H' hi h => SqL.of (h.1 _ _ hlal)) (fun i x H6 hi h => ?_) (fun H6 h => ?_)
  · obtain ⟨s6, e6⟩ := h
    obtain ⟨a, r, rfl, hr2, ha⟩ := (hla.same s6).item hi
    rw [List.getElem?_map] at hr2
    obtain ⟨nd, hnd, rfl⟩ := Option.map_eq_some_iff.mp hr2
    have ha : H6 a = some (.tup [.str nd.1, .int nd.2.1, .int nd.2.2]) := ha
    refine gTup_i (SqT.of ha) rfl (gc_i (gName_i (gc_i (gName_i (gc_i (gName_i (gNil_i ?_)))))))
    refine ⟨rfl, ?_⟩
    refine tYes_i ?_
    with_reducible refine iteT ?_
    have z1 : (((nds.take i).map fun n => (wt n : Int)).map V.int).length < sizeLine := by
      rw [List.length_map, List.length_map, List.length_take, hb.len]
      exact small1000 (by omega)
    have fin : ∀ z : Int, z = (wt nd : Int) → Same H5 (upd H6 D1 (.lst ((((nds.take i).map fun n => (wt n : Int)).map V.int) ++ [.int z]))) ∧ upd H6 D1 (.lst ((((nds.take i).map fun n => (wt n : Int)).map V.int) ++ [.int z])) D1 = some (.lst (((nds.take (i + 1)).map fun n => (wt n : Int)).map V.int)) := fun z e => by
      subst e
      refine ⟨sameU s6 n1, ?_⟩
      rw [upd_same, List.take_add_one, hnd, List.map_append, List.map_append]
      rfl
    walk_at "w"
    refine iteB (fun h1 => ?_) (fun h1 => ?_)
    · walk_at "w"
      exact ⟨_, e6, z1, fin _ (by unfold wt; rw [if_pos (of_decide_eq_true h1)]; rfl)⟩
    · walk_at "w"
      exact ⟨_, e6, z1, fin _ (by unfold wt; rw [if_neg (of_decide_eq_false h1)]; rfl)⟩
  · obtain ⟨s6, e6⟩ := h
    rw [List.length_map, hlen, ← hb.len, List.take_length] at e6
    have hC6 := hC5.same s6
    have hB6 := hB5.trans (But.of s6)
    have hLR6 := hLR5.same s6
    have hsum : (nds.map fun n => (wt n : Int)).sum = ((Txt.split t.txt " ").length : Int) := by
      rw [hS.split, hws]
      generalize nds = l
      induction l with
      | nil => rfl
      | cons n l ih =>
        rw [List.map_cons, List.sum_cons, ih, List.map_cons, List.sum_cons]
        omega
    clear hB5 hC5 hLR5
    walk_at "w"
    refine ⟨D1, _, rfl, SqL.of e6, ?_⟩
    rw [hsum]
    walk_at "w"
    refine ⟨t.txt, rfl, by have := hS.len; omega, fun T1 H7 s7 hT1 => ?_⟩
    have hlr : lawRes t.txt = [.str "made", .int (Txt.split t.txt " ").length, .int t.dep] := by
      unfold lawRes
      rw [hS.split, lawRun_whole hS.ok]
      rfl
    rw [hlr] at hT1
    have hC7 := hC6.same s7
    have hB7 := hB6.trans (But.of s7)
    have hLR7 := hLR6.same s7
    clear hC6 hB6 hLR6 e6 s6
    walk_at "w"
    rename_i T2 n2
    have hfl : ([.str "made", .int (Txt.split t.txt " ").length, .int t.dep] : List V).all flatD = true := by simp only [List.all_cons, List.all_nil, flatD]; decide +kernel
    refine rNe_flatT (SqT.of ((upd_ne (ne_nw n2 hT1)).trans hT1)) (SqT.of upd_same) hfl hfl ?_
    rw [eqv_flatT hfl]
    walk_at "w"
    refine tMake_i ?_
    walk_at "w"
    refine made_i (own := false) (by have := hS.len; omega) hS.good (fun _ => ⟨by rw [hS.split]; have := hS.ws; omega, by have := hS.dep; omega⟩) (fun a H8 s8 na ha => ?_)
    have s78 : Same H7 H8 := (Same.new (Same.refl _) n2).trans s8
    have hC8 := hC7.same s78
    have hB8 := hB7.trans (But.of s78)
    have hLR8 := hLR7.same s78
    clear hC7 hB7 hLR7 s78 s8
    have hbl : ∀ {l : List (Str × Str)}, (nds.map (exN l)).length ≤ 1000 := by
      intro l
      rw [List.length_map, hb.len]
      exact hl1000
    have exl : ∀ {l : List (Str × Str)}, (ts.map (LT.ex l))[(ts.map (LT.ex l)).length - 1]? = some (t.ex l) := by
      intro l
      rw [List.length_map, List.getElem?_map, ht]
      rfl
    walk_at "w"
    rename_i pd nd
    refine ⟨upd_same, kp (kvS mirr), rfl, by decide, ?_⟩
    rw [upd_upd, show mergeK [] (kp (kvS mirr)) = kp (kvS mirr) from rfl]
    walk_at "w"
    refine ⟨p, pd, nds, mirr, rfl, hLR8.same (Same.new (Same.refl _) nd), by rw [hb.len]; exact hl1000, upd_same, fun q H9 s9 hLR9 => ?_⟩
    have s89 := (Same.new (o := _) (Same.refl H8) nd).trans s9
    walk_at "w"
    refine ⟨q, nds.map (exN mirr), ts.map (LT.ex mirr), t.ex mirr, rfl, hLR9, hb.ex tab_mirr, by rw [List.length_map]; exact hl1000, all_short (all_ex tab_mirr htx), exl, fun H10 s10 => ?_⟩
    replace ha := (IsLook.same ha s89).same s10
    have hC10 := (hC8.same s89).same s10
    have hB10 := (hB8.trans (But.of s89)).trans (But.of s10)
    have hLR10 := (hLR8.same s89).same s10
    clear hC8 hB8 hLR8 s89 s10 s9 hLR9
    walk_at "w"
    rename_i pe ne
    refine ⟨upd_same, kp (kvS turn), rfl, by decide, ?_⟩
    rw [upd_upd, show mergeK [] (kp (kvS turn)) = kp (kvS turn) from rfl]
    walk_at "w"
    refine ⟨p, pe, nds, turn, rfl, hLR10.same (Same.new (Same.refl _) ne), by rw [hb.len]; exact hl1000, upd_same, fun q2 H11 s11 hLR11 => ?_⟩
    have s1 := (Same.new (o := _) (Same.refl H10) ne).trans s11
    walk_at "w"
    refine ⟨q2, nds.map (exN turn), ts.map (LT.ex turn), t.ex turn, rfl, hLR11, hb.ex tab_turn, by rw [List.length_map]; exact hl1000, all_short (all_ex tab_turn htx), exl, fun H12 s12 => ?_⟩
    replace ha := (IsLook.same ha s1).same s12
    have hC12 := (hC10.same s1).same s12
    have hB12 := (hB10.trans (But.of s1)).trans (But.of s12)
    walk_at "w"
    exact k t a _ _ _ _ _ hS hB12 hC12 ha
end K9
set_option Elab.async false
set_option linter.all false
set_option maxRecDepth 100000
set_option maxHeartbeats 4000000
namespace K9
open PySem PySem.Spec PyProof.Rows L2
/-! ### steps through a reading -/
/-- H a = some o, where H is told by its stores -/
local macro_rules | `(tactic| walk_at "look") => `(tactic| first
  | assumption
  | exact upd_same
  | (refine Eq.trans (upd_ne ?_) ?_ <;> first
      | assumption
      | exact Ne.symm (by assumption)
      | exact ne_nw (by assumption) (by walk_at "look")
      | exact Ne.symm (ne_nw (by assumption) (by walk_at "look"))
      | walk_at "look"))
local macro_rules | `(tactic| walk_at "sq") => `(tactic| first
  | assumption
  | exact SqL.of (by walk_at "look")
  | exact SqT.of (by walk_at "look"))
local macro_rules | `(tactic| walk_at "c") => `(tactic| first
  | decide
  | omega
  | assumption
  | exact Or.inr ⟨by decide, by decide⟩
  | exact ⟨by decide, by decide⟩
  | exact Nat.le_of_ble_eq_true rfl
  | exact line1000 (by assumption)
  | (intro z; omega)
  | (dsimp only; first | assumption | omega)
  | (constructor <;> first | decide | omega))
local macro_rules | `(tactic| walk_at "fl") => `(tactic| first
  | assumption
  | rfl
  | exact flat_ints _
  | decide +kernel
  | (simp only [List.all_map, List.all_cons, List.all_nil]; rfl))
local macro_rules | `(tactic| walk_at "ty") => `(tactic| first
  | exact TyX.base (TyOf.str _)
  | exact TyX.base (TyOf.int _)
  | exact TyX.base (TyOf.bl _)
  | exact TyX.base TyOf.non
  | exact TyX.base (TyOf.tup (by walk_at "look"))
  | exact TyX.base (TyOf.lst (by walk_at "look"))
  | exact TyX.base (TyOf.dK (by walk_at "look")))
local macro_rules | `(tactic| walk_at "kit") => `(tactic| first
  | assumption
  | exact kit_str_bool
  | exact kit_str_int
  | exact kit_str_str
  | exact kit_str_dict
  | exact kit_str_list
  | exact kit_str_tuple
  | exact kit_int_bool
  | exact kit_int_int
  | exact kit_int_str
  | exact kit_int_dict
  | exact kit_int_list
  | exact kit_int_tuple
  | exact kit_bool_bool
  | exact kit_bool_int
  | exact kit_bool_str
  | exact kit_bool_dict
  | exact kit_bool_list
  | exact kit_bool_tuple
  | exact kit_list_bool
  | exact kit_list_int
  | exact kit_list_str
  | exact kit_list_dict
  | exact kit_list_list
  | exact kit_list_tuple
  | exact kit_tuple_bool
  | exact kit_tuple_int
  | exact kit_tuple_str
  | exact kit_tuple_dict
  | exact kit_tuple_list
  | exact kit_tuple_tuple
  | exact kit_dict_bool
  | exact kit_dict_int
  | exact kit_dict_str
  | exact kit_dict_dict
  | exact kit_dict_list
  | exact kit_dict_tuple
  | exact kit_NoneType_bool
  | exact kit_NoneType_int
  | exact kit_NoneType_str
  | exact kit_NoneType_dict
  | exact kit_NoneType_list
  | exact kit_NoneType_tuple)
local macro_rules | `(tactic| walk_at "len") => `(tactic| (refine sline ?_; (try simp only [slen, show ("( " : Str).length = 2 from rfl, show (" " : Str).length = 1 from rfl, show (" )" : Str).length = 2 from rfl, show Str.empty.length = 0 from rfl]); omega))
local macro_rules | `(tactic| walk_at "w1") => `(tactic| (first
  | ((with_reducible apply tVar_i); exact rfl)
  | with_reducible refine tC_i ?_
  | with_reducible refine tCons_i ?_
  | with_reducible refine tNil_i ?_
  | with_reducible refine tOp_i ?_
  | with_reducible refine tSeq_i ?_
  | with_reducible refine tAsg_i ?_
  | with_reducible refine tDrop_i ?_
  | with_reducible refine tRet_i ?_
  | with_reducible refine tNext_i ?_
  | with_reducible refine tIfS_i ?_
  | with_reducible refine tIf_i ?_
  | with_reducible refine tTest_i ?_
  | with_reducible refine tB_i ?_
  | with_reducible refine tNot_i ?_
  | with_reducible refine tAnd_i ?_
  | with_reducible refine tOr_i ?_
  | with_reducible refine tAndV_i ?_
  | with_reducible refine tOrV_i ?_
  | with_reducible refine tNotV_i ?_
  | with_reducible refine tNotT_i ?_
  | with_reducible refine tUn_i ?_
  | with_reducible refine tCB_i ?_
  | with_reducible refine tCall_i ?_
  | with_reducible refine tTup_i ?_
  | with_reducible refine tLst_i ?_
  | with_reducible refine tPar_i ?_
  | with_reducible refine tPar3_i ?_
  | with_reducible refine tSl_i ?_
  | with_reducible refine bl_i ?_
  | with_reducible refine tFor_i ?_
  | with_reducible refine tLc_i ?_
  | with_reducible refine iEnum_i ?_
  | with_reducible refine iList_i ?_
  | with_reducible refine iTup_i ?_
  | with_reducible refine iRng1_i ?_
  | ((with_reducible apply enum_i); walk_at "sq")
  | ((with_reducible apply list_i); walk_at "sq")
  | ((with_reducible apply tup_i); walk_at "sq")
  | ((with_reducible refine rng1_i ?_ ?_); walk_at "c")
  | with_reducible refine par2_i ?_
  | with_reducible refine par3_i ?_
  | with_reducible refine gName_i ?_
  | with_reducible refine gc_i ?_
  | with_reducible refine gNil_i ?_
  | with_reducible refine rI0_i ?_
  | with_reducible refine rU_i ?_
  | with_reducible refine max2_i ?_
  | with_reducible refine tM1_i ?_
  | with_reducible refine tM0_i ?_
  | with_reducible refine str_i ?_
  | with_reducible refine tBM_iL ?_
  | with_reducible refine tBM0_iL ?_
  | ((with_reducible refine rEq_i ?_ ?_); exact rfl)
  | ((with_reducible refine rNe_i ?_ ?_); exact rfl)
  | ((with_reducible refine rI_i ?_ ?_); walk_at "c")
  | ((with_reducible apply ty_i); walk_at "sq")
  | ((with_reducible apply gTup_i); walk_at "sq"; exact rfl)
  | ((with_reducible apply rIxL_i); walk_at "sq"; first | exact rfl | assumption)
  | ((with_reducible apply rIxT_i); walk_at "sq"; first | exact rfl | assumption)
  | ((with_reducible apply rInT_i); walk_at "sq"; exact rfl; exact rfl)
  | ((with_reducible apply rInL_i); walk_at "sq"; exact rfl; exact rfl)
  | with_reducible refine gSub_i ?_
  | with_reducible refine tJs1_i ?_
  | with_reducible refine tJs0_i ?_
  | with_reducible refine tFmt_i ?_
  | ((with_reducible refine fmtS_i ?_ ?_); walk_at "len")
  | ((with_reducible refine js_i ?_ ?_); walk_at "len")
  | ((with_reducible apply rCat_i); walk_at "look"; walk_at "look"; walk_at "c")
  | ((with_reducible apply rIsi_i); walk_at "ty"; walk_at "kit")
  | ((with_reducible apply rNe_nil); walk_at "sq"; walk_at "fl"; walk_at "sq")
  | ((with_reducible apply rEq_nil); walk_at "sq"; walk_at "fl"; walk_at "sq")
  | with_reducible refine tDisp_i ?_
  | with_reducible refine tPairs0_i ?_
  | with_reducible refine tPairs1_i ?_
  | ((with_reducible apply disp1_i); walk_at "look")
  | ((with_reducible apply disp2_i); walk_at "look")
  | with_reducible refine tFld_i ?_
  | with_reducible refine sFld_i ?_
  | ((with_reducible apply fld_i); walk_at "look"; assumption; assumption; first | exact rfl | assumption)
  | ((with_reducible apply sfld_i); walk_at "look"; assumption; assumption; walk_at "c")
  | with_reducible refine tRevL_i ?_
  | ((with_reducible apply rev_i); walk_at "sq")
  | ((with_reducible apply rSetL_i); walk_at "look"; first | exact rfl | assumption)
  | ((with_reducible apply rIxK_i); assumption; assumption)
  | ((with_reducible apply rInK_i); assumption)
  | ((with_reducible apply rAppend_i); walk_at "look"; walk_at "c")
  | ((with_reducible apply rPop_i); walk_at "look"; first | exact rfl | assumption)
  | ((with_reducible apply len_i); walk_at "sq")
  | ((with_reducible apply lenT_i); walk_at "sq")
  | ((with_reducible apply rSlL_i); walk_at "sq")
  | with_reducible refine iteT ?_
  | with_reducible refine iteF ?_
  | ((with_reducible refine iteTk ?_ ?_); assumption)
  | ((with_reducible refine iteFk ?_ ?_); assumption)
  | ((with_reducible refine iteTk ?_ ?_); decide +kernel)
  | ((with_reducible refine iteFk ?_ ?_); decide +kernel)
  | ((with_reducible refine iteTk ?_ ?_); exact rfl)
  | ((with_reducible refine iteFk ?_ ?_); exact rfl)
  | with_reducible refine fun (p : Addr) (n : _ = none) => ?_
  | with_reducible refine Or.inl ⟨_, rfl, ?_⟩
  | with_reducible refine ⟨_, rfl, ?_⟩
  | with_reducible refine ⟨_, _, rfl, rfl, ?_⟩
  | ((with_reducible refine ⟨_, _, _, _, _, rfl, ClsV.ty _, ?_, ?_, ?_⟩); walk_at "ty"; walk_at "kit")
  | ((with_reducible refine And.intro ?_ ?_); walk_at "c")))
local macro_rules | `(tactic| walk_at "w") => `(tactic| repeat (walk_at "w1"))
local macro_rules | `(tactic| walk_at "but") => `(tactic| first
  | assumption
  | exact But.refl _ _
  | (refine But.upd ?_; walk_at "but")
  | (refine But.new ?_ (by assumption); walk_at "but"))
local macro_rules | `(tactic| walk_at "same") => `(tactic| first
  | assumption
  | exact Same.refl _
  | (refine Same.new ?_ (by assumption); walk_at "same")
  | (refine Same.trans (by assumption) ?_; walk_at "same"))
local macro_rules | `(tactic| walk_at "x") => `(tactic| (dsimp only [Cx.nox, Cx.wish, cxOf, L2H.cxH]))
theorem tMeth_i {C : Addr} {m : Str} {sp : Sp} {dvs : List V} {E : XK} {ta : TE} {t : TA} {σ : L2.St} {H : Hp} {Q : VK} (k : ta σ H fun x H1 => ∃ a dx fs, x = .ref a ∧ H1 a = some (.ins C dx fs) ∧ fs.lookup m = none ∧ t σ H1 fun vs H2 => sp (x :: (vs ++ dvs)) H2 Q E) : tMeth C m sp dvs E ta t σ H Q := k
/-- a look of the tree t stands at a -/
abbrev At (K : PySem.W.Frag) (H : Hp) (a : Addr) (t : LT) : Prop := Told K H a t.txt t.dep
theorem mirr_i {K : PySem.W.Frag} {H : Hp} {a : Addr} {t : LT} {Q : VK} {E : XK} (hS : Small t) (h : At K H a t) (k : ∀ b H', Same H H' → At K H' b (t.ex mirr) → Q (.ref b) H') :
    ∃ a' dx fs, V.ref a = .ref a' ∧ H a' = some (.ins (He.ga K "Look") dx fs) ∧ fs.lookup ("mirrored" : Str) = none ∧ tNil ([] : L2.St) H fun vs H2 => spMove K mirr (V.ref a :: (vs ++ [])) H2 Q E := by
  obtain ⟨dx, fs, ha, h1, h2, h3, h4, h5⟩ := id h
  refine ⟨a, dx, fs, rfl, ha, h4, a, t.txt, _, t.dep, (t.ex mirr).dep, rfl, h, ?_, ?_, ?_, fun b H' s _ hb => ?_⟩
  · have := hS.len; omega
  · rw [exch_txt tab_mirr hS.ok]; have := (hS.ex tab_mirr).len; omega
  · rw [exch_txt tab_mirr hS.ok]; exact (hS.ex tab_mirr).good
  · rw [exch_txt tab_mirr hS.ok] at hb
    exact k b H' s hb
theorem turn_i {K : PySem.W.Frag} {H : Hp} {a : Addr} {t : LT} {Q : VK} {E : XK} (hS : Small t) (h : At K H a t) (k : ∀ b H', Same H H' → At K H' b (t.ex turn) → Q (.ref b) H') :
    ∃ a' dx fs, V.ref a = .ref a' ∧ H a' = some (.ins (He.ga K "Look") dx fs) ∧ fs.lookup ("turned_about" : Str) = none ∧ tNil ([] : L2.St) H fun vs H2 => spMove K turn (V.ref a :: (vs ++ [])) H2 Q E := by
  obtain ⟨dx, fs, ha, h1, h2, h3, h4, h5⟩ := id h
  refine ⟨a, dx, fs, rfl, ha, h5, a, t.txt, _, t.dep, (t.ex turn).dep, rfl, h, ?_, ?_, ?_, fun b H' s _ hb => ?_⟩
  · have := hS.len; omega
  · rw [exch_txt tab_turn hS.ok]; have := (hS.ex tab_turn).len; omega
  · rw [exch_txt tab_turn hS.ok]; exact (hS.ex tab_turn).good
  · rw [exch_txt tab_turn hS.ok] at hb
    exact k b H' s hb
theorem block2 {P : Program} {w : World} {K : PySem.W.Frag} {mg : Str → Option Value} {base : Heap} {A : Around} {outer : List Env} {s : Shared} {H0 : Hp} {E : XK} {Pt : Addr} {fI fE fB fj fd' ft fy fe fx fr fl fp fR fm fu : Addr} {fdI fdE fdB fdj fdd fdt fdy fde fdx fdr fdl fdp fdR fdm fdu : FuncData} {ds m1 m2 : List Value}
    (Z : Free mg) (LK : Lk K mg) (LM : LkM P w K mg base fI fdI ds m1 m2) (EQ : EqM P w K mg base fE fdE) (RF : RefF P w K mg base fR fdR) (TB : LamX.TabB base mg (He.codeOf K lawP) Pt) (MM : LMeth P w K mg base "mirrored" (spMove K mirr) fm fdm) (MT : LMeth P w K mg base "turned_about" (spMove K turn) fu fdu)
    (Cj : Cal P w K mg base CX0 1 "_law_jar" ["script"] (spJar K) fj fdj) (Cd : Cal P w K mg base CX0 1 "_law_draw" ["jar", "many"] spDraw fd' fdd) (Ct : Cal P w K mg base CX0 3 "_law_tree" ["jar", "leaves", "most"] spTree ft fdt) (Cy : Cal P w K mg base CX0 1 "_law_say" ["tree"] spSay fy fdy)
    (Ce : Cal P w K mg base CX0 1 "_law_deep" ["tree"] spDeep fe fde) (Cx : Cal P w K mg base CX0 1 "_law_exchanged" ["tree", "words"] spExl fx fdx) (Cr : Cal P w K mg base CX0 1 "_law_look_read" ["v"] spRead fr fdr) (Cl : Cal P w K mg base CX0 5 "_law_told" ["told", "body", "many_of", "deepest"] (spTold K) fl fdl)
    (Cb : Cal P w K mg base CX0 3 "_law_bent_look" ["jar", "body"] spBent fB fdB) (Cp : Cal P w K mg base CX0 2 "_law_pick" ["jar", "menu"] (spPick K) fp fdp)
    (hr : Room 8 (A.deeper (envOfC "law" (defScope s_law) s.heap.objs.size (He.fAd K lawP) (.ref (He.codeOf K lawP))))) {rest : List Stmt} {u : TS} (hrest : PSs (lawX P w K mg base A outer s H0 E) rest u) : PSs (lawX P w K mg base A outer s H0 E) (List.take 3 (List.drop 8 lawK) ++ rest)
    (fun D σ H => ∃ (t : LT) (a : Addr) (v0 v1 v2 v3 v4 v8 v9 v10 v14 v15 v16 v17 v18 v19 v20 v21 v22 : Option V), σ = [v0, v1, v2, v3, v4, some (.str t.txt), some (.int t.dep), some (.int (Txt.split t.txt " ").length), v8, v9, v10, some (.ref a), some (.str (t.ex mirr).txt), some (.str (t.ex turn).txt), v14, v15, v16, v17, v18, v19, v20, v21, v22] ∧
      Small t ∧ At K H a t ∧ ∀ v14' v15' H', Same H H' → u D [v0, v1, v2, v3, v4, some (.str t.txt), some (.int t.dep), some (.int (Txt.split t.txt " ").length), v8, v9, v10, some (.ref a), some (.str (t.ex mirr).txt), some (.str (t.ex turn).txt), v14', v15', v16, v17, v18, v19, v20, v21, v22] H') := by
  have hu := hu_of hr
  refine pss_mono ((pss_cons (ps_for PassesOwn.never rfl (pi_tup (pe_tup (pa_cons (pe_tup (pa_cons (pv 11) (pa_cons (pv 5) pa_nil))) (pa_cons (pe_tup (pa_cons (pe_meth0 (pv 11) LK.cls MM.me MM.ok (hr.mono (by omega)) MM.b .nil pass0) (pa_cons (pv 12) pa_nil))) (pa_cons (pe_tup (pa_cons (pe_meth0 (pv 11) LK.cls MT.me MT.ok (hr.mono (by omega)) MT.b .nil pass0) (pa_cons (pv 13) pa_nil))) (pa_cons (pe_tup (pa_cons (pv 11) (pa_cons (pv 5) pa_nil))) pa_nil)))))) (pg_tup rfl (pgs_cons (pg_name (i := 14) scLaw.nd rfl (Or.inl rfl)) (pgs_cons (pg_name (i := 15) scLaw.nd rfl (Or.inl rfl)) pgs_nil))) 
        (pss_one (ps_if (pt_not (pt_val (pe_call Cl.ok (hr.mono (by omega)) rfl Cl.mg Cl.kp Cl.b .nil pass0 (pa_cons (pv 14) (pa_cons (pv 15) (pa_cons (pv 7) (pa_cons (pv 6) pa_nil))))))) 
          (pss_one (ps_ret pe_bl)) pss_nil)))
      (pss_cons (ps_if (pt_not (PW.pt (pw_and (pt_cmpR (op_own EQ.ok (hr.mono (by omega)) EQ.s EQ.fn EQ.b pass0) (pe_meth0 (pe_meth0 (pv 11) LK.cls MM.me MM.ok (hr.mono (by omega)) MM.b .nil pass0) LK.cls MM.me MM.ok (hr.mono (by omega)) MM.b .nil pass0) (pv 11) (nomark _)) (pw_and1 (pt_cmpR (op_own EQ.ok (hr.mono (by omega)) EQ.s EQ.fn EQ.b pass0) (pe_meth0 (pe_meth0 (pv 11) LK.cls MT.me MT.ok (hr.mono (by omega)) MT.b .nil pass0) LK.cls MT.me MT.ok (hr.mono (by omega)) MT.b .nil pass0) (pv 11) (nomark _)))))) 
        (pss_one (ps_ret pe_bl)) pss_nil)
      (pss_cons (ps_if (PW.pt (pw_or (pt_not (pt_cmpR (op_own EQ.ok (hr.mono (by omega)) EQ.s EQ.fn EQ.b pass0) (pe_meth0 (pe_meth0 (pv 11) LK.cls MM.me MM.ok (hr.mono (by omega)) MM.b .nil pass0) LK.cls MT.me MT.ok (hr.mono (by omega)) MT.b .nil pass0) (pe_meth0 (pe_meth0 (pv 11) LK.cls MT.me MT.ok (hr.mono (by omega)) MT.b .nil pass0) LK.cls MM.me MM.ok (hr.mono (by omega)) MM.b .nil pass0) (nomark _))) (pw_or1 (pt_cmpR op_ne (pe_cmpR (op_own EQ.ok (hr.mono (by omega)) EQ.s EQ.fn EQ.b pass0) (pv 11) (pe_meth0 (pv 11) LK.cls MM.me MM.ok (hr.mono (by omega)) MM.b .nil pass0) (nomark _)) (pe_cmpR op_eq (pv 5) (pv 12) (nomark _)) (nomark _))))) 
        (pss_one (ps_ret pe_bl)) pss_nil)
      hrest)))) ?_
  rintro D σ H ⟨t, a, v0, v1, v2, v3, v4, v8, v9, v10, v14, v15, v16, v17, v18, v19, v20, v21, v22, rfl, hS, ha, k⟩
  have hM := hS.ex tab_mirr
  have hT := hS.ex tab_turn
  walk_at "w"
  rename_i T1 n1
  refine tMeth_i ?_
  have s1 := Same.new (o := .tup [.ref a, .str t.txt]) (Same.refl H) n1
  have e1 := upd_same (H := H) (a := T1) (o := .tup [.ref a, .str t.txt])
  walk_at "w"
  refine mirr_i hS (IsLook.same ha s1) fun b H2 s2 hb => ?_
  replace s1 := s1.trans s2
  replace e1 := s2 _ _ e1
  clear s2
  walk_at "w"
  rename_i T2 n2
  refine tMeth_i ?_
  have s2 := Same.new (o := .tup [.ref b, .str (t.ex mirr).txt]) (Same.refl H2) n2
  have e2 := upd_same (H := H2) (a := T2) (o := .tup [.ref b, .str (t.ex mirr).txt])
  replace e1 := s2 _ _ e1
  replace hb := IsLook.same hb s2
  replace s1 := s1.trans s2
  walk_at "w"
  refine turn_i hS (IsLook.same ha s1) fun b2 H3 s3 hb2 => ?_
  replace e1 := s3 _ _ e1
  replace e2 := s3 _ _ e2
  replace hb := IsLook.same hb s3
  replace s1 := s1.trans s3
  clear s2 s3
  walk_at "w"
  rename_i T3 n3 T4 n4 TT nT
  have s2 := Same.new (o := .tup [.ref b2, .str (t.ex turn).txt]) (Same.refl H3) n3
  have e3 := upd_same (H := H3) (a := T3) (o := .tup [.ref b2, .str (t.ex turn).txt])
  have s3 := Same.new (o := .tup [.ref a, .str t.txt]) (Same.refl _) n4
  have e4 := upd_same (H := upd H3 T3 (.tup [.ref b2, .str (t.ex turn).txt])) (a := T4) (o := .tup [.ref a, .str t.txt])
  have s4 := Same.new (o := .tup [.ref T1, .ref T2, .ref T3, .ref T4]) (Same.refl _) nT
  have eT := upd_same (H := upd (upd H3 T3 (.tup [.ref b2, .str (t.ex turn).txt])) T4 (.tup [.ref a, .str t.txt])) (a := TT) (o := .tup [.ref T1, .ref T2, .ref T3, .ref T4])
  replace s1 := ((s1.trans s2).trans s3).trans s4
  replace e1 := ((s2.trans s3).trans s4) _ _ e1
  replace e2 := ((s2.trans s3).trans s4) _ _ e2
  replace hb := IsLook.same hb ((s2.trans s3).trans s4)
  replace hb2 := IsLook.same hb2 ((s2.trans s3).trans s4)
  replace e3 := (s3.trans s4) _ _ e3
  replace e4 := s4 _ _ e4
  clear s2 s3 s4
  generalize upd (upd (upd H3 T3 _) T4 _) TT _ = H4 at s1 e1 e2 hb hb2 e3 e4 eT ⊢
  replace ha := IsLook.same ha s1
  have row : ∀ x ∈ ([.ref T1, .ref T2, .ref T3, .ref T4] : List V), ∃ (T b : Addr) (u : LT), x = .ref T ∧ H4 T = some (.tup [.ref b, .str u.txt]) ∧ At K H4 b u ∧ Small u ∧ (Txt.split u.txt " ").length = (Txt.split t.txt " ").length ∧ u.dep = t.dep := fun x hx => by
    have w1 : (Txt.split (t.ex mirr).txt " ").length = (Txt.split t.txt " ").length := by rw [hM.split, hS.split, ex_ws tab_mirr t, List.length_map]
    have w2 : (Txt.split (t.ex turn).txt " ").length = (Txt.split t.txt " ").length := by rw [hT.split, hS.split, ex_ws tab_turn t, List.length_map]
    simp only [List.mem_cons, List.not_mem_nil, or_false] at hx
    rcases hx with rfl | rfl | rfl | rfl
    · exact ⟨_, _, t, rfl, e1, ha, hS, rfl, rfl⟩
    · exact ⟨_, _, _, rfl, e2, hb, hM, w1, ex_dep t⟩
    · exact ⟨_, _, _, rfl, e3, hb2, hT, w2, ex_dep t⟩
    · exact ⟨_, _, t, rfl, e4, ha, hS, rfl, rfl⟩
  clear e1 e2 e3 e4 hb hb2
  refine for_tup (xs := [.ref T1, .ref T2, .ref T3, .ref T4]) (fun i σ' H' => ∃ x14 x15 : Option V, σ' = [v0, v1, v2, v3, v4, some (.str t.txt), some (.int t.dep), some (.int (Txt.split t.txt " ").length), v8, v9, v10, some (.ref a), some (.str (t.ex mirr).txt), some (.str (t.ex turn).txt), x14, x15, v16, v17, v18, v19, v20, v21, v22] ∧ Same H4 H') ⟨_, _, rfl, Same.refl _⟩ (fun i σ' H' hi h => ?_) (fun i x σ' H5 hi h => ?_) (fun σ' H5 h => ?_)
  · obtain ⟨x14, x15, rfl, s5⟩ := h
    exact SqT.of (s5 _ _ eT)
  · obtain ⟨x14, x15, rfl, s5⟩ := h
    obtain ⟨T, b, u', rfl, hTr, hb, hSu, hw, hd⟩ := row x (List.mem_of_getElem? hi)
    refine gTup_i (SqT.of (s5 _ _ hTr)) rfl (gc_i (gName_i (gc_i (gName_i (gNil_i ?_)))))
    refine abs_ends rfl rfl fun D' hnx hrt => ?_
    walk_at "w"
    refine ⟨b, u'.txt, u'.dep, by rw [hw, hd]; rfl, IsLook.same hb s5, hSu.good, by have := hSu.len; omega, by rw [hSu.split]; have := hSu.ws; omega, by have := hSu.dep; omega, fun H6 s6 => ?_⟩
    walk_at "w"
    exact hnx _ _ ⟨_, _, rfl, s5.trans s6⟩
  · obtain ⟨x14, x15, rfl, s5⟩ := h
    replace ha := IsLook.same ha s5
    replace s1 := s1.trans s5
    walk_at "w"
    refine tMeth_i (tMeth_i ?_)
    walk_at "w"
    refine mirr_i hS ha fun b1 H6 s6 hb1 => ?_
    refine mirr_i hM hb1 fun b2 H7 s7 hb2 => ?_
    rw [mirr_mirr hS.ok] at hb2
    replace ha := IsLook.same (IsLook.same ha s6) s7
    walk_at "w"
    refine own_i LK hb2 ha ?_
    rw [decide_eq_true rfl]
    walk_at "w"
    refine tMeth_i (tMeth_i ?_)
    walk_at "w"
    refine turn_i hS ha fun b3 H8 s8 hb3 => ?_
    refine turn_i hT hb3 fun b4 H9 s9 hb4 => ?_
    rw [turn_turn hS.ok] at hb4
    replace ha := IsLook.same (IsLook.same ha s8) s9
    walk_at "w"
    refine own_i LK hb4 ha ?_
    rw [decide_eq_true rfl]
    walk_at "w"
    refine tMeth_i (tMeth_i ?_)
    walk_at "w"
    refine mirr_i hS ha fun b5 H10 s10 hb5 => ?_
    refine turn_i hM hb5 fun b6 H11 s11 hb6 => ?_
    replace ha := IsLook.same (IsLook.same ha s10) s11
    refine tMeth_i (tMeth_i ?_)
    walk_at "w"
    refine turn_i hS ha fun b7 H12 s12 hb7 => ?_
    refine mirr_i hT hb7 fun b8 H13 s13 hb8 => ?_
    replace hb6 := IsLook.same (IsLook.same hb6 s12) s13
    replace ha := IsLook.same (IsLook.same ha s12) s13
    rw [mirr_turn hS.ok] at hb6
    refine own_i LK hb6 hb8 ?_
    rw [decide_eq_true rfl]
    walk_at "w"
    refine tMeth_i ?_
    walk_at "w"
    refine mirr_i hS ha fun b9 H14 s14 hb9 => ?_
    replace ha := IsLook.same ha s14
    refine own_i LK ha hb9 ?_
    walk_at "w"
    refine iteFk (by rw [decS]; simp) ?_
    walk_at "w"
    exact k _ _ _ ((((((((((s1.trans s6).trans s7).trans s8).trans s9).trans s10).trans s11).trans s12).trans s13).trans s14))
end K9
set_option Elab.async false
set_option linter.all false
set_option maxRecDepth 100000
set_option maxHeartbeats 4000000
namespace K9
open PySem PySem.Spec PyProof.Rows L2
/-! ### steps through a reading -/
/-- H a = some o, where H is told by its stores -/
local macro_rules | `(tactic| walk_at "look") => `(tactic| first
  | assumption
  | exact upd_same
  | (refine Eq.trans (upd_ne ?_) ?_ <;> first
      | assumption
      | exact Ne.symm (by assumption)
      | exact ne_nw (by assumption) (by walk_at "look")
      | exact Ne.symm (ne_nw (by assumption) (by walk_at "look"))
      | walk_at "look"))
local macro_rules | `(tactic| walk_at "sq") => `(tactic| first
  | assumption
  | exact SqL.of (by walk_at "look")
  | exact SqT.of (by walk_at "look"))
local macro_rules | `(tactic| walk_at "c") => `(tactic| first
  | decide
  | omega
  | assumption
  | exact Or.inr ⟨by decide, by decide⟩
  | exact ⟨by decide, by decide⟩
  | exact Nat.le_of_ble_eq_true rfl
  | exact line1000 (by assumption)
  | (intro z; omega)
  | (dsimp only; first | assumption | omega)
  | (constructor <;> first | decide | omega))
local macro_rules | `(tactic| walk_at "fl") => `(tactic| first
  | assumption
  | rfl
  | exact flat_ints _
  | decide +kernel
  | (simp only [List.all_map, List.all_cons, List.all_nil]; rfl))
local macro_rules | `(tactic| walk_at "ty") => `(tactic| first
  | exact TyX.base (TyOf.str _)
  | exact TyX.base (TyOf.int _)
  | exact TyX.base (TyOf.bl _)
  | exact TyX.base TyOf.non
  | exact TyX.base (TyOf.tup (by walk_at "look"))
  | exact TyX.base (TyOf.lst (by walk_at "look"))
  | exact TyX.base (TyOf.dK (by walk_at "look")))
local macro_rules | `(tactic| walk_at "kit") => `(tactic| first
  | assumption
  | exact kit_str_bool
  | exact kit_str_int
  | exact kit_str_str
  | exact kit_str_dict
  | exact kit_str_list
  | exact kit_str_tuple
  | exact kit_int_bool
  | exact kit_int_int
  | exact kit_int_str
  | exact kit_int_dict
  | exact kit_int_list
  | exact kit_int_tuple
  | exact kit_bool_bool
  | exact kit_bool_int
  | exact kit_bool_str
  | exact kit_bool_dict
  | exact kit_bool_list
  | exact kit_bool_tuple
  | exact kit_list_bool
  | exact kit_list_int
  | exact kit_list_str
  | exact kit_list_dict
  | exact kit_list_list
  | exact kit_list_tuple
  | exact kit_tuple_bool
  | exact kit_tuple_int
  | exact kit_tuple_str
  | exact kit_tuple_dict
  | exact kit_tuple_list
  | exact kit_tuple_tuple
  | exact kit_dict_bool
  | exact kit_dict_int
  | exact kit_dict_str
  | exact kit_dict_dict
  | exact kit_dict_list
  | exact kit_dict_tuple
  | exact kit_NoneType_bool
  | exact kit_NoneType_int
  | exact kit_NoneType_str
  | exact kit_NoneType_dict
  | exact kit_NoneType_list
  | exact kit_NoneType_tuple)
local macro_rules | `(tactic| walk_at "len") => `(tactic| (refine sline ?_; (try simp only [slen, show ("( " : Str).length = 2 from rfl, show (" " : Str).length = 1 from rfl, show (" )" : Str).length = 2 from rfl, show Str.empty.length = 0 from rfl]); omega))
local macro_rules | `(tactic| walk_at "w1") => `(tactic| (first
  | ((with_reducible apply tVar_i); exact rfl)
  | with_reducible refine tC_i ?_
  | with_reducible refine tCons_i ?_
  | with_reducible refine tNil_i ?_
  | with_reducible refine tOp_i ?_
  | with_reducible refine tSeq_i ?_
  | with_reducible refine tAsg_i ?_
  | with_reducible refine tDrop_i ?_
  | with_reducible refine tRet_i ?_
  | with_reducible refine tNext_i ?_
  | with_reducible refine tIfS_i ?_
  | with_reducible refine tIf_i ?_
  | with_reducible refine tTest_i ?_
  | with_reducible refine tB_i ?_
  | with_reducible refine tNot_i ?_
  | with_reducible refine tAnd_i ?_
  | with_reducible refine tOr_i ?_
  | with_reducible refine tAndV_i ?_
  | with_reducible refine tOrV_i ?_
  | with_reducible refine tNotV_i ?_
  | with_reducible refine tNotT_i ?_
  | with_reducible refine tUn_i ?_
  | with_reducible refine tCB_i ?_
  | with_reducible refine tCall_i ?_
  | with_reducible refine tTup_i ?_
  | with_reducible refine tLst_i ?_
  | with_reducible refine tPar_i ?_
  | with_reducible refine tPar3_i ?_
  | with_reducible refine tSl_i ?_
  | with_reducible refine bl_i ?_
  | with_reducible refine tFor_i ?_
  | with_reducible refine tLc_i ?_
  | with_reducible refine iEnum_i ?_
  | with_reducible refine iList_i ?_
  | with_reducible refine iTup_i ?_
  | with_reducible refine iRng1_i ?_
  | ((with_reducible apply enum_i); walk_at "sq")
  | ((with_reducible apply list_i); walk_at "sq")
  | ((with_reducible apply tup_i); walk_at "sq")
  | ((with_reducible refine rng1_i ?_ ?_); walk_at "c")
  | with_reducible refine par2_i ?_
  | with_reducible refine par3_i ?_
  | with_reducible refine gName_i ?_
  | with_reducible refine gc_i ?_
  | with_reducible refine gNil_i ?_
  | with_reducible refine rI0_i ?_
  | with_reducible refine rU_i ?_
  | with_reducible refine max2_i ?_
  | with_reducible refine tM1_i ?_
  | with_reducible refine tM0_i ?_
  | with_reducible refine str_i ?_
  | with_reducible refine tBM_iL ?_
  | with_reducible refine tBM0_iL ?_
  | ((with_reducible refine rEq_i ?_ ?_); exact rfl)
  | ((with_reducible refine rNe_i ?_ ?_); exact rfl)
  | ((with_reducible refine rI_i ?_ ?_); walk_at "c")
  | ((with_reducible apply ty_i); walk_at "sq")
  | ((with_reducible apply gTup_i); walk_at "sq"; exact rfl)
  | ((with_reducible apply rIxL_i); walk_at "sq"; first | exact rfl | assumption)
  | ((with_reducible apply rIxT_i); walk_at "sq"; first | exact rfl | assumption)
  | ((with_reducible apply rInT_i); walk_at "sq"; exact rfl; exact rfl)
  | ((with_reducible apply rInL_i); walk_at "sq"; exact rfl; exact rfl)
  | with_reducible refine gSub_i ?_
  | with_reducible refine tJs1_i ?_
  | with_reducible refine tJs0_i ?_
  | with_reducible refine tFmt_i ?_
  | ((with_reducible refine fmtS_i ?_ ?_); walk_at "len")
  | ((with_reducible refine js_i ?_ ?_); walk_at "len")
  | ((with_reducible apply rCat_i); walk_at "look"; walk_at "look"; walk_at "c")
  | ((with_reducible apply rIsi_i); walk_at "ty"; walk_at "kit")
  | ((with_reducible apply rNe_nil); walk_at "sq"; walk_at "fl"; walk_at "sq")
  | ((with_reducible apply rEq_nil); walk_at "sq"; walk_at "fl"; walk_at "sq")
  | with_reducible refine tDisp_i ?_
  | with_reducible refine tPairs0_i ?_
  | with_reducible refine tPairs1_i ?_
  | ((with_reducible apply disp1_i); walk_at "look")
  | ((with_reducible apply disp2_i); walk_at "look")
  | with_reducible refine tFld_i ?_
  | with_reducible refine sFld_i ?_
  | ((with_reducible apply fld_i); walk_at "look"; assumption; assumption; first | exact rfl | assumption)
  | ((with_reducible apply sfld_i); walk_at "look"; assumption; assumption; walk_at "c")
  | with_reducible refine tRevL_i ?_
  | ((with_reducible apply rev_i); walk_at "sq")
  | ((with_reducible apply rSetL_i); walk_at "look"; first | exact rfl | assumption)
  | ((with_reducible apply rIxK_i); assumption; assumption)
  | ((with_reducible apply rInK_i); assumption)
  | ((with_reducible apply rAppend_i); walk_at "look"; walk_at "c")
  | ((with_reducible apply rPop_i); walk_at "look"; first | exact rfl | assumption)
  | ((with_reducible apply len_i); walk_at "sq")
  | ((with_reducible apply lenT_i); walk_at "sq")
  | ((with_reducible apply rSlL_i); walk_at "sq")
  | with_reducible refine iteT ?_
  | with_reducible refine iteF ?_
  | ((with_reducible refine iteTk ?_ ?_); assumption)
  | ((with_reducible refine iteFk ?_ ?_); assumption)
  | ((with_reducible refine iteTk ?_ ?_); decide +kernel)
  | ((with_reducible refine iteFk ?_ ?_); decide +kernel)
  | ((with_reducible refine iteTk ?_ ?_); exact rfl)
  | ((with_reducible refine iteFk ?_ ?_); exact rfl)
  | with_reducible refine fun (p : Addr) (n : _ = none) => ?_
  | with_reducible refine Or.inl ⟨_, rfl, ?_⟩
  | with_reducible refine ⟨_, rfl, ?_⟩
  | with_reducible refine ⟨_, _, rfl, rfl, ?_⟩
  | ((with_reducible refine ⟨_, _, _, _, _, rfl, ClsV.ty _, ?_, ?_, ?_⟩); walk_at "ty"; walk_at "kit")
  | ((with_reducible refine And.intro ?_ ?_); walk_at "c")))
local macro_rules | `(tactic| walk_at "w") => `(tactic| repeat (walk_at "w1"))
local macro_rules | `(tactic| walk_at "but") => `(tactic| first
  | assumption
  | exact But.refl _ _
  | (refine But.upd ?_; walk_at "but")
  | (refine But.new ?_ (by assumption); walk_at "but"))
local macro_rules | `(tactic| walk_at "same") => `(tactic| first
  | assumption
  | exact Same.refl _
  | (refine Same.new ?_ (by assumption); walk_at "same")
  | (refine Same.trans (by assumption) ?_; walk_at "same"))
local macro_rules | `(tactic| walk_at "x") => `(tactic| (dsimp only [Cx.nox, Cx.wish, cxOf, L2H.cxH]))
/-- the looks made so far, in the list at mm -/
structure LS (K : PySem.W.Frag) (H : Hp) (j c mm : Addr) (L : List (Str × Addr)) : Prop where
  m : ∃ as, LRa H mm as (L.map fun p => [.str p.1, .ref p.2])
  looks : ∀ p ∈ L, ∃ n d, IsLook K H p.2 p.1 n d
  mj : mm ≠ j
  mc : mm ≠ c
theorem JarC.isl {H : Hp} {j c : Addr} (h : JarC H j c) : ∃ xs, H j = some (.lst xs) := by
  obtain ⟨ns, i, r, n, m, h1, _⟩ := h.ex
  exact ⟨_, h1⟩
theorem IsLook.keep {K : PySem.W.Frag} {H H' : Hp} {j c a : Addr} {x : Str} {n d : Int} (h : IsLook K H a x n d) (J : JarC H j c) (k : KeepT j H H') : IsLook K H' a x n d := by
  obtain ⟨dx, fs, e, r⟩ := h
  obtain ⟨xs, hx⟩ := J.isl
  exact ⟨dx, fs, k _ _ e (fun z => by rw [z, hx] at e; cases e) (fun ps z => by cases z), r⟩
theorem LS.keep {K : PySem.W.Frag} {H H' : Hp} {j c mm : Addr} {L : List (Str × Addr)} (h : LS K H j c mm L) (J : JarC H j c) (k : KeepT j H H') : LS K H' j c mm L := by
  obtain ⟨as, ha⟩ := h.m
  obtain ⟨xs, hx⟩ := J.isl
  refine ⟨⟨as, k _ _ ha.l h.mj (fun ps z => by cases z), paired_mono (fun a r e => k _ _ e (fun z => by rw [z, hx] at e; cases e) (fun ps z => by cases z)) ha.r⟩, fun p hp => ?_, h.mj, h.mc⟩
  obtain ⟨n, d, hl⟩ := h.looks p hp
  exact ⟨n, d, hl.keep J k⟩
theorem lawK_split : List.take 8 lawK ++ (List.take 3 (List.drop 8 lawK) ++ List.drop 11 lawK) = lawK := by
  rw [show List.drop 11 lawK = List.drop 3 (List.drop 8 lawK) from (List.drop_drop (i := 3) (j := 8)).symm, List.take_append_drop, List.take_append_drop]
def preBig (K : PySem.W.Frag) (Pt : Addr) : TS := fun D σ H => ∃ (j c mm : Addr) (L : List (Str × Addr)) (v0 v3 v4 v5 v6 v7 v8 v9 v10 v11 v12 v13 v14 v15 v16 v17 v18 v19 v20 v21 v22 : Option V), σ = [v0, some (.ref j), some (.ref mm), v3, v4, v5, v6, v7, v8, v9, v10, v11, v12, v13, v14, v15, v16, v17, v18, v19, v20, v21, v22] ∧ LC [(Pt, lamQ)] H j c ∧ LS K H j c mm L ∧ L.length ≤ 6 ∧
      ∀ (x : Str) (a : Addr) v4' v5' v6' v7' v8' v9' v10' v11' v12' v13' v14' v15' v16' v17' v18' H', LC [(Pt, lamQ)] H' j c → LS K H' j c mm (L ++ [(x, a)]) → D.nx [v0, some (.ref j), some (.ref mm), v3, v4', v5', v6', v7', v8', v9', v10', v11', v12', v13', v14', v15', v16', v17', v18', v19, v20, v21, v22] H'
theorem turn_big {P : Program} {w : World} {K : PySem.W.Frag} {mg : Str → Option Value} {base : Heap} {A : Around} {outer : List Env} {s : Shared} {H0 : Hp} {E : XK} {Pt : Addr} {fI fE fB fj fd' ft fy fe fx fr fl fp fR fm fu : Addr} {fdI fdE fdB fdj fdd fdt fdy fde fdx fdr fdl fdp fdR fdm fdu : FuncData} {ds m1 m2 : List Value}
    (Z : Free mg) (LK : Lk K mg) (LM : LkM P w K mg base fI fdI ds m1 m2) (EQ : EqM P w K mg base fE fdE) (RF : RefF P w K mg base fR fdR) (TB : LamX.TabB base mg (He.codeOf K lawP) Pt) (MM : LMeth P w K mg base "mirrored" (spMove K mirr) fm fdm) (MT : LMeth P w K mg base "turned_about" (spMove K turn) fu fdu)
    (Cj : Cal P w K mg base CX0 1 "_law_jar" ["script"] (spJar K) fj fdj) (Cd : Cal P w K mg base CX0 1 "_law_draw" ["jar", "many"] spDraw fd' fdd) (Ct : Cal P w K mg base CX0 3 "_law_tree" ["jar", "leaves", "most"] spTree ft fdt) (Cy : Cal P w K mg base CX0 1 "_law_say" ["tree"] spSay fy fdy)
    (Ce : Cal P w K mg base CX0 1 "_law_deep" ["tree"] spDeep fe fde) (Cx : Cal P w K mg base CX0 1 "_law_exchanged" ["tree", "words"] spExl fx fdx) (Cr : Cal P w K mg base CX0 1 "_law_look_read" ["v"] spRead fr fdr) (Cl : Cal P w K mg base CX0 5 "_law_told" ["told", "body", "many_of", "deepest"] (spTold K) fl fdl)
    (Cb : Cal P w K mg base CX0 3 "_law_bent_look" ["jar", "body"] spBent fB fdB) (Cp : Cal P w K mg base CX0 2 "_law_pick" ["jar", "menu"] (spPick K) fp fdp)
    (hr : Room 8 (A.deeper (envOfC "law" (defScope s_law) s.heap.objs.size (He.fAd K lawP) (.ref (He.codeOf K lawP))))) : PSs (lawX P w K mg base A outer s H0 E) lawK
    (preBig K Pt) := by
  have hu := hu_of hr
  have h3 := fun (z : Unit) => block1 Z LK LM EQ RF TB MM MT Cj Cd Ct Cy Ce Cx Cr Cl Cb Cp hr (block2 Z LK LM EQ RF TB MM MT Cj Cd Ct Cy Ce Cx Cr Cl Cb Cp hr (rest := List.drop 11 lawK) (s := s) (outer := outer) (H0 := H0) (E := E) (pss_cons (ps_expr (pe_bm PySem.F.plainAttrs_list PySem.F.slot_list_append PySem.F.type_list_append mt_append (pv 2) (pa_cons (pe_tup (pa_cons (pv 5) (pa_cons (pv 11) pa_nil))) pa_nil)))
      (pss_cons (ps_for PassesOwn.never rfl (pi_range1 (by rfl) Z.range (pa_cons pe_int pa_nil)) (pg_name (i := 16) scLaw.nd rfl (Or.inl rfl)) (turn_bent Z LK LM EQ RF TB MM MT Cj Cd Ct Cy Ce Cx Cr Cl Cb Cp hr))
      pss_nil)))
  replace h3 := h3 ()
  rw [lawK_split] at h3
  refine pss_mono h3 ?_
  rintro D σ H ⟨j, c, mm, L, v0, v3, v4, v5, v6, v7, v8, v9, v10, v11, v12, v13, v14, v15, v16, v17, v18, v19, v20, v21, v22, rfl, hC, hL, hl6, k⟩
  refine ⟨j, c, _, _, _, _, _, _, _, _, _, _, _, _, _, _, _, _, _, _, _, _, _, _, rfl, hC, fun t a v4' v8' v9' v10' H1 hS hB hC1 ha => ?_⟩
  replace hL := hL.keep hC.jar (KeepT.but hB)
  refine ⟨t, a, _, _, _, _, _, _, _, _, _, _, _, _, _, _, _, _, _, rfl, hS, ha, fun v14' v15' H2 s2 => ?_⟩
  replace hL := hL.keep hC1.jar (KeepT.same s2)
  replace ha := IsLook.same ha s2
  replace hC1 := hC1.same s2
  obtain ⟨as, hm⟩ := hL.m
  have hml := hm.l
  have hlen := hm.len
  rw [List.length_map] at hlen
  have z1 : (as.map V.ref).length < sizeLine := by
    rw [List.length_map]
    exact small1000 (by omega)
  walk_at "w"
  rename_i T nT
  have s3 := Same.new (o := .tup [.str t.txt, .ref a]) (Same.refl H2) nT
  have hm3 := (hm.fresh (o := .tup [.str t.txt, .ref a]) nT).push (row := [.str t.txt, .ref a]) upd_same
  have hC3 := hC1.same s3
  have hL3 := hL.keep hC1.jar (KeepT.same s3)
  replace ha := IsLook.same ha s3
  generalize upd H2 T _ = H3 at s3 hm3 hC3 hL3 ha ⊢
  have hml3 := (hL3.m)
  have hm3o : H3 mm = some (.lst (as.map V.ref)) := s3 _ _ hm.l
  have hC4 : LC [(Pt, lamQ)] (upd H3 mm (.lst (as.map V.ref ++ [.ref T]))) j c := ⟨hC3.jar.upd hL.mj hL.mc, Tabs_keep hC3.tb fun b o h n => (upd_ne (fun z => by rw [z, hm3o] at h; exact n _ (Option.some.inj h).symm)).trans h⟩
  have lk : ∀ {b : Addr} {x : Str} {n d : Int}, IsLook K H3 b x n d → IsLook K (upd H3 mm (.lst (as.map V.ref ++ [.ref T]))) b x n d := fun ⟨dx, fs, e, r⟩ => ⟨dx, fs, (upd_ne (fun z => by rw [z, hm3o] at e; cases e)).trans e, r⟩
  have hL4 : LS K (upd H3 mm (.lst (as.map V.ref ++ [.ref T]))) j c mm (L ++ [(t.txt, a)]) := by
    refine ⟨⟨as ++ [T], by rw [List.map_append]; exact hm3⟩, fun p hp => ?_, hL.mj, hL.mc⟩
    rcases List.mem_append.mp hp with hp | hp
    · obtain ⟨n, d, h⟩ := hL3.looks p hp
      exact ⟨n, d, lk h⟩
    · rw [List.mem_singleton.mp hp]
      exact ⟨_, _, lk ha⟩
  generalize upd H3 mm _ = H4 at hC4 hL4 ⊢
  clear hm3 hC3 hL3 ha hml3 hm3o lk
  walk_at "w"
  refine for_range (fun i σ' H' => ∃ v16' v17' v18', σ' = [v0, some (.ref j), some (.ref mm), v3, v4', some (.str t.txt), some (.int t.dep), some (.int (Txt.split t.txt " ").length), v8', v9', v10', some (.ref a), some (.str (t.ex mirr).txt), some (.str (t.ex turn).txt), v14', v15', v16', v17', v18', v19, v20, v21, v22] ∧ KeepT j H4 H' ∧ LC [(Pt, lamQ)] H' j c) ⟨_, _, _, rfl, KeepT.refl _ _, hC4⟩ (fun i σ' H' hi h => ?_) (fun σ' H' h => ?_)
  · obtain ⟨v16', v17', v18', rfl, hk, hC5⟩ := h
    refine gName_i ?_
    exact ⟨j, c, t.txt, _, _, _, _, _, _, _, _, _, _, _, _, _, _, _, _, _, _, _, _, _, rfl, hC5, by have := hS.len; omega, fun a b H5 hk5 hC5 => ⟨_, _, _, rfl, hk.trans hk5, hC5⟩⟩
  · obtain ⟨v16', v17', v18', rfl, hk, hC5⟩ := h
    walk_at "w"
    exact k t.txt a _ _ _ _ _ _ _ _ _ _ _ _ _ _ _ _ hC5 (hL4.keep hC4.jar hk)
end K9
set_option Elab.async false
set_option linter.all false
set_option maxRecDepth 100000
set_option maxHeartbeats 4000000
namespace K9
open PySem PySem.Spec PyProof.Rows L2
/-! ### steps through a reading -/
/-- H a = some o, where H is told by its stores -/
local macro_rules | `(tactic| walk_at "look") => `(tactic| first
  | assumption
  | exact upd_same
  | (refine Eq.trans (upd_ne ?_) ?_ <;> first
      | assumption
      | exact Ne.symm (by assumption)
      | exact ne_nw (by assumption) (by walk_at "look")
      | exact Ne.symm (ne_nw (by assumption) (by walk_at "look"))
      | walk_at "look"))
local macro_rules | `(tactic| walk_at "sq") => `(tactic| first
  | assumption
  | exact SqL.of (by walk_at "look")
  | exact SqT.of (by walk_at "look"))
local macro_rules | `(tactic| walk_at "c") => `(tactic| first
  | decide
  | omega
  | assumption
  | exact Or.inr ⟨by decide, by decide⟩
  | exact ⟨by decide, by decide⟩
  | exact Nat.le_of_ble_eq_true rfl
  | exact line1000 (by assumption)
  | (intro z; omega)
  | (dsimp only; first | assumption | omega)
  | (constructor <;> first | decide | omega))
local macro_rules | `(tactic| walk_at "fl") => `(tactic| first
  | assumption
  | rfl
  | exact flat_ints _
  | decide +kernel
  | (simp only [List.all_map, List.all_cons, List.all_nil]; rfl))
local macro_rules | `(tactic| walk_at "ty") => `(tactic| first
  | exact TyX.base (TyOf.str _)
  | exact TyX.base (TyOf.int _)
  | exact TyX.base (TyOf.bl _)
  | exact TyX.base TyOf.non
  | exact TyX.base (TyOf.tup (by walk_at "look"))
  | exact TyX.base (TyOf.lst (by walk_at "look"))
  | exact TyX.base (TyOf.dK (by walk_at "look")))
local macro_rules | `(tactic| walk_at "kit") => `(tactic| first
  | assumption
  | exact kit_str_bool
  | exact kit_str_int
  | exact kit_str_str
  | exact kit_str_dict
  | exact kit_str_list
  | exact kit_str_tuple
  | exact kit_int_bool
  | exact kit_int_int
  | exact kit_int_str
  | exact kit_int_dict
  | exact kit_int_list
  | exact kit_int_tuple
  | exact kit_bool_bool
  | exact kit_bool_int
  | exact kit_bool_str
  | exact kit_bool_dict
  | exact kit_bool_list
  | exact kit_bool_tuple
  | exact kit_list_bool
  | exact kit_list_int
  | exact kit_list_str
  | exact kit_list_dict
  | exact kit_list_list
  | exact kit_list_tuple
  | exact kit_tuple_bool
  | exact kit_tuple_int
  | exact kit_tuple_str
  | exact kit_tuple_dict
  | exact kit_tuple_list
  | exact kit_tuple_tuple
  | exact kit_dict_bool
  | exact kit_dict_int
  | exact kit_dict_str
  | exact kit_dict_dict
  | exact kit_dict_list
  | exact kit_dict_tuple
  | exact kit_NoneType_bool
  | exact kit_NoneType_int
  | exact kit_NoneType_str
  | exact kit_NoneType_dict
  | exact kit_NoneType_list
  | exact kit_NoneType_tuple)
local macro_rules | `(tactic| walk_at "len") => `(tactic| (refine sline ?_; (try simp only [slen, show ("( " : Str).length = 2 from rfl, show (" " : Str).length = 1 from rfl, show (" )" : Str).length = 2 from rfl, show Str.empty.length = 0 from rfl]); omega))
local macro_rules | `(tactic| walk_at "w1") => `(tactic| (first
  | ((with_reducible apply tVar_i); exact rfl)
  | with_reducible refine tC_i ?_
  | with_reducible refine tCons_i ?_
  | with_reducible refine tNil_i ?_
  | with_reducible refine tOp_i ?_
  | with_reducible refine tSeq_i ?_
  | with_reducible refine tAsg_i ?_
  | with_reducible refine tDrop_i ?_
  | with_reducible refine tRet_i ?_
  | with_reducible refine tNext_i ?_
  | with_reducible refine tIfS_i ?_
  | with_reducible refine tIf_i ?_
  | with_reducible refine tTest_i ?_
  | with_reducible refine tB_i ?_
  | with_reducible refine tNot_i ?_
  | with_reducible refine tAnd_i ?_
  | with_reducible refine tOr_i ?_
  | with_reducible refine tAndV_i ?_
  | with_reducible refine tOrV_i ?_
  | with_reducible refine tNotV_i ?_
  | with_reducible refine tNotT_i ?_
  | with_reducible refine tUn_i ?_
  | with_reducible refine tCB_i ?_
  | with_reducible refine tCall_i ?_
  | with_reducible refine tTup_i ?_
  | with_reducible refine tLst_i ?_
  | with_reducible refine tPar_i ?_
  | with_reducible refine tPar3_i ?_
  | with_reducible refine tSl_i ?_
  | with_reducible refine bl_i ?_
  | with_reducible refine tFor_i ?_
  | with_reducible refine tLc_i ?_
  | with_reducible refine iEnum_i ?_
  | with_reducible refine iList_i ?_
  | with_reducible refine iTup_i ?_
  | with_reducible refine iRng1_i ?_
  | ((with_reducible apply enum_i); walk_at "sq")
  | ((with_reducible apply list_i); walk_at "sq")
  | ((with_reducible apply tup_i); walk_at "sq")
  | ((with_reducible refine rng1_i ?_ ?_); walk_at "c")
  | with_reducible refine par2_i ?_
  | with_reducible refine par3_i ?_
  | with_reducible refine gName_i ?_
  | with_reducible refine gc_i ?_
  | with_reducible refine gNil_i ?_
  | with_reducible refine rI0_i ?_
  | with_reducible refine rU_i ?_
  | with_reducible refine max2_i ?_
  | with_reducible refine tM1_i ?_
  | with_reducible refine tM0_i ?_
  | with_reducible refine str_i ?_
  | with_reducible refine tBM_iL ?_
  | with_reducible refine tBM0_iL ?_
  | ((with_reducible refine rEq_i ?_ ?_); exact rfl)
  | ((with_reducible refine rNe_i ?_ ?_); exact rfl)
  | ((with_reducible refine rI_i ?_ ?_); walk_at "c")
  | ((with_reducible apply ty_i); walk_at "sq")
  | ((with_reducible apply gTup_i); walk_at "sq"; exact rfl)
  | ((with_reducible apply rIxL_i); walk_at "sq"; first | exact rfl | assumption)
  | ((with_reducible apply rIxT_i); walk_at "sq"; first | exact rfl | assumption)
  | ((with_reducible apply rInT_i); walk_at "sq"; exact rfl; exact rfl)
  | ((with_reducible apply rInL_i); walk_at "sq"; exact rfl; exact rfl)
  | with_reducible refine gSub_i ?_
  | with_reducible refine tJs1_i ?_
  | with_reducible refine tJs0_i ?_
  | with_reducible refine tFmt_i ?_
  | ((with_reducible refine fmtS_i ?_ ?_); walk_at "len")
  | ((with_reducible refine js_i ?_ ?_); walk_at "len")
  | ((with_reducible apply rCat_i); walk_at "look"; walk_at "look"; walk_at "c")
  | ((with_reducible apply rIsi_i); walk_at "ty"; walk_at "kit")
  | ((with_reducible apply rNe_nil); walk_at "sq"; walk_at "fl"; walk_at "sq")
  | ((with_reducible apply rEq_nil); walk_at "sq"; walk_at "fl"; walk_at "sq")
  | with_reducible refine tDisp_i ?_
  | with_reducible refine tPairs0_i ?_
  | with_reducible refine tPairs1_i ?_
  | ((with_reducible apply disp1_i); walk_at "look")
  | ((with_reducible apply disp2_i); walk_at "look")
  | with_reducible refine tFld_i ?_
  | with_reducible refine sFld_i ?_
  | ((with_reducible apply fld_i); walk_at "look"; assumption; assumption; first | exact rfl | assumption)
  | ((with_reducible apply sfld_i); walk_at "look"; assumption; assumption; walk_at "c")
  | with_reducible refine tRevL_i ?_
  | ((with_reducible apply rev_i); walk_at "sq")
  | ((with_reducible apply rSetL_i); walk_at "look"; first | exact rfl | assumption)
  | ((with_reducible apply rIxK_i); assumption; assumption)
  | ((with_reducible apply rInK_i); assumption)
  | ((with_reducible apply rAppend_i); walk_at "look"; walk_at "c")
  | ((with_reducible apply rPop_i); walk_at "look"; first | exact rfl | assumption)
  | ((with_reducible apply len_i); walk_at "sq")
  | ((with_reducible apply lenT_i); walk_at "sq")
  | ((with_reducible apply rSlL_i); walk_at "sq")
  | with_reducible refine iteT ?_
  | with_reducible refine iteF ?_
  | ((with_reducible refine iteTk ?_ ?_); assumption)
  | ((with_reducible refine iteFk ?_ ?_); assumption)
  | ((with_reducible refine iteTk ?_ ?_); decide +kernel)
  | ((with_reducible refine iteFk ?_ ?_); decide +kernel)
  | ((with_reducible refine iteTk ?_ ?_); exact rfl)
  | ((with_reducible refine iteFk ?_ ?_); exact rfl)
  | with_reducible refine fun (p : Addr) (n : _ = none) => ?_
  | with_reducible refine Or.inl ⟨_, rfl, ?_⟩
  | with_reducible refine ⟨_, rfl, ?_⟩
  | with_reducible refine ⟨_, _, rfl, rfl, ?_⟩
  | ((with_reducible refine ⟨_, _, _, _, _, rfl, ClsV.ty _, ?_, ?_, ?_⟩); walk_at "ty"; walk_at "kit")
  | ((with_reducible refine And.intro ?_ ?_); walk_at "c")))
local macro_rules | `(tactic| walk_at "w") => `(tactic| repeat (walk_at "w1"))
local macro_rules | `(tactic| walk_at "but") => `(tactic| first
  | assumption
  | exact But.refl _ _
  | (refine But.upd ?_; walk_at "but")
  | (refine But.new ?_ (by assumption); walk_at "but"))
local macro_rules | `(tactic| walk_at "same") => `(tactic| first
  | assumption
  | exact Same.refl _
  | (refine Same.new ?_ (by assumption); walk_at "same")
  | (refine Same.trans (by assumption) ?_; walk_at "same"))
local macro_rules | `(tactic| walk_at "x") => `(tactic| (dsimp only [Cx.nox, Cx.wish, cxOf, L2H.cxH]))
/-- v is no string, whatever else stands in the heap -/
structure Odd (K : PySem.W.Frag) (H : Hp) (v : V) : Prop where
  ex : ∃ t, PySem.W.kitOne K t (.type "str") = some false ∧ ((∀ H', TyX K H' v t) ∨ ∃ p o, H p = some o ∧ (∀ ps, o ≠ .tbl ps) ∧ ∀ H', H' p = some o → TyX K H' v t)
theorem Odd.keep {K : PySem.W.Frag} {H H' : Hp} {v : V} (h : Odd K H v) (k : ∀ b o, H b = some o → (∀ ps, o ≠ .tbl ps) → H' b = some o) : Odd K H' v := by
  obtain ⟨t, h1, h2 | ⟨p, o, h2, h3, h4⟩⟩ := h.ex
  · exact ⟨t, h1, .inl h2⟩
  · exact ⟨t, h1, .inr ⟨p, o, k _ _ h2 h3, h3, h4⟩⟩
theorem Odd.ty {K : PySem.W.Frag} {H : Hp} {v : V} (h : Odd K H v) : ∃ t, TyX K H v t ∧ PySem.W.kitOne K t (.type "str") = some false := by
  obtain ⟨t, h1, h2 | ⟨p, o, h2, h3, h4⟩⟩ := h.ex
  · exact ⟨t, h2 H, h1⟩
  · exact ⟨t, h4 H h2, h1⟩
theorem oddmade_i {K : PySem.W.Frag} {H : Hp} {v : V} {own : Bool} {R : VK} {E : XK} (g : Odd K H v) (k : ∀ cls d H', Same H H' → Bad1 K (-1) cls d H' → E cls d H') (a dx : Addr) (na : H a = none) (nd : H dx = none) (ne : dx ≠ a) :
    spLook K [.ref a, v, .bl own] (upd (upd H dx (.own a)) a (.ins (He.ga K "Look") dx [])) R E := by
  have kp : Same H (upd (upd H dx (.own a)) a (.ins (He.ga K "Look") dx [])) := fun b o e => (upd_ne (fun z => by rw [z, na] at e; cases e)).trans ((upd_ne (fun z => by rw [z, nd] at e; cases e)).trans e)
  obtain ⟨t, h1, h2⟩ := (g.keep (H' := upd (upd H dx (.own a)) a (.ins (He.ga K "Look") dx [])) fun b o e _ => kp b o e).ty
  exact ⟨a, dx, _, own, rfl, upd_same, (upd_ne ne).trans upd_same, .inl ⟨t, h1, h2, fun cls d H' s hB => k cls d H' (kp.trans s) hB⟩⟩
theorem tDNewK_i {σ : L2.St} {H : Hp} {Q : VK} (k : ∀ p, H p = none → Q (.ref p) (upd H p (.dK []))) : tDNewK σ H Q := k
theorem bad_empty : BadAt "" 0 := by
  constructor
  · decide +kernel
  · decide +kernel
theorem good_all : GoodAt "all" 0 := by
  constructor
  · decide +kernel
  · decide +kernel
theorem good_un : GoodAt "u? none" 1 := by
  constructor
  · decide +kernel
  · decide +kernel
def spLaw (K : PySem.W.Frag) (Pt : Addr) : Sp := fun vs H Q _ => ∃ (a : Addr) (ns : List Int), vs = [.ref a] ∧ SqL K H a (ns.map V.int) ∧ ns.length ≤ 63 ∧ H Pt = some (.tbl #[]) ∧ ∀ H', Q (.bl true) H'
theorem ok_law {P : Program} {w : World} {K : PySem.W.Frag} {mg : Str → Option Value} {base : Heap} {Pt : Addr} {fI fE fB fj fd' ft fy fe fx fr fl fp fR fm fu : Addr} {fdI fdE fdB fdj fdd fdt fdy fde fdx fdr fdl fdp fdR fdm fdu fd : FuncData} {ds m1 m2 : List Value}
    (F : FnP K "law" "law" s_law [] (He.fAd K lawP) fd)
    (Z : Free mg) (LK : Lk K mg) (LM : LkM P w K mg base fI fdI ds m1 m2) (EQ : EqM P w K mg base fE fdE) (RF : RefF P w K mg base fR fdR) (TB : LamX.TabB base mg (He.codeOf K lawP) Pt) (MM : LMeth P w K mg base "mirrored" (spMove K mirr) fm fdm) (MT : LMeth P w K mg base "turned_about" (spMove K turn) fu fdu)
    (Cj : Cal P w K mg base CX0 1 "_law_jar" ["script"] (spJar K) fj fdj) (Cd : Cal P w K mg base CX0 1 "_law_draw" ["jar", "many"] spDraw fd' fdd) (Ct : Cal P w K mg base CX0 3 "_law_tree" ["jar", "leaves", "most"] spTree ft fdt) (Cy : Cal P w K mg base CX0 1 "_law_say" ["tree"] spSay fy fdy)
    (Ce : Cal P w K mg base CX0 1 "_law_deep" ["tree"] spDeep fe fde) (Cx : Cal P w K mg base CX0 1 "_law_exchanged" ["tree", "words"] spExl fx fdx) (Cr : Cal P w K mg base CX0 1 "_law_look_read" ["v"] spRead fr fdr) (Cl : Cal P w K mg base CX0 5 "_law_told" ["told", "body", "many_of", "deepest"] (spTold K) fl fdl)
    (Cb : Cal P w K mg base CX0 3 "_law_bent_look" ["jar", "body"] spBent fB fdB) (Cp : Cal P w K mg base CX0 2 "_law_pick" ["jar", "menu"] (spPick K) fp fdp) : FnOk P w K mg base CX0 9 (He.fAd K lawP) fd ["script"] (spLaw K Pt) := by
  refine FunD_okC F scLaw (fun vs H Q E h => ?_) (fun A outer s H0 vs Q E hr h => ?_)
  · obtain ⟨a, ns, rfl, _⟩ := h
    rfl
  · have hu := hu_of hr
    have hu64 : (A.deeper (envOfC "law" (defScope s_law) s.heap.objs.size (He.fAd K lawP) (.ref (He.codeOf K lawP)))).units + 64 < cLine := hr.units
    obtain ⟨a, ns, rfl, hS, hl, ht, k⟩ := h
    have HX : ∃ t, PSs (lawX P w K mg base A outer s H0 E) (defBody s_law) t ∧ t { nx := fun _ H' => Q .non H', rt := Q } (L2.start lawN [.ref a]) H0 := by
      refine ⟨_, (pss_cons (ps_set (i := 1) scLaw.nd rfl (Or.inl rfl) (pe_call Cj.ok (hr.mono (by omega)) rfl Cj.mg Cj.kp Cj.b .nil pass0 (pa_cons (pv 0) pa_nil)))
      (pss_cons (ps_set (i := 2) scLaw.nd rfl (Or.inr rfl) (pe_lst pa_nil))
      (pss_cons (ps_for PassesOwn.never rfl (pi_range1 (by rfl) Z.range (pa_cons pe_int pa_nil)) (pg_name (i := 3) scLaw.nd rfl (Or.inl rfl)) (turn_big Z LK LM EQ RF TB MM MT Cj Cd Ct Cy Ce Cx Cr Cl Cb Cp hr))
      (pss_cons (st_pairs Z LK LM EQ RF TB MM MT Cj Cd Ct Cy Ce Cx Cr Cl Cb Cp hr)
      (pss_cons (ps_set (i := 22) scLaw.nd rfl (Or.inr rfl) (pe_call Cp.ok (hr.mono (by omega)) rfl Cp.mg Cp.kp Cp.b .nil pass0 (pa_cons (pv 1) (pa_cons (pe_lst (pa_cons pe_non (pa_cons pe_int (pa_cons pe_bl (pa_cons (pe_lst pa_nil) (pa_cons (pe_lst (pa_cons pe_str pa_nil)) (pa_cons (pe_tup (pa_cons pe_str pa_nil)) (pa_cons pe_dnewK (pa_cons (pe_ix ix_tup (pe_ix ix_list (pv 2) pe_int (fun _ _ => rfl)) pe_int (fun _ _ => rfl)) pa_nil))))))))) pa_nil))))
      (pss_cons (ps_if (pt_not (pt_val (pe_callLam (T := [(Pt, lamQ)]) (TT := ttRefused K) (fun f c' Hm sm tl LA => RF.ok f c' _ Hm sm tl LA) (hr.mono (by omega)) rfl RF.mg RF.kp RF.b TB rfl (List.mem_singleton.mpr rfl) (fun p hp _ => by rw [List.mem_singleton.mp hp]; rfl) (LamX.lamS_by (sc := defScope s_law) (by decide +kernel)) rfl (fun _ _ _ _ _ => rfl) (fun A outer s H E f c' hr' => pe_make LM.mkr LM.ok (hr'.mono (by omega)) rfl LM.m LM.b LM.d lam_passes (pa_cons (pv 22) pa_nil)) (pa_cons (pe_tup (pa_cons pe_str (pa_cons (pe_un un_neg pe_int) pa_nil))) pa_nil)))) 
        (pss_one (ps_ret pe_bl)) pss_nil)
      (pss_one (ps_ret (pe_and (pe_callLam (T := [(Pt, lamQ)]) (TT := ttRefused K) (fun f c' Hm sm tl LA => RF.ok f c' _ Hm sm tl LA) (hr.mono (by omega)) rfl RF.mg RF.kp RF.b TB rfl (List.mem_singleton.mpr rfl) (fun p hp _ => by rw [List.mem_singleton.mp hp]; rfl) (LamX.lamS_by (sc := defScope s_law) (by decide +kernel)) rfl (fun _ _ _ _ _ => rfl) (fun A outer s H E f c' hr' => pe_make LM.mkr LM.ok (hr'.mono (by omega)) rfl LM.m LM.b LM.d lam_passes (pa_cons pe_str pa_nil)) (pa_cons (pe_tup (pa_cons pe_str (pa_cons pe_int pa_nil))) pa_nil)) (pe_and (pe_call Cl.ok (hr.mono (by omega)) rfl Cl.mg Cl.kp Cl.b .nil pass0 (pa_cons (pe_make LM.mkr LM.ok (hr.mono (by omega)) rfl LM.m LM.b LM.d passN0 (pa_cons pe_str pa_nil)) (pa_cons pe_str (pa_cons pe_int (pa_cons pe_int pa_nil))))) (pe_one (pe_call Cl.ok (hr.mono (by omega)) rfl Cl.mg Cl.kp Cl.b .nil pass0 (pa_cons (pe_make LM.mkr LM.ok (hr.mono (by omega)) rfl LM.m LM.b LM.d passN0 (pa_cons pe_str pa_nil)) (pa_cons pe_str (pa_cons pe_int (pa_cons pe_int pa_nil)))))))))))))))), ?_⟩
      walk_at "w"
      refine ⟨a, ns, rfl, hS, hl, fun j H1 s1 nj hJ => ?_⟩
      obtain ⟨c, hJ⟩ := hJ.c
      walk_at "w"
      rename_i mm nm
      have mj : mm ≠ j := fun z => hJ.old.1 (z ▸ nm)
      have mc : mm ≠ c := fun z => hJ.old.2 (z ▸ nm)
      have sm := Same.new (o := .lst []) (Same.refl H1) nm
      have hC : LC [(Pt, lamQ)] (upd H1 mm (.lst [])) j c := LC.same ⟨hJ, fun p hp => by rw [List.mem_singleton.mp hp]; exact LamX.TabS.nil (s1 _ _ ht)⟩ sm
      have hL : LS K (upd H1 mm (.lst [])) j c mm [] := ⟨⟨[], upd_same, .nil⟩, (fun p hp => by simp at hp), mj, mc⟩
      refine for_range (fun i σ' H' => ∃ (L : List (Str × Addr)) (v3 v4 v5 v6 v7 v8 v9 v10 v11 v12 v13 v14 v15 v16 v17 v18 v19 v20 v21 v22 : Option V), σ' = [some (.ref a), some (.ref j), some (.ref mm), v3, v4, v5, v6, v7, v8, v9, v10, v11, v12, v13, v14, v15, v16, v17, v18, v19, v20, v21, v22] ∧ LC [(Pt, lamQ)] H' j c ∧ LS K H' j c mm L ∧ L.length = i)
        ⟨[], _, _, _, _, _, _, _, _, _, _, _, _, _, _, _, _, _, _, _, _, rfl, hC, hL, rfl⟩ (fun i σ' H' hi h => ?_) (fun σ' H' h => ?_)
      · obtain ⟨L, v3, v4, v5, v6, v7, v8, v9, v10, v11, v12, v13, v14, v15, v16, v17, v18, v19, v20, v21, v22, rfl, hC, hL, hl⟩ := h
        have hi : i < 4 := hi
        refine gName_i ?_
        exact ⟨j, c, mm, L, _, _, _, _, _, _, _, _, _, _, _, _, _, _, _, _, _, _, _, _, _, rfl, hC, hL, by omega, fun x b v4' v5' v6' v7' v8' v9' v10' v11' v12' v13' v14' v15' v16' v17' v18' H' hC' hL' => ⟨L ++ [(x, b)], _, _, _, _, _, _, _, _, _, _, _, _, _, _, _, _, _, _, _, _, rfl, hC', hL', by rw [List.length_append, hl]; rfl⟩⟩
      · obtain ⟨L, v3, v4, v5, v6, v7, v8, v9, v10, v11, v12, v13, v14, v15, v16, v17, v18, v19, v20, v21, v22, rfl, hC, hL, hl⟩ := h
        have hl : L.length = 4 := hl
        obtain ⟨as, hm⟩ := hL.m
        walk_at "w"
        refine ⟨mm, as, L, _, _, _, _, _, _, _, _, _, _, _, _, _, _, _, _, _, _, _, _, _, _, rfl, hm, hL.looks, by omega, fun H2 s2 => ?_⟩
        replace hL := hL.keep hC.jar (KeepT.same s2)
        replace hC := hC.same s2
        clear hm
        obtain ⟨as, hm⟩ := hL.m
        obtain ⟨p0, L', rfl⟩ : ∃ p0 L', L = p0 :: L' := by
          cases L with
          | nil => simp at hl
          | cons p l => exact ⟨p, l, rfl⟩
        obtain ⟨q0, as', rfl⟩ : ∃ q0 as', as = q0 :: as' := by
          have := hm.len
          cases as with
          | nil => simp at this
          | cons p l => exact ⟨p, l, rfl⟩
        have hq0 : H2 q0 = some (.tup [.str p0.1, .ref p0.2]) := paired_get hm.r (i := 0) rfl rfl
        obtain ⟨n0, d0, hk0⟩ := hL.looks p0 List.mem_cons_self
        have hml := hm.l
        have hat0 : atI ((q0 :: as').map V.ref) (0 : Int) = some (.ref q0) := atI_nat (j := 0) rfl
        walk_at "w"
        rename_i p1 n1 p2 n2 p3 n3
        refine tDNewK_i fun p4 n4 => ?_
        have hj := hC.jar.old.1
        have sa := Same.new (o := .lst []) (Same.refl H2) n1
        have sb := Same.new (o := .lst [.str "all"]) (Same.refl (upd H2 p1 (.lst []))) n2
        have sc := Same.new (o := .tup [.str "all"]) (Same.refl (upd (upd H2 p1 (.lst [])) p2 (.lst [.str "all"]))) n3
        have sd := Same.new (o := .dK []) (Same.refl (upd (upd (upd H2 p1 (.lst [])) p2 (.lst [.str "all"])) p3 (.tup [.str "all"]))) n4
        have f1 := sd _ _ (sc _ _ (sb _ _ (upd_same (H := H2) (a := p1) (o := .lst []))))
        have f2 := sd _ _ (sc _ _ (upd_same (H := upd H2 p1 (.lst [])) (a := p2) (o := .lst [.str "all"])))
        have f3 := sd _ _ (upd_same (H := upd (upd H2 p1 (.lst [])) p2 (.lst [.str "all"])) (a := p3) (o := .tup [.str "all"]))
        have f4 := upd_same (H := upd (upd (upd H2 p1 (.lst [])) p2 (.lst [.str "all"])) p3 (.tup [.str "all"])) (a := p4) (o := .dK [])
        have e1 : p1 ≠ j := fun z => hj (z ▸ n1)
        have e2 : p2 ≠ j := fun z => hj ((sa.free (z ▸ n2)))
        have e3 : p3 ≠ j := fun z => hj (((sa.trans sb).free (z ▸ n3)))
        have e4 : p4 ≠ j := fun z => hj ((((sa.trans sb).trans sc).free (z ▸ n4)))
        have s4 := ((sa.trans sb).trans sc).trans sd
        generalize upd (upd (upd (upd H2 p1 _) p2 _) p3 _) p4 _ = H4 at f1 f2 f3 f4 s4 ⊢
        clear sa sb sc sd n1 n2 n3 n4
        replace hC := hC.same s4
        replace hk0 := IsLook.same hk0 s4
        replace hq0 := s4 _ _ hq0
        replace hml := s4 _ _ hml
        clear hL hm
        walk_at "w"
        rename_i p5 n5
        have s5 := Same.new (o := .lst [.non, .int 3, .bl true, .ref p1, .ref p2, .ref p3, .ref p4, .ref p0.2]) (Same.refl H4) n5
        refine ⟨j, c, p5, _, rfl, hC.jar.same s5, upd_same, fun z => hC.jar.old.1 (z ▸ n5), (show 0 < 8 by decide), (show 8 < 1000 by decide), fun i v H6 hv hB hJ6 => ?_⟩
        have g1 := hB _ _ (s5 _ _ f1) e1
        have g2 := hB _ _ (s5 _ _ f2) e2
        have g3 := hB _ _ (s5 _ _ f3) e3
        have g4 := hB _ _ (s5 _ _ f4) e4
        have g5 := (IsLook.same hk0 s5).keep (hC.jar.same s5) (KeepT.but hB)
        have hodd : Odd K H6 v := by
          have := List.mem_of_getElem? hv
          simp only [List.mem_cons, List.not_mem_nil, or_false] at this
          rcases this with rfl | rfl | rfl | rfl | rfl | rfl | rfl | rfl
          · exact ⟨_, kit_NoneType_str, .inl fun _ => .base .non⟩
          · exact ⟨_, kit_int_str, .inl fun _ => .base (.int _)⟩
          · exact ⟨_, kit_bool_str, .inl fun _ => .base (.bl _)⟩
          · exact ⟨_, kit_list_str, .inr ⟨p1, _, g1, (fun ps z => by cases z), fun H' h => .base (.lst h)⟩⟩
          · exact ⟨_, kit_list_str, .inr ⟨p2, _, g2, (fun ps z => by cases z), fun H' h => .base (.lst h)⟩⟩
          · exact ⟨_, kit_tuple_str, .inr ⟨p3, _, g3, (fun ps z => by cases z), fun H' h => .base (.tup h)⟩⟩
          · exact ⟨_, kit_dict_str, .inr ⟨p4, _, g4, (fun ps z => by cases z), fun H' h => .base (.dK h)⟩⟩
          · obtain ⟨dx, fs, e, _⟩ := g5
            exact ⟨_, LK.k_no, .inr ⟨p0.2, _, e, (fun ps z => by cases z), fun H' h => LK.ty h⟩⟩
        replace hC := (hC.same s5).but hB hJ6
        clear g1 g2 g3 g4 g5 f1 f2 f3 f4 hv hB hJ6 s5 n5
        walk_at "w"
        refine tLam2_i hC.tb fun H7 c' eN T1 hc => ?_
        replace hC := hC.ext eN T1
        replace hodd := hodd.keep eN
        walk_at "w"
        rename_i T nT
        have sT := Same.new (o := .tup [.str "BadLook", .int (-1)]) (Same.refl H7) nT
        refine ⟨sT _ _ hc, T, -1, rfl, upd_same, fun H8 s8 => ?_, fun Q' E' hE => ?_⟩
        · replace hC := (hC.same sT).same s8
          walk_at "w"
          refine tLam2_i hC.tb fun H9 c2 eN2 T2 hc2 => ?_
          walk_at "w"
          rename_i U nU
          have sU := Same.new (o := .tup [.str "BadLook", .int 0]) (Same.refl H9) nU
          refine ⟨sU _ _ hc2, U, 0, rfl, upd_same, fun H10 s10 => ?_, fun Q' E' hE => ?_⟩
          · walk_at "w"
            refine tMake_i ?_
            walk_at "w"
            refine made_i (own := false) (by decide +kernel) good_all (fun _ => ⟨by decide +kernel, by decide⟩) (fun b H11 s11 nb hb => ?_)
            walk_at "w"
            refine ⟨b, "all", 0, by rw [show (Txt.split "all" " ").length = 1 from by decide +kernel]; rfl, hb, good_all, by decide +kernel, by decide +kernel, by decide, fun H12 s12 => ?_⟩
            walk_at "w"
            refine tMake_i ?_
            walk_at "w"
            refine made_i (own := false) (by decide +kernel) good_un (fun _ => ⟨by decide +kernel, by decide⟩) (fun b2 H13 s13 nb2 hb2 => ?_)
            walk_at "w"
            refine ⟨b2, "u? none", 1, by rw [show (Txt.split "u? none" " ").length = 2 from by decide +kernel]; rfl, hb2, good_un, by decide +kernel, by decide +kernel, by decide, fun H14 s14 => ?_⟩
            exact k _
          · refine tMake_i ?_
            walk_at "w"
            exact fun b dx nb nd ne => badmade_i (own := false) (by decide +kernel) bad_empty (fun cls d H' s hB => hE cls d H' s hB) b dx nb nd ne
        · refine tMake_i ?_
          walk_at "w"
          exact fun b dx nb nd ne => oddmade_i (own := false) (hodd.keep fun b o h _ => sT _ _ h) (fun cls d H' s hB => hE cls d H' s hB) b dx nb nd ne
    obtain ⟨t, h1, h2⟩ := HX
    exact ⟨t, PSs.nox h1, h2⟩
end K9
set_option Elab.async false
set_option linter.all false
set_option maxRecDepth 100000
set_option maxHeartbeats 4000000
/-! Facts of the head, by booleans. -/
namespace K9
open PySem PySem.Spec PyProof.Rows L2
theorem bget {l : List Bool} (h : l.all id = true) (i : Nat) {b : Bool} (e : l[i]? = some b) : b = true := List.all_eq_true.mp h b (List.mem_of_getElem? e)
theorem dget {l : List Bool} (h : l.all id = true) (i : Nat) {p : Prop} [d : Decidable p] (e : l[i]? = some (decide p)) : p := of_decide_eq_true (bget h i e)
theorem abs_vals : ∀ {us : List Value} {xs : List V}, us.map absV = xs.map some → Vals xs us
  | [], [], _ => .nil
  | [], _ :: _, h => by cases h
  | _ :: _, [], h => by cases h
  | u :: us, x :: xs, h => by
    rw [List.map_cons, List.map_cons] at h
    injection h with h1 h2
    exact .cons (abs_rel h1) (abs_vals h2)
theorem tupW_ok {K : PySem.W.Frag} {a : Addr} {xs : List V} (h : tupW K a = some (xs.map some)) (hz : xs.length ≤ 1000) (H : Hp) : SqT K H a xs := by
  unfold tupW at h
  split at h
  · rename_i c d its n sl e
    split at h
    · rename_i hc
      subst hc
      have r := abs_vals (Option.some.inj h)
      refine .inr ⟨_, its, n, e, rfl, rfl, ?_, r⟩
      have hz2 : its.size = xs.length := by
        have := r.length
        simpa using this.symm
      rw [hz2]
      exact Nat.le_trans hz (Nat.le_of_ble_eq_true rfl)
    · cases h
  · cases h
theorem oexB_ok {K : PySem.W.Frag} {C : Addr} (q : oexB K C = true) : ∃ nm q N bs bm sn sub ab col dd k0 k1 k2 k3 k5, K.lookup C = some (excClassObj nm q C N bs bm true sn sub ab col dd k0 k1 k2 k3 k5 "ValueError.__new__") ∧ PySem.HandSPX.refsVE bm = true := by
  unfold oexB at q
  split at q
  · rename_i dd cd sl ho
    split at q
    · rename_i C' bm k0 k1 k2 k3 n k5 hm hs
      simp only [Bool.and_eq_true, beq_iff_eq, Bool.not_eq_true'] at q
      obtain ⟨⟨⟨⟨rfl, rfl⟩, hdel⟩, hdct⟩, ht⟩ := q
      obtain ⟨nm, bs, mro, ns, qn, hd, sn, sub, ab, col, del⟩ := cd
      dsimp only at hm hdel hdct
      subst hm hdel hdct
      have hsl : sl = #[k0, k1, k2, k3, some (.builtin "ValueError.__new__"), k5] := by
        obtain ⟨l⟩ := sl
        simp only at hs
        rw [hs]
      subst hsl
      exact ⟨nm, qn, ns, bs, bm, sn, sub, ab, col, dd, k0, k1, k2, k3, k5, ho, ht⟩
    · cases q
  · cases q
theorem tabX {fa : List He.Fa} {fn : List He.DefD} {ts : List He.Tab} {w : World} {K : PySem.W.Frag} (c : He.SaysT fa fn ts w K) (i : Nat) {t : He.Tab} (h : ts[i]? = some t := by rfl) : He.dicW K (t.1 K) = some (He.keysIn w.params t.2) := by
  have e : ts.map (fun t => He.dicW K (t.1 K)) = ts.map fun t => some (He.keysIn w.params t.2) := congrArg (fun z : He.AlT => z.2) c
  have e2 : (ts.map fun t => He.dicW K (t.1 K))[i]? = (ts.map fun t => some (He.keysIn w.params t.2))[i]? := by rw [e]
  rw [List.getElem?_map, List.getElem?_map, h] at e2
  exact Option.some.inj e2
end K9
set_option Elab.async false
set_option linter.all false
set_option maxRecDepth 100000
set_option maxHeartbeats 4000000
namespace K9
open PySem PySem.Spec PyProof.Rows L2
section
variable {w : World} {K : PySem.W.Frag} {h : Heap} {mg : Str → Option Value}
theorem t_free (c : He.SaysX fa fn ts tf ex w h K) (X : K.In h) (G : h.Ns mainGlobals mg) : Free mg := ⟨He.free_ok X G (c.t.d.fact 52 (f := .free "len") rfl), He.free_ok X G (c.t.d.fact 53 (f := .free "int") rfl), He.free_ok X G (c.t.d.fact 54 (f := .free "isinstance") rfl), He.free_ok X G (c.t.d.fact 55 (f := .free "list") rfl), He.free_ok X G (c.t.d.fact 56 (f := .free "range") rfl), He.free_ok X G (c.t.d.fact 57 (f := .free "sum") rfl), He.free_ok X G (c.t.d.fact 58 (f := .free "max") rfl), He.free_ok X G (c.t.d.fact 59 (f := .free "dict") rfl), He.free_ok X G (c.t.d.fact 60 (f := .free "enumerate") rfl), He.free_ok X G (c.t.d.fact 61 (f := .free "str") rfl), He.free_ok X G (c.t.d.fact 62 (f := .free "bool") rfl), He.free_ok X G (c.t.d.fact 63 (f := .free "tuple") rfl)⟩
theorem t_er (c : He.SaysX fa fn ts tf ex w h K) (X : K.In h) (G : h.Ns mainGlobals mg) : Er K mg where
  m_BadNumber := He.glo_ok X G (c.t.d.fact 1 (f := .glo "BadNumber") rfl)
  m_BadFloor := He.glo_ok X G (c.t.d.fact 2 (f := .glo "BadFloor") rfl)
  m_NotFloor := He.glo_ok X G (c.t.d.fact 3 (f := .glo "NotFloor") rfl)
  m_BadPiece := He.glo_ok X G (c.t.d.fact 4 (f := .glo "BadPiece") rfl)
  m_BadTally := He.glo_ok X G (c.t.d.fact 5 (f := .glo "BadTally") rfl)
  m_BadTurning := He.glo_ok X G (c.t.d.fact 6 (f := .glo "BadTurning") rfl)
  m_BadMap := He.glo_ok X G (c.t.d.fact 7 (f := .glo "BadMap") rfl)
  m_BadLook := He.glo_ok X G (c.t.d.fact 8 (f := .glo "BadLook") rfl)
  m_BadSaying := He.glo_ok X G (c.t.d.fact 9 (f := .glo "BadSaying") rfl)
  m_BadBook := He.glo_ok X G (c.t.d.fact 10 (f := .glo "BadBook") rfl)
  m_BadVerdict := He.glo_ok X G (c.t.d.fact 11 (f := .glo "BadVerdict") rfl)
  m_BadLayers := He.glo_ok X G (c.t.d.fact 12 (f := .glo "BadLayers") rfl)
  m_NotLayers := He.glo_ok X G (c.t.d.fact 13 (f := .glo "NotLayers") rfl)
  m_BadCover := He.glo_ok X G (c.t.d.fact 14 (f := .glo "BadCover") rfl)
  m_BadMeasure := He.glo_ok X G (c.t.d.fact 15 (f := .glo "BadMeasure") rfl)
  m_BadScript := He.glo_ok X G (c.t.d.fact 16 (f := .glo "BadScript") rfl)
  m_Unlike := He.glo_ok X G (c.t.d.fact 17 (f := .glo "Unlike") rfl)
  m_OutOf := He.glo_ok X G (c.t.d.fact 18 (f := .glo "OutOf") rfl)
  m_TooMany := He.glo_ok X G (c.t.d.fact 19 (f := .glo "TooMany") rfl)
  m_NoSuch := He.glo_ok X G (c.t.d.fact 20 (f := .glo "NoSuch") rfl)
  m_Ended := He.glo_ok X G (c.t.d.fact 21 (f := .glo "Ended") rfl)
  m_EveryError := He.glo_ok X G (c.t.d.fact 0 (f := .glo "EveryError") rfl)
  k_BadNumber := dget c.more 0 rfl
  k_BadFloor := dget c.more 1 rfl
  k_NotFloor := dget c.more 2 rfl
  k_BadPiece := dget c.more 3 rfl
  k_BadTally := dget c.more 4 rfl
  k_BadTurning := dget c.more 5 rfl
  k_BadMap := dget c.more 6 rfl
  k_BadLook := dget c.more 7 rfl
  k_BadSaying := dget c.more 8 rfl
  k_BadBook := dget c.more 9 rfl
  k_BadVerdict := dget c.more 10 rfl
  k_BadLayers := dget c.more 11 rfl
  k_NotLayers := dget c.more 12 rfl
  k_BadCover := dget c.more 13 rfl
  k_BadMeasure := dget c.more 14 rfl
  k_BadScript := dget c.more 15 rfl
  k_Unlike := dget c.more 16 rfl
  k_OutOf := dget c.more 17 rfl
  k_TooMany := dget c.more 18 rfl
  k_NoSuch := dget c.more 19 rfl
  k_Ended := dget c.more 20 rfl
  k_EveryError := dget c.more 21 rfl
  k_ValueError := dget c.more 22 rfl
  k_LookupError := dget c.more 23 rfl
  k_KeyError := dget c.more 24 rfl
  k_IndexError := dget c.more 25 rfl
  k_RuntimeError := dget c.more 26 rfl
  f_ValueError := He.free_ok X G (c.t.d.fact 64 (f := .free "ValueError") rfl)
  f_LookupError := He.free_ok X G (c.t.d.fact 65 (f := .free "LookupError") rfl)
  f_KeyError := He.free_ok X G (c.t.d.fact 66 (f := .free "KeyError") rfl)
  f_IndexError := He.free_ok X G (c.t.d.fact 67 (f := .free "IndexError") rfl)
  f_RuntimeError := He.free_ok X G (c.t.d.fact 68 (f := .free "RuntimeError") rfl)
  oex := ⟨oexB_ok (bget c.more 30 rfl), dget c.more 31 rfl, dget c.more 32 rfl, dget c.more 33 rfl, bget c.more 34 rfl⟩
  xf := ⟨dget c.more 35 rfl, dget c.more 36 rfl, dget c.more 32 rfl, bget c.more 37 rfl⟩
  ec := ⟨dget c.more 35 rfl, dget c.more 36 rfl, dget c.more 32 rfl, bget c.more 37 rfl, dget c.more 38 rfl, dget c.more 39 rfl, dget c.more 40 rfl, dget c.more 41 rfl⟩
  nat := dget c.more 27 rfl
  nwhy := dget c.more 28 rfl
  exm := dget c.more 29 rfl
theorem t_lk (c : He.SaysX fa fn ts tf ex w h K) (X : K.In h) (G : h.Ns mainGlobals mg) : Lk K mg where
  m_Look := He.glo_ok X G (c.t.d.fact 35 (f := .glo "Look") rfl)
  cls := He.cls_ok (c.t.d.fact 69 (f := .cls "Look") rfl)
  n_signs := He.noat_ok (c.t.d.fact 71 (f := .noat "Look" "_signs") rfl)
  n_text := He.noat_ok (c.t.d.fact 72 (f := .noat "Look" "text") rfl)
  n_words := He.noat_ok (c.t.d.fact 73 (f := .noat "Look" "words") rfl)
  n_depth := He.noat_ok (c.t.d.fact 74 (f := .noat "Look" "depth") rfl)
  k_self := dget c.more 44 rfl
  k_str := dget c.more 45 rfl
  k_no := dget c.more 46 rfl
  ha := dget c.more 47 rfl
  hn := dget c.more 39 rfl
  htk := dget c.more 40 rfl
  hm := dget c.more 48 rfl
  nf := bget c.more 49 rfl
  nfs := bget c.more 50 rfl
theorem t_tb (c : He.SaysX fa fn ts tf ex w h K) (X : K.In h) (G : h.Ns mainGlobals mg) : Tb K w mg where
  m_LIMITS := He.glo_ok X G (c.t.d.fact 22 (f := .glo "LIMITS") rfl)
  m_STEPS := He.glo_ok X G (c.t.d.fact 25 (f := .glo "STEPS") rfl)
  m_LEAVES := He.glo_ok X G (c.t.d.fact 24 (f := .glo "LEAVES") rfl)
  m_MIRRORED := He.glo_ok X G (c.t.d.fact 26 (f := .glo "MIRRORED") rfl)
  m_TURNED := He.glo_ok X G (c.t.d.fact 27 (f := .glo "TURNED") rfl)
  k_LIMITS := (show ((kvI limits).map (·.1)).zip ((kvI limits).map (·.2)) = kvI limits from by decide +kernel) ▸ KPairs.of (ks := (kvI limits).map (·.1)) (vs := (kvI limits).map (·.2)) (tabX c.t 0) (dget c.more 51 rfl) (by decide +kernel) (by decide +kernel) (by decide +kernel)
  k_MIRRORED := (show ((kvS mirr).map (·.1)).zip ((kvS mirr).map (·.2)) = kvS mirr from by decide +kernel) ▸ KPairs.of (ks := (kvS mirr).map (·.1)) (vs := (kvS mirr).map (·.2)) (tabX c.t 1) (dget c.more 52 rfl) (by decide +kernel) (by decide +kernel) (by decide +kernel)
  k_TURNED := (show ((kvS turn).map (·.1)).zip ((kvS turn).map (·.2)) = kvS turn from by decide +kernel) ▸ KPairs.of (ks := (kvS turn).map (·.1)) (vs := (kvS turn).map (·.2)) (tabX c.t 2) (dget c.more 53 rfl) (by decide +kernel) (by decide +kernel) (by decide +kernel)
  k_STEPS := ⟨stepA K 0, stepA K 1, stepA K 2, stepA K 3, KPairs.of (ks := stepK) (vs := [.ref (stepA K 0), .ref (stepA K 1), .ref (stepA K 2), .ref (stepA K 3)]) (tabX c.t 3) (dget c.more 54 rfl) (by decide +kernel) (by show 4 ≤ 4; decide) (by decide +kernel), tupW_ok (dget c.more 55 rfl) (by decide), tupW_ok (dget c.more 56 rfl) (by decide), tupW_ok (dget c.more 57 rfl) (by decide), tupW_ok (dget c.more 58 rfl) (by decide)⟩
  k_LEAVES := tupW_ok (dget c.more 59 rfl) (by decide)
end
end K9
set_option Elab.async false
set_option linter.all false
set_option maxRecDepth 100000
set_option maxHeartbeats 4000000
namespace K9
open PySem PySem.Spec PyProof.Rows L2
theorem law_at {w : World} {K : PySem.W.Frag} {h : Heap} {mg : Str → Option Value} {f : Addr} (c : He.SaysX fa fn ts tf ex w h K) (X : K.In h) (G : h.Ns mainGlobals mg) (hfa : mg ("law" : Str) = some (.ref f)) : LamX.LawAtS PySem.Challenge.rw_everylemma_k09_looks_read w K CX0 9 63 "script" mg f h := by
  have e := hfa.symm.trans (He.glo_ok X G (c.t.d.fact 51 (f := .glo "law") rfl))
  cases e
  have Z := t_free c X G
  have ER := t_er c X G
  have LK := t_lk c X G
  have TB := t_tb c X G
  obtain ⟨fd_BadLookX_initX, F_BadLookX_initX⟩ := c.t.d.def_ 0 (d := d_BadLookX_initX) rfl
  obtain ⟨fd_check_bounds, F_check_bounds⟩ := c.t.d.def_ 1 (d := d_check_bounds) rfl
  obtain ⟨fd_goes_on, F_goes_on⟩ := c.t.d.def_ 2 (d := d_goes_on) rfl
  obtain ⟨fd_signs_of, F_signs_of⟩ := c.t.d.def_ 3 (d := d_signs_of) rfl
  obtain ⟨fd_fault_of, F_fault_of⟩ := c.t.d.def_ 4 (d := d_fault_of) rfl
  obtain ⟨fd_depth_of, F_depth_of⟩ := c.t.d.def_ 5 (d := d_depth_of) rfl
  obtain ⟨fd_exchanged, F_exchanged⟩ := c.t.d.def_ 6 (d := d_exchanged) rfl
  obtain ⟨fd_mirrored_text, F_mirrored_text⟩ := c.t.d.def_ 7 (d := d_mirrored_text) rfl
  obtain ⟨fd_turned_text, F_turned_text⟩ := c.t.d.def_ 8 (d := d_turned_text) rfl
  obtain ⟨fd_LookX_initX, F_LookX_initX⟩ := c.t.d.def_ 9 (d := d_LookX_initX) rfl
  obtain ⟨fd_Look_mirrored, F_Look_mirrored⟩ := c.t.d.def_ 10 (d := d_Look_mirrored) rfl
  obtain ⟨fd_Look_turned_about, F_Look_turned_about⟩ := c.t.d.def_ 11 (d := d_Look_turned_about) rfl
  obtain ⟨fd_LookX_eqX, F_LookX_eqX⟩ := c.t.d.def_ 12 (d := d_LookX_eqX) rfl
  obtain ⟨fd_law_jar, F_law_jar⟩ := c.t.d.def_ 13 (d := dXlaw_jar) rfl
  obtain ⟨fd_law_draw, F_law_draw⟩ := c.t.d.def_ 14 (d := dXlaw_draw) rfl
  obtain ⟨fd_law_pick, F_law_pick⟩ := c.t.d.def_ 15 (d := dXlaw_pick) rfl
  obtain ⟨fd_law_same, F_law_same⟩ := c.t.d.def_ 16 (d := dXlaw_same) rfl
  obtain ⟨fd_law_classes, F_law_classes⟩ := c.t.d.def_ 17 (d := dXlaw_classes) rfl
  obtain ⟨fd_law_caught, F_law_caught⟩ := c.t.d.def_ 18 (d := dXlaw_caught) rfl
  obtain ⟨fd_law_tried, F_law_tried⟩ := c.t.d.def_ 19 (d := dXlaw_tried) rfl
  obtain ⟨fd_law_refused, F_law_refused⟩ := c.t.d.def_ 20 (d := dXlaw_refused) rfl
  obtain ⟨fd_law_tree, F_law_tree⟩ := c.t.d.def_ 21 (d := dXlaw_tree) rfl
  obtain ⟨fd_law_say, F_law_say⟩ := c.t.d.def_ 22 (d := dXlaw_say) rfl
  obtain ⟨fd_law_deep, F_law_deep⟩ := c.t.d.def_ 23 (d := dXlaw_deep) rfl
  obtain ⟨fd_law_exchanged, F_law_exchanged⟩ := c.t.d.def_ 24 (d := dXlaw_exchanged) rfl
  obtain ⟨fd_law_look_read, F_law_look_read⟩ := c.t.d.def_ 25 (d := dXlaw_look_read) rfl
  obtain ⟨fd_law_told, F_law_told⟩ := c.t.d.def_ 26 (d := dXlaw_told) rfl
  obtain ⟨fd_law_bent_look, F_law_bent_look⟩ := c.t.d.def_ 27 (d := dXlaw_bent_look) rfl
  obtain ⟨fd_law, F_law⟩ := c.t.d.def_ 28 (d := d_law) rfl
  refine ⟨fd_law, [He.cT K lawP], spLaw K (He.cT K lawP).2, fun p hp => ?_, fun p hp => ?_, fun p hp => ?_, fun s u => ?_, fun H a ns hl hb hT hS => ⟨a, ns, rfl, hS, hl, hT _ (List.mem_singleton.mpr rfl), fun _ => rfl⟩, fun base hKb hNs hTB => ?_⟩
  · rw [List.mem_singleton.mp hp]
    exact c.empty _ (List.mem_singleton.mpr rfl)
  · rw [List.mem_singleton.mp hp]
    exact c.out _ (List.mem_singleton.mpr rfl)
  · rw [List.mem_singleton.mp hp]
    exact PySem.W.codeHd_of_K X (c.hd _ (List.mem_singleton.mpr rfl))
  · exact FunD.bindsA (ps := ["script"]) F_law (fun _ _ _ _ _ _ us hl => match us, hl with | [_], _ => rfl) s [u] rfl
  · have Cj : Cal PySem.Challenge.rw_everylemma_k09_looks_read.prog w K mg base CX0 1 "_law_jar" ["script"] (spJar K) (He.fAd K ("_law_jar", none)) fd_law_jar := ⟨ok_jar Z F_law_jar, He.glo_ok X G (c.t.d.fact 36 (f := .glo "_law_jar") rfl), F_law_jar.kp, (FunD.bindsN (ps := ["script"]) F_law_jar fun _ _ _ _ _ _ us hl => match us, hl with | [_], _ => rfl)⟩
    have Cd : Cal PySem.Challenge.rw_everylemma_k09_looks_read.prog w K mg base CX0 1 "_law_draw" ["jar", "many"] spDraw (He.fAd K ("_law_draw", none)) fd_law_draw := ⟨ok_draw Z F_law_draw, He.glo_ok X G (c.t.d.fact 37 (f := .glo "_law_draw") rfl), F_law_draw.kp, (FunD.bindsN (ps := ["jar", "many"]) F_law_draw fun _ _ _ _ _ _ us hl => match us, hl with | [_, _], _ => rfl)⟩
    have Cp : Cal PySem.Challenge.rw_everylemma_k09_looks_read.prog w K mg base CX0 2 "_law_pick" ["jar", "menu"] (spPick K) (He.fAd K ("_law_pick", none)) fd_law_pick := ⟨ok_pick Z F_law_pick Cd, He.glo_ok X G (c.t.d.fact 38 (f := .glo "_law_pick") rfl), F_law_pick.kp, (FunD.bindsN (ps := ["jar", "menu"]) F_law_pick fun _ _ _ _ _ _ us hl => match us, hl with | [_, _], _ => rfl)⟩
    have Cs0 : Cal PySem.Challenge.rw_everylemma_k09_looks_read.prog w K mg base CX0 1 "_law_same" ["told", "due"] spSame0 (He.fAd K ("_law_same", none)) fd_law_same := ⟨ok_same0 Z F_law_same, He.glo_ok X G (c.t.d.fact 39 (f := .glo "_law_same") rfl), F_law_same.kp, (FunD.bindsN (ps := ["told", "due"]) F_law_same fun _ _ _ _ _ _ us hl => match us, hl with | [_, _], _ => rfl)⟩
    have Cs : Cal PySem.Challenge.rw_everylemma_k09_looks_read.prog w K mg base CX0 2 "_law_same" ["told", "due"] spSame (He.fAd K ("_law_same", none)) fd_law_same := ⟨ok_same Z F_law_same Cs0, He.glo_ok X G (c.t.d.fact 39 (f := .glo "_law_same") rfl), F_law_same.kp, (FunD.bindsN (ps := ["told", "due"]) F_law_same fun _ _ _ _ _ _ us hl => match us, hl with | [_, _], _ => rfl)⟩
    have Ct : Cal PySem.Challenge.rw_everylemma_k09_looks_read.prog w K mg base CX0 3 "_law_tree" ["jar", "leaves", "most"] spTree (He.fAd K ("_law_tree", none)) fd_law_tree := ⟨ok_tree Z F_law_tree Cd Cp, He.glo_ok X G (c.t.d.fact 44 (f := .glo "_law_tree") rfl), F_law_tree.kp, (FunD.bindsN (ps := ["jar", "leaves", "most"]) F_law_tree fun _ _ _ _ _ _ us hl => match us, hl with | [_, _, _], _ => rfl)⟩
    have Cy : Cal PySem.Challenge.rw_everylemma_k09_looks_read.prog w K mg base CX0 1 "_law_say" ["tree"] spSay (He.fAd K ("_law_say", none)) fd_law_say := ⟨ok_say Z F_law_say, He.glo_ok X G (c.t.d.fact 45 (f := .glo "_law_say") rfl), F_law_say.kp, (FunD.bindsN (ps := ["tree"]) F_law_say fun _ _ _ _ _ _ us hl => match us, hl with | [_], _ => rfl)⟩
    have Ce : Cal PySem.Challenge.rw_everylemma_k09_looks_read.prog w K mg base CX0 1 "_law_deep" ["tree"] spDeep (He.fAd K ("_law_deep", none)) fd_law_deep := ⟨ok_deep Z F_law_deep, He.glo_ok X G (c.t.d.fact 46 (f := .glo "_law_deep") rfl), F_law_deep.kp, (FunD.bindsN (ps := ["tree"]) F_law_deep fun _ _ _ _ _ _ us hl => match us, hl with | [_], _ => rfl)⟩
    have Cx : Cal PySem.Challenge.rw_everylemma_k09_looks_read.prog w K mg base CX0 1 "_law_exchanged" ["tree", "words"] spExl (He.fAd K ("_law_exchanged", none)) fd_law_exchanged := ⟨ok_exl Z F_law_exchanged, He.glo_ok X G (c.t.d.fact 47 (f := .glo "_law_exchanged") rfl), F_law_exchanged.kp, (FunD.bindsN (ps := ["tree", "words"]) F_law_exchanged fun _ _ _ _ _ _ us hl => match us, hl with | [_, _], _ => rfl)⟩
    have Cr : Cal PySem.Challenge.rw_everylemma_k09_looks_read.prog w K mg base CX0 1 "_law_look_read" ["v"] spRead (He.fAd K ("_law_look_read", none)) fd_law_look_read := ⟨ok_read Z F_law_look_read, He.glo_ok X G (c.t.d.fact 48 (f := .glo "_law_look_read") rfl), F_law_look_read.kp, (FunD.bindsN (ps := ["v"]) F_law_look_read fun _ _ _ _ _ _ us hl => match us, hl with | [_], _ => rfl)⟩
    have Cb : Cal PySem.Challenge.rw_everylemma_k09_looks_read.prog w K mg base CX0 3 "_law_bent_look" ["jar", "body"] spBent (He.fAd K ("_law_bent_look", none)) fd_law_bent_look := ⟨ok_bent Z F_law_bent_look Cd Cp, He.glo_ok X G (c.t.d.fact 50 (f := .glo "_law_bent_look") rfl), F_law_bent_look.kp, (FunD.bindsN (ps := ["jar", "body"]) F_law_bent_look fun _ _ _ _ _ _ us hl => match us, hl with | [_, _], _ => rfl)⟩
    have Cbo : Cal PySem.Challenge.rw_everylemma_k09_looks_read.prog w K mg base CX0 1 "check_bounds" ["found"] spBounds (He.fAd K ("check_bounds", none)) fd_check_bounds := ⟨ok_bounds Z TB F_check_bounds, He.glo_ok X G (c.t.d.fact 23 (f := .glo "check_bounds") rfl), F_check_bounds.kp, (FunD.bindsN (ps := ["found"]) F_check_bounds fun _ _ _ _ _ _ us hl => match us, hl with | [_], _ => rfl)⟩
    have Cgo : Cal PySem.Challenge.rw_everylemma_k09_looks_read.prog w K mg base CX0 1 "goes_on" ["word", "wanted", "state"] spGoes (He.fAd K ("goes_on", none)) fd_goes_on := ⟨ok_goes Z TB F_goes_on, He.glo_ok X G (c.t.d.fact 28 (f := .glo "goes_on") rfl), F_goes_on.kp, (FunD.bindsN (ps := ["word", "wanted", "state"]) F_goes_on fun _ _ _ _ _ _ us hl => match us, hl with | [_, _, _], _ => rfl)⟩
    have Csi : Cal PySem.Challenge.rw_everylemma_k09_looks_read.prog w K mg base CX0 2 "signs_of" ["words"] spSigns (He.fAd K ("signs_of", none)) fd_signs_of := ⟨ok_signs Z TB F_signs_of Cgo, He.glo_ok X G (c.t.d.fact 29 (f := .glo "signs_of") rfl), F_signs_of.kp, (FunD.bindsN (ps := ["words"]) F_signs_of fun _ _ _ _ _ _ us hl => match us, hl with | [_], _ => rfl)⟩
    have Cfa : Cal PySem.Challenge.rw_everylemma_k09_looks_read.prog w K mg base CX0 1 "fault_of" ["text", "words", "count"] (spFault K) (He.fAd K ("fault_of", none)) fd_fault_of := ⟨ok_fault Z F_fault_of, He.glo_ok X G (c.t.d.fact 30 (f := .glo "fault_of") rfl), F_fault_of.kp, (FunD.bindsN (ps := ["text", "words", "count"]) F_fault_of fun _ _ _ _ _ _ us hl => match us, hl with | [_, _, _], _ => rfl)⟩
    have Cde : Cal PySem.Challenge.rw_everylemma_k09_looks_read.prog w K mg base CX0 1 "depth_of" ["signs"] spDepth (He.fAd K ("depth_of", none)) fd_depth_of := ⟨ok_depth Z TB F_depth_of, He.glo_ok X G (c.t.d.fact 31 (f := .glo "depth_of") rfl), F_depth_of.kp, (FunD.bindsN (ps := ["signs"]) F_depth_of fun _ _ _ _ _ _ us hl => match us, hl with | [_], _ => rfl)⟩
    have Cex : Cal PySem.Challenge.rw_everylemma_k09_looks_read.prog w K mg base CX0 1 "exchanged" ["text", "words"] spExch (He.fAd K ("exchanged", none)) fd_exchanged := ⟨ok_exch Z F_exchanged, He.glo_ok X G (c.t.d.fact 32 (f := .glo "exchanged") rfl), F_exchanged.kp, (FunD.bindsN (ps := ["text", "words"]) F_exchanged fun _ _ _ _ _ _ us hl => match us, hl with | [_, _], _ => rfl)⟩
    have Cmi : Cal PySem.Challenge.rw_everylemma_k09_looks_read.prog w K mg base CX0 2 "mirrored_text" ["text"] (spText (exch mirr)) (He.fAd K ("mirrored_text", none)) fd_mirrored_text := ⟨ok_mirr Z TB F_mirrored_text Cex, He.glo_ok X G (c.t.d.fact 33 (f := .glo "mirrored_text") rfl), F_mirrored_text.kp, (FunD.bindsN (ps := ["text"]) F_mirrored_text fun _ _ _ _ _ _ us hl => match us, hl with | [_], _ => rfl)⟩
    have Ctu : Cal PySem.Challenge.rw_everylemma_k09_looks_read.prog w K mg base CX0 2 "turned_text" ["text"] (spText (exch turn)) (He.fAd K ("turned_text", none)) fd_turned_text := ⟨ok_turn Z TB F_turned_text Cex, He.glo_ok X G (c.t.d.fact 34 (f := .glo "turned_text") rfl), F_turned_text.kp, (FunD.bindsN (ps := ["text"]) F_turned_text fun _ _ _ _ _ _ us hl => match us, hl with | [_], _ => rfl)⟩
    have BI : BadI PySem.Challenge.rw_everylemma_k09_looks_read.prog w K mg base (He.fAd K ("BadLook", some "__init__")) fd_BadLookX_initX := ⟨ok_bad F_BadLookX_initX, dget c.more 42 rfl, dget c.more 43 rfl, (FunD.bindsN (ps := ["self", "at", "why"]) F_BadLookX_initX fun _ _ _ _ _ _ us hl => match us, hl with | [_, _, _], _ => rfl)⟩
    have OL := ok_linit (P := PySem.Challenge.rw_everylemma_k09_looks_read.prog) (w := w) (base := base) Z LK ER F_LookX_initX BI Cbo Csi Cfa Cde
    obtain ⟨ds, hd1, hd2⟩ := bind_pos F_LookX_initX
    obtain ⟨m1, hb1⟩ := bind_own F_LookX_initX
    obtain ⟨m2, hb2⟩ := bind_text F_LookX_initX
    have LM : LkM PySem.Challenge.rw_everylemma_k09_looks_read.prog w K mg base (He.fAd K ("Look", some "__init__")) fd_LookX_initX ds m1 m2 := ⟨He.mkr_ok (c.t.d.fact 70 (f := .mkr "Look") rfl), OL, He.glo_ok X G (c.t.d.fact 35 (f := .glo "Look") rfl), hd2, hd1, hb1, hb2⟩
    have ME := He.meth_ok (c.t.d.fact 77 (f := .meth "Look" "__eq__") rfl)
    have EQ : EqM PySem.Challenge.rw_everylemma_k09_looks_read.prog w K mg base (He.fAd K ("Look", some "__eq__")) fd_LookX_eqX := ⟨ok_leq Z LK F_LookX_eqX, ME.at_, ME.fn, (FunD.bindsN (ps := ["self", "other"]) F_LookX_eqX fun _ _ _ _ _ _ us hl => match us, hl with | [_, _], _ => rfl)⟩
    have MM : LMeth PySem.Challenge.rw_everylemma_k09_looks_read.prog w K mg base "mirrored" (spMove K mirr) (He.fAd K ("Look", some "mirrored")) fd_Look_mirrored := ⟨ok_lmirr LK F_Look_mirrored LM Cmi, He.meth_ok (c.t.d.fact 75 (f := .meth "Look" "mirrored") rfl), (FunD.bindsN (ps := ["self"]) F_Look_mirrored fun _ _ _ _ _ _ us hl => match us, hl with | [_], _ => rfl)⟩
    have MT : LMeth PySem.Challenge.rw_everylemma_k09_looks_read.prog w K mg base "turned_about" (spMove K turn) (He.fAd K ("Look", some "turned_about")) fd_Look_turned_about := ⟨ok_lturn LK F_Look_turned_about LM Ctu, He.meth_ok (c.t.d.fact 76 (f := .meth "Look" "turned_about") rfl), (FunD.bindsN (ps := ["self"]) F_Look_turned_about fun _ _ _ _ _ _ us hl => match us, hl with | [_], _ => rfl)⟩
    have Cl : Cal PySem.Challenge.rw_everylemma_k09_looks_read.prog w K mg base CX0 5 "_law_told" ["told", "body", "many_of", "deepest"] (spTold K) (He.fAd K ("_law_told", none)) fd_law_told := ⟨ok_told Z LK F_law_told LM EQ Cs, He.glo_ok X G (c.t.d.fact 49 (f := .glo "_law_told") rfl), F_law_told.kp, (FunD.bindsN (ps := ["told", "body", "many_of", "deepest"]) F_law_told fun _ _ _ _ _ _ us hl => match us, hl with | [_, _, _, _], _ => rfl)⟩
    have G1 := ok_classes (P := PySem.Challenge.rw_everylemma_k09_looks_read.prog) (w := w) (base := base) Z ER F_law_classes
    have G2 := ok_caught (P := PySem.Challenge.rw_everylemma_k09_looks_read.prog) (w := w) (base := base) Z ER F_law_caught G1 (He.glo_ok X G (c.t.d.fact 40 (f := .glo "_law_classes") rfl)) F_law_classes.kp (FunD.bindsN (ps := ["error"]) F_law_classes fun _ _ _ _ _ _ us hl => match us, hl with | [_], _ => rfl)
    have RF : RefF PySem.Challenge.rw_everylemma_k09_looks_read.prog w K mg base (He.fAd K ("_law_refused", none)) fd_law_refused := ⟨fun f0 c' q Hm sm tl LA => ok_refused ER F_law_refused (He.glo_ok X G (c.t.d.fact 42 (f := .glo "_law_tried") rfl)) F_law_tried.kp (FunD.bindsN (ps := ["call"]) F_law_tried fun _ _ _ _ _ _ us hl => match us, hl with | [_], _ => rfl) Cs (ok_tried ER F_law_tried G2 (He.glo_ok X G (c.t.d.fact 41 (f := .glo "_law_caught") rfl)) F_law_caught.kp (FunD.bindsN (ps := ["error"]) F_law_caught fun _ _ _ _ _ _ us hl => match us, hl with | [_], _ => rfl) LA), He.glo_ok X G (c.t.d.fact 43 (f := .glo "_law_refused") rfl), F_law_refused.kp, (FunD.bindsN (ps := ["call", "due"]) F_law_refused fun _ _ _ _ _ _ us hl => match us, hl with | [_, _], _ => rfl)⟩
    exact ok_law F_law Z LK LM EQ RF (hTB _ (List.mem_singleton.mpr rfl)) MM MT Cj Cd Ct Cy Ce Cx Cr Cl Cb Cp
end K9
open PySem PySem.W PySem.Calls PyProof.Rows
theorem PySem.Challenge.cw_everylemma_k09_looks_read_holds : PySem.Challenge.rw_everylemma_k09_looks_read.Holds := by
  w_on; o_law
  refine HandSHeadRun.head_any (r := OpenLaw.row PySem.Challenge.rw_everylemma_k09_looks_read) (q := view (OpenLaw.row PySem.Challenge.rw_everylemma_k09_looks_read).prog [56]) (H := K9.hk) (ob := K9.ob) (M := 8000) (loose := K9.names1 ++ K9.names2) (d := HandSHeadRun.topDef (OpenLaw.row PySem.Challenge.rw_everylemma_k09_looks_read).prog 56) (kwd := []) K9.ob_eq
    (by kernel_rfl) (fun s => by kernel_rfl) K9.run (by kernel_rfl) (by kernel_rfl) (by kernel_rfl) (by rfl) (by first | assumption | decide +kernel) (by decide +kernel) ⟨rfl, rfl, rfl, rfl, rfl, by decide +kernel⟩ ?hw ?hc
  case hw => w_witness2
  case hc =>
    refine LamX.walk_ofTsE (l := PySem.Challenge.rw_everylemma_k09_looks_read) (n := 63) (k := 9) (x := "script") (CX := fun _ => L2.CX0) rfl (by decide) (by kernel_rfl) ⟨rfl, by decide, by decide⟩ ?F (fun _ _ _ _ _ z => z)
    intro w mg fa h Y G hmg0
    obtain ⟨K, KX, c⟩ := Y
    have hmg : mg ("law" : PySem.Str) = some (.ref fa) := by
      have e : (HandSHeadRun.topDef (OpenLaw.row PySem.Challenge.rw_everylemma_k09_looks_read).prog 56).name = ("law" : PySem.Str) := by kernel_rfl
      rw [← e]
      exact hmg0
    exact ⟨K, KX, K9.law_at c KX G hmg⟩
