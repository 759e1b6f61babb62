import PyProof.Rows.All
import Wide.All
import OpenK.AllK
import Wide.FinOn
import HandS.ForMost
import PySem.Challenge.RW_cutworths_k04_whole_maps_that_keep
import KE.KStateDown
import HandS.Exc
import HandS.ExcInit
import HandS.Defaults
import HandS.Head0
import HandS.Head1
import HandS.Head2
import HandS.HeadEnd
import HandS.HeadHook1
import HandS.HeadHook2
import HandS.TryOnly
import HandS.CallSlots
import HandS.IsInst
import HandS.Conv
import HandS.Evl
import HandS.Steps
import HandS.Deep
import HandS.TupAny
import HandS.GenList
import KE.GoesEnum
import PyProof.StrOps2
import PyProof.WalksMore
import HandS.ExcOwn
import PyProof.GenComp
import PyProof.P3Eq
set_option Elab.async false
set_option linter.all false
set_option maxRecDepth 100000
set_option maxHeartbeats 0
/-! ## KText: the text's defs by their places in the row -/
namespace KM
open PySem PySem.Spec PyProof.Rows L2
def top (i : Nat) : Stmt := PySem.Challenge.pw_cutworths_k04_whole_maps_that_keep.main.body.getD i (.Pass ⟨0, 0, 0, 0⟩)
abbrev s_BadMap_init : Stmt := inClass (top 4) 0
abbrev s_TooMany_init : Stmt := inClass (top 5) 0
abbrev s_checked_rows : Stmt := top 7
abbrev s_check_order : Stmt := top 8
abbrev s_turned_rows : Stmt := top 9
abbrev s_least_above : Stmt := top 10
abbrev s_bound_rows : Stmt := top 11
abbrev s_lower_covers : Stmt := top 12
abbrev s_Lattice_init : Stmt := inClass (top 13) 0
abbrev s_Lattice_join_of : Stmt := inClass (top 13) 2
abbrev s_Lattice_meet_of : Stmt := inClass (top 13) 3
abbrev s_check_map : Stmt := top 15
abbrev s_spoilt_word : Stmt := top 16
abbrev s_map_fault : Stmt := top 17
abbrev s_keeps_ends : Stmt := top 18
abbrev s_all_maps : Stmt := top 19
abbrev s_l_hand : Stmt := top 21
abbrev s_l_mixed : Stmt := top 22
abbrev s_l_take : Stmt := top 23
abbrev s_l_whole : Stmt := top 24
abbrev s_l_lattice : Stmt := top 25
abbrev s_l_bound : Stmt := top 26
abbrev s_l_lowers : Stmt := top 27
abbrev s_l_drawn_lowers : Stmt := top 28
abbrev s_l_power : Stmt := top 29
abbrev s_l_of_mask : Stmt := top 30
abbrev s_l_drawn_family : Stmt := top 31
abbrev s_l_shuffled : Stmt := top 32
abbrev s_l_distributive : Stmt := top 33
abbrev s_l_value : Stmt := top 34
abbrev s_l_spoilt : Stmt := top 35
abbrev s_l_fault_of_map : Stmt := top 36
abbrev s_l_asked : Stmt := top 37
abbrev s_l_all : Stmt := top 38
abbrev s_l_drawn_map : Stmt := top 39
abbrev s_l_one_map : Stmt := top 40
abbrev s_l_within : Stmt := top 41
abbrev s_l_all_due : Stmt := top 42
abbrev s_law : Stmt := top 43
end KM

/-! ## KHead: the head: facts by names, the run of the top -/
namespace KM
open PySem PySem.Spec PyProof.Rows L2

def d_BadMap_init : He.DefD := ⟨("BadMap", some "__init__"), "__init__", "BadMap.__init__", defArgs s_BadMap_init, defBody s_BadMap_init, defScope s_BadMap_init, [], []⟩
def d_TooMany_init : He.DefD := ⟨("TooMany", some "__init__"), "__init__", "TooMany.__init__", defArgs s_TooMany_init, defBody s_TooMany_init, defScope s_TooMany_init, [], []⟩
def d_checked_rows : He.DefD := ⟨("checked_rows", none), "checked_rows", "checked_rows", defArgs s_checked_rows, defBody s_checked_rows, defScope s_checked_rows, [], []⟩
def d_check_order : He.DefD := ⟨("check_order", none), "check_order", "check_order", defArgs s_check_order, defBody s_check_order, defScope s_check_order, [], []⟩
def d_turned_rows : He.DefD := ⟨("turned_rows", none), "turned_rows", "turned_rows", defArgs s_turned_rows, defBody s_turned_rows, defScope s_turned_rows, [], []⟩
def d_least_above : He.DefD := ⟨("least_above", none), "least_above", "least_above", defArgs s_least_above, defBody s_least_above, defScope s_least_above, [], []⟩
def d_bound_rows : He.DefD := ⟨("bound_rows", none), "bound_rows", "bound_rows", defArgs s_bound_rows, defBody s_bound_rows, defScope s_bound_rows, [], []⟩
def d_lower_covers : He.DefD := ⟨("lower_covers", none), "lower_covers", "lower_covers", defArgs s_lower_covers, defBody s_lower_covers, defScope s_lower_covers, [], []⟩
def d_Lattice_init : He.DefD := ⟨("Lattice", some "__init__"), "__init__", "Lattice.__init__", defArgs s_Lattice_init, defBody s_Lattice_init, defScope s_Lattice_init, [], []⟩
def d_Lattice_join_of : He.DefD := ⟨("Lattice", some "join_of"), "join_of", "Lattice.join_of", defArgs s_Lattice_join_of, defBody s_Lattice_join_of, defScope s_Lattice_join_of, [], []⟩
def d_Lattice_meet_of : He.DefD := ⟨("Lattice", some "meet_of"), "meet_of", "Lattice.meet_of", defArgs s_Lattice_meet_of, defBody s_Lattice_meet_of, defScope s_Lattice_meet_of, [], []⟩
def d_check_map : He.DefD := ⟨("check_map", none), "check_map", "check_map", defArgs s_check_map, defBody s_check_map, defScope s_check_map, [], []⟩
def d_spoilt_word : He.DefD := ⟨("spoilt_word", none), "spoilt_word", "spoilt_word", defArgs s_spoilt_word, defBody s_spoilt_word, defScope s_spoilt_word, [], []⟩
def d_map_fault : He.DefD := ⟨("map_fault", none), "map_fault", "map_fault", defArgs s_map_fault, defBody s_map_fault, defScope s_map_fault, [], []⟩
def d_keeps_ends : He.DefD := ⟨("keeps_ends", none), "keeps_ends", "keeps_ends", defArgs s_keeps_ends, defBody s_keeps_ends, defScope s_keeps_ends, [], []⟩
def d_all_maps : He.DefD := ⟨("all_maps", none), "all_maps", "all_maps", defArgs s_all_maps, defBody s_all_maps, defScope s_all_maps, [], []⟩
def d_l_hand : He.DefD := ⟨("_law_hand", none), "_law_hand", "_law_hand", defArgs s_l_hand, defBody s_l_hand, defScope s_l_hand, [], []⟩
def d_l_mixed : He.DefD := ⟨("_law_mixed", none), "_law_mixed", "_law_mixed", defArgs s_l_mixed, defBody s_l_mixed, defScope s_l_mixed, [], []⟩
def d_l_take : He.DefD := ⟨("_law_take", none), "_law_take", "_law_take", defArgs s_l_take, defBody s_l_take, defScope s_l_take, [], []⟩
def d_l_whole : He.DefD := ⟨("_law_whole", none), "_law_whole", "_law_whole", defArgs s_l_whole, defBody s_l_whole, defScope s_l_whole, [], []⟩
def d_l_lattice : He.DefD := ⟨("_law_lattice", none), "_law_lattice", "_law_lattice", defArgs s_l_lattice, defBody s_l_lattice, defScope s_l_lattice, [], []⟩
def d_l_bound : He.DefD := ⟨("_law_bound", none), "_law_bound", "_law_bound", defArgs s_l_bound, defBody s_l_bound, defScope s_l_bound, [], []⟩
def d_l_lowers : He.DefD := ⟨("_law_lowers", none), "_law_lowers", "_law_lowers", defArgs s_l_lowers, defBody s_l_lowers, defScope s_l_lowers, [], []⟩
def d_l_drawn_lowers : He.DefD := ⟨("_law_drawn_lowers", none), "_law_drawn_lowers", "_law_drawn_lowers", defArgs s_l_drawn_lowers, defBody s_l_drawn_lowers, defScope s_l_drawn_lowers, [], []⟩
def d_l_power : He.DefD := ⟨("_law_power", none), "_law_power", "_law_power", defArgs s_l_power, defBody s_l_power, defScope s_l_power, [], []⟩
def d_l_of_mask : He.DefD := ⟨("_law_of_mask", none), "_law_of_mask", "_law_of_mask", defArgs s_l_of_mask, defBody s_l_of_mask, defScope s_l_of_mask, [], []⟩
def d_l_drawn_family : He.DefD := ⟨("_law_drawn_family", none), "_law_drawn_family", "_law_drawn_family", defArgs s_l_drawn_family, defBody s_l_drawn_family, defScope s_l_drawn_family, [], []⟩
def d_l_shuffled : He.DefD := ⟨("_law_shuffled", none), "_law_shuffled", "_law_shuffled", defArgs s_l_shuffled, defBody s_l_shuffled, defScope s_l_shuffled, [], []⟩
def d_l_distributive : He.DefD := ⟨("_law_distributive", none), "_law_distributive", "_law_distributive", defArgs s_l_distributive, defBody s_l_distributive, defScope s_l_distributive, [], []⟩
def d_l_value : He.DefD := ⟨("_law_value", none), "_law_value", "_law_value", defArgs s_l_value, defBody s_l_value, defScope s_l_value, [], []⟩
def d_l_spoilt : He.DefD := ⟨("_law_spoilt", none), "_law_spoilt", "_law_spoilt", defArgs s_l_spoilt, defBody s_l_spoilt, defScope s_l_spoilt, [], []⟩
def d_l_fault_of_map : He.DefD := ⟨("_law_fault_of_map", none), "_law_fault_of_map", "_law_fault_of_map", defArgs s_l_fault_of_map, defBody s_l_fault_of_map, defScope s_l_fault_of_map, [], []⟩
def d_l_asked : He.DefD := ⟨("_law_asked", none), "_law_asked", "_law_asked", defArgs s_l_asked, defBody s_l_asked, defScope s_l_asked, [], []⟩
def d_l_all : He.DefD := ⟨("_law_all", none), "_law_all", "_law_all", defArgs s_l_all, defBody s_l_all, defScope s_l_all, [], []⟩
def d_l_drawn_map : He.DefD := ⟨("_law_drawn_map", none), "_law_drawn_map", "_law_drawn_map", defArgs s_l_drawn_map, defBody s_l_drawn_map, defScope s_l_drawn_map, [], []⟩
def d_l_one_map : He.DefD := ⟨("_law_one_map", none), "_law_one_map", "_law_one_map", defArgs s_l_one_map, defBody s_l_one_map, defScope s_l_one_map, [], []⟩
def d_l_within : He.DefD := ⟨("_law_within", none), "_law_within", "_law_within", defArgs s_l_within, defBody s_l_within, defScope s_l_within, [], []⟩
def d_l_all_due : He.DefD := ⟨("_law_all_due", none), "_law_all_due", "_law_all_due", defArgs s_l_all_due, defBody s_l_all_due, defScope s_l_all_due, [], []⟩
def d_law : He.DefD := ⟨("law", none), "law", "law", defArgs s_law, defBody s_law, defScope s_law, [], []⟩
def fn1 : List He.DefD := [d_BadMap_init, d_TooMany_init, d_checked_rows, d_check_order, d_turned_rows, d_least_above, d_bound_rows, d_lower_covers, d_Lattice_init, d_Lattice_join_of, d_Lattice_meet_of, d_check_map, d_spoilt_word, d_map_fault, d_keeps_ends, d_all_maps, d_l_hand, d_l_mixed, d_l_take]
def fn2 : List He.DefD := [d_l_whole, d_l_lattice, d_l_bound, d_l_lowers, d_l_drawn_lowers, d_l_power, d_l_of_mask, d_l_drawn_family, d_l_shuffled, d_l_distributive, d_l_value, d_l_spoilt, d_l_fault_of_map, d_l_asked, d_l_all, d_l_drawn_map, d_l_one_map, d_l_within, d_l_all_due, d_law]
def fn : List He.DefD := fn1 ++ fn2
def fa1 : List He.Fa := [.glo "WorthError", .glo "BadLattice", .glo "BadMap", .glo "TooMany", .glo "checked_rows", .glo "check_order", .glo "turned_rows", .glo "least_above", .glo "bound_rows", .glo "lower_covers", .glo "Lattice", .glo "check_map", .glo "spoilt_word", .glo "map_fault", .glo "keeps_ends", .glo "all_maps", .glo "_law_hand", .glo "_law_mixed", .glo "_law_take", .glo "_law_whole", .glo "_law_lattice", .glo "_law_bound", .glo "_law_lowers", .glo "_law_drawn_lowers", .glo "_law_power"]
def fa2 : List He.Fa := [.glo "_law_of_mask", .glo "_law_drawn_family", .glo "_law_shuffled", .glo "_law_distributive", .glo "_law_value", .glo "_law_spoilt", .glo "_law_fault_of_map", .glo "_law_asked", .glo "_law_all", .glo "_law_drawn_map", .glo "_law_one_map", .glo "_law_within", .glo "_law_all_due", .glo "law"]
def fa3 : List He.Fa := [.free "len", .free "range", .free "isinstance", .free "list", .free "tuple", .free "int", .free "bool", .free "enumerate", .free "abs", .free "all", .free "any", .free "ValueError", .cls "Lattice", .noat "Lattice" "table", .noat "Lattice" "size", .noat "Lattice" "join_rows", .noat "Lattice" "meet_rows", .noat "Lattice" "bottom", .noat "Lattice" "top", .noat "Lattice" "primes", .meth "Lattice" "join_of", .meth "Lattice" "meet_of", .mkr "Lattice", .exm "BadMap" "BadMap" true, .exm "TooMany" "TooMany" true]
def fa : List He.Fa := fa1 ++ (fa2 ++ fa3)
/-- what the raised classes want -/
def oexB (K : PySem.W.Frag) (x f : Str) : Bool := (match K.lookup (He.ga K x) with
  | some ⟨.type t, _, .cls cd, sl⟩ => decide (t = "type") && ((match cd.mro with
    | .ref C' :: bm => decide (C' = He.ga K x) && PySem.HandSPX.refsVE bm
    | _ => false) && (cd.hasDict && (!cd.hasDel && (match sl.toList with
      | [_, _, _, _, some (.builtin n), _] => decide (n = "ValueError.__new__")
      | _ => false))))
  | _ => false) &&
  (He.eqO (PySem.W.findIn K (.ref (He.ga K x)) "__setattr__") (some (some (.builtin "object.__setattr__"))) &&
  (decide (PySem.W.subIn K (.ref (He.ga K x)) (.type "BaseException") = some true) &&
  (decide (PySem.W.typeIn K (.ref (He.ga K x)) = some (.type "type")) &&
  (PySem.W.keepIn K (.ref (He.ga K x)) &&
  (He.eqO (PySem.W.findIn K (.ref (He.ga K x)) "__getattribute__") (some (some (.builtin "BaseException.__getattribute__"))) &&
  (He.eqO (PySem.W.findIn K (.ref (He.ga K x)) "__getattr__") (some none) &&
  (He.eqO (PySem.W.findIn K (.ref (He.ga K x)) f) (some none) &&
  (PySem.W.hasDictIn K (He.ga K x) &&
  (He.eqO (PySem.W.findIn K (.ref (He.ga K x)) "__init__") (some (some (.ref (He.ma K (He.ga K x) "__init__")))) &&
  (decide (PySem.W.typeIn K (.ref (He.ma K (He.ga K x) "__init__")) = some (.type "function")) &&
  decide (PySem.W.subIn K (.ref (He.ga K x)) (.type "StopIteration") = some false)))))))))))
def worthB (K : PySem.W.Frag) : Bool := PySem.W.readsIn K (He.ga K "WorthError") (.type "type") && (PySem.W.keepIn K (.ref (He.ga K "WorthError")) &&
  (He.eqO (PySem.W.specialIn K (.ref (He.ga K "WorthError")) "__getattribute__") (some (some (.builtin "type.__getattribute__"))) &&
  (match PySem.W.findCls K (.ref (He.ga K "WorthError")) (.type "type") "__init__" with
    | some (.val (.builtin n)) => decide (n = "ValueError.__init__")
    | _ => false)))
def exB (K : PySem.W.Frag) : Bool := oexB K "BadMap" "index" && (oexB K "TooMany" "most" && worthB K)
/-! ## KHead: ### the Hook -/
abbrev AlM : Type := He.AlD × Bool
def obsM (n : Nat) (g : Addr → Option Obj) : AlM := (He.obsD fa fn (He.frG g (PySem.cStatics :: He.asD g n)), exB (He.frG g (PySem.cStatics :: He.asD g n)))
def hookM (n : Nat) : PySem.W.Hook where
  α := AlM
  obs := fun s => obsM n s.heap.get?
  val := fun _ => (He.valD fn, true)
  says := fun _ h => ∃ K : PySem.W.Frag, K.In h ∧ He.SaysD fa fn K ∧ exB K = true
  of := fun _ _ e => ⟨_, He.frG_in, congrArg (fun z : AlM => z.1) e, congrArg (fun z : AlM => z.2) e⟩
  keeps := fun _ _ _ ⟨K, hK, c⟩ k => ⟨K, PySem.W.Frag.In.keeps hK k, c⟩
theorem obsM_eq {n : Nat} {g : Addr → Option Obj} {s : Shared} (h : ∀ a, g a = s.heap.get? a) : obsM n g = (hookM n).obs s := by
  have e : g = s.heap.get? := funext h
  rw [e] <;> rfl
abbrev R : PySem.W.OpenRow := PySem.W.OpenLaw.row PySem.Challenge.rw_cutworths_k04_whole_maps_that_keep
abbrev hk : PySem.W.Hook := hookM 5
def ob (s : PySem.W.SharedT) : AlM := obsM 5 (HandSHeadRun.getT s)
theorem ob_eq (s : PySem.W.SharedT) : ob s = hk.obs s.abs := obsM_eq (HandSHeadRun.getT_eq s)

def loose1 : List PySem.Str := ["_wall", "WorthError", "BadLattice", "BadMap", "TooMany", "checked_rows", "check_order", "turned_rows", "least_above", "bound_rows", "lower_covers", "Lattice", "check_map", "spoilt_word", "map_fault", "keeps_ends", "all_maps", "_law_hand", "_law_mixed", "_law_take"]
def loose2 : List PySem.Str := ["_law_whole", "_law_lattice", "_law_bound", "_law_lowers", "_law_drawn_lowers", "_law_power", "_law_of_mask", "_law_drawn_family", "_law_shuffled", "_law_distributive", "_law_value", "_law_spoilt", "_law_fault_of_map", "_law_asked", "_law_all", "_law_drawn_map", "_law_one_map", "_law_within", "_law_all_due"]
def loose : List PySem.Str := loose1 ++ loose2
theorem run (w : World) : HandSHeadRun.RunEq R (PySem.W.view R.prog [43]) hk ob 3000 loose w := by
  intro os
  kernel_rfl
end KM

/-! ## KBase: the ground: what the text's names stand for, data in the heap, what evaluates to what -/
namespace KM
open PySem PySem.Spec PyProof.Rows L2 Evl
/-- the built-in names that the text leaves as they are -/
structure Tx (K : PySem.W.Frag) (mg : Str → Option Value) : Prop where
  m_len : mg "len" = none
  m_range : mg "range" = none
  m_isinstance : mg "isinstance" = none
  m_list : mg "list" = none
  m_tuple : mg "tuple" = none
  m_int : mg "int" = none
  m_bool : mg "bool" = none
  m_enumerate : mg "enumerate" = none
  m_abs : mg "abs" = none
  m_all : mg "all" = none
  m_any : mg "any" = none
/-- the def x keeps the promise sp -/
structure Has (P : Program) (w : World) (K : PySem.W.Frag) (mg : Str → Option Value) (base : Heap) (CX : CXT) (k : Nat) (x : Str) (ps : List Str) (sp : Sp) (f : Addr) (fd : FuncData) : Prop where
  g : mg x = some (.ref f)
  kp : PySem.W.keepIn K (.ref f) = true
  b : Binds K fd ps []
  ok : FnOk P w K mg base CX k f fd ps sp
/-- a def of the text, where it stands -/
abbrev At (K : PySem.W.Frag) (x qual : Str) (st : Stmt) (f : Addr) (fd : FuncData) : Prop := FunD K x qual (defArgs st) (defBody st) (defScope st) [] [] f fd
/-! ## KBase: ### data -/
/-- a row of rows: m1 the outer kind, m2 the inner one -/
def S2 (m1 m2 : List V → HO) (H : Hp) (a : Addr) (rows : List (List V)) : Prop := ∃ as : List Addr, H a = some (m1 (as.map V.ref)) ∧ Paired (fun b r => H b = some (m2 r)) as rows
theorem Paired.nth {α β : Type} {R : α → β → Prop} : ∀ {xs : List α} {ys : List β} {i : Nat} {y : β}, Paired R xs ys → ys[i]? = some y → ∃ x, xs[i]? = some x ∧ R x y
  | _, _, _, _, .nil, e => by simp at e
  | _, _, 0, y, .cons r _, e => by
    simp at e
    subst e
    exact ⟨_, rfl, r⟩
  | _, _, i + 1, y, .cons _ t, e => by
    obtain ⟨x, h1, h2⟩ := Paired.nth (i := i) t (by simpa using e)
    exact ⟨x, by simpa using h1, h2⟩
theorem Paired.imp2 {α β : Type} {R S : α → β → Prop} : ∀ {xs : List α} {ys : List β}, Paired R xs ys → (∀ x y, y ∈ ys → R x y → S x y) → Paired S xs ys
  | _, _, .nil, _ => .nil
  | _, _, .cons r t, f => .cons (f _ _ List.mem_cons_self r) (Paired.imp2 t fun x y h => f x y (List.mem_cons_of_mem _ h))
theorem S2.len {m1 m2 : List V → HO} {H : Hp} {a : Addr} {rows : List (List V)} (h : S2 m1 m2 H a rows) : ∃ xs, H a = some (m1 xs) ∧ xs.length = rows.length := by
  obtain ⟨as, h1, h2⟩ := h
  exact ⟨_, h1, by rw [List.length_map]; exact Paired.length h2⟩
theorem S2.ex {m1 m2 : List V → HO} {H H' : Hp} {a : Addr} {rows : List (List V)} (e : Ex H H') (h : S2 m1 m2 H a rows) : S2 m1 m2 H' a rows := by
  obtain ⟨as, h1, h2⟩ := h
  exact ⟨as, e _ _ h1, Paired.imp2 h2 fun x y _ q => e _ _ q⟩
/-! ## KBase: ### more of what evaluates to what -/
section
variable {K : PySem.W.Frag} {σ : L2.St} {H H' : Hp} {ta tb tc te tx : TE} {t u : TT} {x y z v : V} {r : R2}
theorem rv_xL {p : Addr} {xs : List V} {i : Nat} (h : H p = some (.lst xs)) (ha : xs[i]? = some v) : RV (rIx K) (.ref p) (.int (i : Int)) H v := fun H1 e _ q => Or.inl ⟨p, xs, (i : Int), v, rfl, rfl, SqL.of (e _ _ h), atI_nat ha, q H1 (Ex.refl H1)⟩
theorem rv_xT {p : Addr} {xs : List V} {i : Nat} (h : H p = some (.tup xs)) (ha : xs[i]? = some v) : RV (rIx K) (.ref p) (.int (i : Int)) H v := fun H1 e _ q => Or.inr (Or.inl ⟨p, xs, (i : Int), v, rfl, rfl, SqT.of (e _ _ h), atI_nat ha, q H1 (Ex.refl H1)⟩)
/-- xs[i] -/
theorem ev_xL {p : Addr} {xs : List V} {i : Nat} (h1 : Ev ta σ H (.ref p)) (h2 : Ev tb σ H (.int (i : Int))) (h : H p = some (.lst xs)) (ha : xs[i]? = some v) : Ev (tOp (rIx K) ta tb) σ H v := ev_op h1 h2 (rv_xL h ha)
theorem ev_xT {p : Addr} {xs : List V} {i : Nat} (h1 : Ev ta σ H (.ref p)) (h2 : Ev tb σ H (.int (i : Int))) (h : H p = some (.tup xs)) (ha : xs[i]? = some v) : Ev (tOp (rIx K) ta tb) σ H v := ev_op h1 h2 (rv_xT h ha)
/-- t[i][j] of rows of rows -/
theorem ev_xLL {a : Addr} {rows : List (List V)} {row : List V} {i j : Nat} (h1 : Ev ta σ H (.ref a)) (h2 : Ev tb σ H (.int (i : Int))) (h3 : Ev tc σ H (.int (j : Int))) (h : S2 .lst .lst H a rows) (hi : rows[i]? = some row) (hj : row[j]? = some v) :
    Ev (tOp (rIx K) (tOp (rIx K) ta tb) tc) σ H v := by
  obtain ⟨as, e1, e2⟩ := h
  obtain ⟨b, e3, e4⟩ := Paired.nth e2 hi
  exact ev_xL (ev_xL h1 h2 e1 (by rw [List.getElem?_map, e3]; rfl)) h3 e4 hj
theorem ev_xTT {a : Addr} {rows : List (List V)} {row : List V} {i j : Nat} (h1 : Ev ta σ H (.ref a)) (h2 : Ev tb σ H (.int (i : Int))) (h3 : Ev tc σ H (.int (j : Int))) (h : S2 .tup .tup H a rows) (hi : rows[i]? = some row) (hj : row[j]? = some v) :
    Ev (tOp (rIx K) (tOp (rIx K) ta tb) tc) σ H v := by
  obtain ⟨as, e1, e2⟩ := h
  obtain ⟨b, e3, e4⟩ := Paired.nth e2 hi
  exact ev_xT (ev_xT h1 h2 e1 (by rw [List.getElem?_map, e3]; rfl)) h3 e4 hj
/-- [..][0] of a list that is just made -/
theorem ev_x0 {xs : List V} (h1 : EvL ta σ H xs) (ha : xs[0]? = some v) : Ev (tOp (rIx K) ta (tC (.int 0))) σ H v :=
  ev_opL1 (y := .int ((0 : Nat) : Int)) h1 (fun _ _ => ev_c) fun p H1 hp _ => rv_xL hp ha
theorem ev_fld {a C dx : Addr} {fs : List (Str × V)} {f : Str} (h : Ev ta σ H (.ref a)) (ho : H a = some (.ins C dx fs)) (hc : Cls K C) (hn : NoAttr K C f) (hl : fs.lookup f = some v) : Ev (tFld K ta f) σ H v := fun H1 e _ q =>
  h H1 e _ fun H2 e2 => ⟨a, C, dx, fs, v, rfl, e2 _ _ (e _ _ ho), hc, hn, hl, q H2 e2⟩
theorem ev_meth {a C dx : Addr} {fs : List (Str × V)} {m : Str} {sp : Sp} {vs : List V} {tt : TA} (h : Ev ta σ H (.ref a)) (ho : H a = some (.ins C dx fs)) (hl : fs.lookup m = none) (hA : EvA tt σ H vs) (hs : SpV sp (.ref a :: (vs ++ [])) H z) :
    Ev (tMeth C m sp [] E0 ta tt) σ H z := fun H1 e Q q =>
  h H1 e _ fun H2 e2 => ⟨a, dx, fs, rfl, e2 _ _ (e _ _ ho), hl, hA H2 (e.trans e2) _ fun H3 e3 => hs H3 ((e.trans e2).trans e3) Q (fun H4 e4 => q H4 ((e2.trans e3).trans e4)) E0⟩
/-- a test that is a bool's truth -/
theorem et_tru {b : Bool} (h : Ev ta σ H (.bl b)) : EvT (tTru K ta) σ H b := fun H1 e Q q => h H1 e _ fun H2 e2 => ⟨b, rfl, q H2 e2⟩
theorem et_yes : EvT tYes σ H true := fun H1 _ Q q => q H1 (Ex.refl H1)
theorem ev_int {i : Int} {tr : TA} (h : EvA tr σ H [.int i]) : Ev (tCB (fun xs H Q => (∃ i, xs = [.int i] ∧ Q (.int i) H) ∨ ∃ k, xs = [.bl k] ∧ Q (.int (if k then 1 else 0)) H) tr) σ H (.int i) :=
  ev_cb h fun H1 _ Q q => Or.inl ⟨i, rfl, q H1 (Ex.refl H1)⟩
theorem ev_intB {k : Bool} {tr : TA} (h : EvA tr σ H [.bl k]) : Ev (tCB (fun xs H Q => (∃ i, xs = [.int i] ∧ Q (.int i) H) ∨ ∃ k, xs = [.bl k] ∧ Q (.int (if k then 1 else 0)) H) tr) σ H (.int (if k then 1 else 0)) :=
  ev_cb h fun H1 _ Q q => Or.inr ⟨k, rfl, q H1 (Ex.refl H1)⟩
theorem ev_lenL {p : Addr} {xs : List V} {tr : TA} (ha : EvA tr σ H [.ref p]) (h : H p = some (.lst xs)) : Ev (tCB (rLenS K) tr) σ H (.int (xs.length : Int)) :=
  ev_cb ha fun H1 e Q q => ⟨p, xs, rfl, Or.inl (SqL.of (e _ _ h)), q H1 (Ex.refl H1)⟩
theorem ev_lenT {p : Addr} {xs : List V} {tr : TA} (ha : EvA tr σ H [.ref p]) (h : H p = some (.tup xs)) : Ev (tCB (rLenS K) tr) σ H (.int (xs.length : Int)) :=
  ev_cb ha fun H1 e Q q => ⟨p, xs, rfl, Or.inr (SqT.of (e _ _ h)), q H1 (Ex.refl H1)⟩
theorem ev_allN {bs : List Bool} (ha : EvL ta σ H (bs.map V.bl)) : Ev (tCB (rAll K) (tCons ta tNil)) σ H (.bl (bs.all id)) := fun H1 e Q q =>
  ha H1 e _ fun p H2 _ e2 h2 => ⟨p, bs, rfl, SqL.of h2, q H2 e2⟩
theorem ev_anyN {bs : List Bool} (ha : EvL ta σ H (bs.map V.bl)) : Ev (tCB (rAny K) (tCons ta tNil)) σ H (.bl (bs.any id)) := fun H1 e Q q =>
  ha H1 e _ fun p H2 _ e2 h2 => ⟨p, bs, rfl, SqL.of h2, q H2 e2⟩
/-- tuple(a list that is just made) -/
def rTupS (K : PySem.W.Frag) : List V → Hp → VK → Prop := fun xs H Q => ∃ p ys, xs = [.ref p] ∧ ((SqL K H p ys ∧ ∀ l, H l = none → Q (.ref l) (upd H l (.tup ys))) ∨ (SqT K H p ys ∧ Q (.ref p) H))
theorem eu_tupN {xs : List V} (ha : EvL ta σ H xs) : EvU (tCB (rTupS K) (tCons ta tNil)) σ H xs := fun H1 e Q q =>
  ha H1 e _ fun p H2 hp e2 h2 => ⟨p, xs, rfl, Or.inl ⟨SqL.of h2, fun l hl => q l _ (fresh_back e2 hl) (e2.trans (Ex.new hl)) upd_same⟩⟩
theorem eu_tupL {xs : List V} {p : Addr} {tr : TA} (ha : EvA tr σ H [.ref p]) (h : H p = some (.lst xs)) : EvU (tCB (rTupS K) tr) σ H xs := fun H1 e Q q =>
  ha H1 e _ fun H2 e2 => ⟨p, xs, rfl, Or.inl ⟨SqL.of (e2 _ _ (e _ _ h)), fun l hl => q l _ (fresh_back e2 hl) (e2.trans (Ex.new hl)) upd_same⟩⟩
/-- list(range(n)) -/
def nats (n : Nat) : List V := (List.range n).map fun (i : Nat) => V.int (i : Int)
theorem rgV_nats (n : Nat) : rgV 0 (n : Int) = nats n := by
  unfold rgV nats
  rw [show ((n : Int) - 0).toNat = n by omega]
  exact List.map_congr_left fun (i : Nat) _ => congrArg V.int (Int.zero_add (i : Int))
theorem el_lrg {n : Nat} (h : Ev ta σ H (.int (n : Int))) (hn : n ≤ 10000) : EvL (tLstRg (tRg1 ta)) σ H (nats n) := fun H1 e Q q =>
  h H1 e _ fun H2 e2 => ⟨(n : Int), rfl, RgOk.of_le (by omega) (by omega) (by omega) (by omega), fun l hl => q l _ (fresh_back e2 hl) (e2.trans (Ex.new hl)) (by rw [rgV_nats]; exact upd_same)⟩
theorem eu_trg {n : Nat} (h : Ev ta σ H (.int (n : Int))) (hn : n ≤ 10000) : EvU (tTupRg (tRg1 ta)) σ H (nats n) := fun H1 e Q q =>
  h H1 e _ fun H2 e2 => ⟨(n : Int), rfl, RgOk.of_le (by omega) (by omega) (by omega) (by omega), fun l hl => q l _ (fresh_back e2 hl) (e2.trans (Ex.new hl)) (by rw [rgV_nats]; exact upd_same)⟩
theorem nats_length (n : Nat) : (nats n).length = n := by
  unfold nats
  rw [List.length_map, List.length_range]
theorem nats_get {n i : Nat} (h : i < n) : (nats n)[i]? = some (.int (i : Int)) := by
  unfold nats
  rw [List.getElem?_map, List.getElem?_range h]
  rfl
theorem nats_at {n i : Nat} {x : V} (h : (nats n)[i]? = some x) : i < n ∧ x = .int (i : Int) := by
  have hi : i < n := by
    have q := (List.getElem?_eq_some_iff.mp h).1
    rw [nats_length] at q
    exact q
  rw [nats_get hi] at h
  exact ⟨hi, (Option.some.inj h).symm⟩
end
end KM

/-! ## KEv: more of what evaluates to what: comprehensions whose elements are new objects, over tuples -/
namespace KM
open PySem PySem.Spec PyProof.Rows L2 Evl
/-- a new object of the kind m -/
def EvN (m : List V → HO) (te : TE) (σ : L2.St) (H : Hp) (xs : List V) : Prop := ∀ H1, Ex H H1 → ∀ Q : VK, (∀ p H2, H1 p = none → Ex H1 H2 → H2 p = some (m xs) → Q (.ref p) H2) → te σ H1 Q
/-- a new object of the kind m1, its items of the kind m2 -/
def EvS (m1 m2 : List V → HO) (te : TE) (σ : L2.St) (H : Hp) (rows : List (List V)) : Prop := ∀ H1, Ex H H1 → ∀ Q : VK, (∀ p H2, H1 p = none → Ex H1 H2 → S2 m1 m2 H2 p rows → Q (.ref p) H2) → te σ H1 Q
theorem EvN.mono {m : List V → HO} {te : TE} {σ : L2.St} {H H' : Hp} {xs : List V} (e : Ex H H') (h : EvN m te σ H xs) : EvN m te σ H' xs := fun H1 a Q q => h H1 (e.trans a) Q q
theorem EvS.mono {m1 m2 : List V → HO} {te : TE} {σ : L2.St} {H H' : Hp} {rows : List (List V)} (e : Ex H H') (h : EvS m1 m2 te σ H rows) : EvS m1 m2 te σ H' rows := fun H1 a Q q => h H1 (e.trans a) Q q
/-- the rows of the first i turns -/
def rowsTo (i : Nat) (f : Nat → List V) : List (List V) := (List.range i).map f
theorem rowsTo_succ (i : Nat) (f : Nat → List V) : rowsTo (i + 1) f = rowsTo i f ++ [f i] := by
  unfold rowsTo
  rw [List.range_succ, List.map_append]
  rfl
theorem Paired.snoc {α β : Type} {R : α → β → Prop} : ∀ {xs : List α} {ys : List β} {x : α} {y : β}, Paired R xs ys → R x y → Paired R (xs ++ [x]) (ys ++ [y])
  | _, _, _, _, .nil, r => .cons r .nil
  | _, _, _, _, .cons a t, r => .cons a (Paired.snoc t r)
def CwS (m : List V → HO) (H : Hp) (f : Nat → List V) (Dl : Addr) (i : Nat) (H' : Hp) : Prop := H Dl = none ∧ Ex H H' ∧ ∃ as : List Addr, as.length = i ∧ H' Dl = some (.lst (as.map V.ref)) ∧ Paired (fun b r => b ≠ Dl ∧ H' b = some (m r)) as (rowsTo i f)
theorem CwS.start {m : List V → HO} {H : Hp} {f : Nat → List V} {Dl : Addr} (h : H Dl = none) : CwS m H f Dl 0 (upd H Dl (.lst [])) := ⟨h, Ex.new h, [], rfl, upd_same, .nil⟩
theorem CwS.turn {m : List V → HO} {H H' : Hp} {f : Nat → List V} {te : TE} {Dl : Addr} {i : Nat} {σ2 : L2.St} (p : CwS m H f Dl i H') (hi : i < 10000) (he : EvN m te σ2 H (f i)) :
    te σ2 H' fun y H4 => ∃ acc, H4 Dl = some (.lst acc) ∧ acc.length < sizeLine ∧ CwS m H f Dl (i + 1) (upd H4 Dl (.lst (acc ++ [y]))) := by
  obtain ⟨p1, p2, as, p3, p4, p5⟩ := p
  refine he H' p2 _ fun q H4 hq e4 h4 => ?_
  have nq : q ≠ Dl := fun z => by
    rw [z, p4] at hq
    cases hq
  refine ⟨as.map V.ref, e4 _ _ p4, ?_, p1, Ex.mut (p2.trans e4) p1, as ++ [q], ?_, ?_, ?_⟩
  · rw [List.length_map, p3]
    exact sz_lt (by omega)
  · rw [List.length_append, p3]
    rfl
  · rw [upd_same, List.map_append]
    rfl
  · rw [rowsTo_succ]
    refine Paired.snoc (Paired.imp2 p5 fun b r _ z => ⟨z.1, ?_⟩) ⟨nq, ?_⟩
    · rw [upd_ne z.1]
      exact e4 _ _ z.2
    · rw [upd_ne nq]
      exact h4
theorem CwS.done {m : List V → HO} {H H' : Hp} {f : Nat → List V} {Dl : Addr} {n : Nat} (p : CwS m H f Dl n H') : S2 .lst m H' Dl (rowsTo n f) := by
  obtain ⟨_, _, as, _, p4, p5⟩ := p
  exact ⟨as, p4, Paired.imp2 p5 fun _ _ _ z => z.2⟩
section
variable {K : PySem.W.Frag} {σ : L2.St} {H H' : Hp} {ta tb tc te tx tl : TE} {t u : TT} {x y z v : V} {r : R2} {m : List V → HO}
/-- [e for x in xs], each e a new object -/
theorem es_lcL {a : Addr} {xs : List V} {j : Nat} {vs : List Nat} (f : Nat → List V) (h : Ev tl σ H (.ref a)) (hx : H a = some (.lst xs)) (hz : xs.length ≤ 10000) (hw : ∀ x, wipe ((wipe σ vs).set j (some x)) vs = wipe σ vs)
    (he : ∀ (i : Nat) (x : V) H1, Ex H H1 → xs[i]? = some x → EvN m te ((wipe σ vs).set j (some x)) H1 (f i)) :
    EvS .lst m (tLc (iList K tl) (gName j) tYes te vs) σ H (rowsTo xs.length f) := fun H0 e Q q => h H0 e _ fun H1 e1 => ⟨a, rfl, ⟨xs, SqL.of ((e.trans e1) _ _ hx)⟩, fun Dl hD =>
  lc_list (xs := xs) (CwS m H1 f Dl) (CwS.start hD) (fun i H' _ p => SqL.of (((e.trans e1).trans p.2.1) _ _ hx))
    (fun i x H' hi p => ⟨hw x, CwS.turn p (by have := (List.getElem?_eq_some_iff.mp hi).1; omega) (he i x H1 (e.trans e1) hi)⟩)
    (fun H' p => q Dl H' (fresh_back e1 p.1) (e1.trans p.2.1) p.done)⟩
/-- [e for x in range(n)], each e a new object -/
theorem es_lcR {tr : TA} {n : Nat} {j : Nat} {vs : List Nat} (f : Nat → List V) (h : EvA tr σ H [.int (n : Int)]) (hn : n ≤ 10000) (hw : ∀ x, wipe ((wipe σ vs).set j (some x)) vs = wipe σ vs)
    (he : ∀ (i : Nat) H1, Ex H H1 → i < n → EvN m te ((wipe σ vs).set j (some (.int (i : Int)))) H1 (f i)) :
    EvS .lst m (tLc (iRng1 tr) (gName j) tYes te vs) σ H (rowsTo n f) := fun H0 e Q q => h H0 e _ fun H1 e1 => ⟨(n : Int), rfl, by omega, by omega, fun Dl hD =>
  lc_range (lo := 0) (n := ((n : Nat) : Int).toNat) (CwS m H1 f Dl) (CwS.start hD) (fun i H' hi p => by
    have e0 : (0 : Int) + (i : Int) = (i : Int) := Int.zero_add _
    have hi' : i < n := by omega
    show wipe ((wipe σ vs).set j (some (.int ((0 : Int) + (i : Int))))) vs = wipe σ vs ∧ te ((wipe σ vs).set j (some (.int ((0 : Int) + (i : Int))))) H' _
    rw [e0]
    exact ⟨hw _, CwS.turn p (by omega) (he i H1 (e.trans e1) hi')⟩) (fun H' p => by
    have p' : CwS m H1 f Dl n H' := p
    exact q Dl H' (fresh_back e1 p'.1) (e1.trans p'.2.1) p'.done)⟩
/-- tuple(of such) -/
theorem es_tup {rows : List (List V)} (h : EvS .lst m ta σ H rows) : EvS .tup m (tCB (rTupS K) (tCons ta tNil)) σ H rows := fun H1 e Q q =>
  h H1 e _ fun p H2 hp e2 ⟨as, h1, h2⟩ => ⟨p, as.map V.ref, rfl, Or.inl ⟨SqL.of h1, fun l hl => q l _ (fresh_back e2 hl) (e2.trans (Ex.new hl)) ⟨as, upd_same, Paired.imp2 h2 fun b r _ z => by
    rw [upd_ne (ne_of_none z hl)]
    exact z⟩⟩⟩
/-- [e for x in t if ..], t a tuple -/
theorem el_lcT {a : Addr} {xs : List V} {j : Nat} {vs : List Nat} (f : Nat → Bool) (v : Nat → V) (h : Ev tl σ H (.ref a)) (hx : H a = some (.tup xs)) (hz : xs.length ≤ 10000) (hw : ∀ x, wipe ((wipe σ vs).set j (some x)) vs = wipe σ vs)
    (ht : ∀ (i : Nat) (x : V) H1, Ex H H1 → xs[i]? = some x → EvT t ((wipe σ vs).set j (some x)) H1 (f i)) (he : ∀ (i : Nat) (x : V) H1, Ex H H1 → xs[i]? = some x → f i = true → Ev te ((wipe σ vs).set j (some x)) H1 (v i)) :
    EvL (tLc (iTup K tl) (gName j) t te vs) σ H (given xs.length f v) := fun H0 e Q q => h H0 e _ fun H1 e1 => ⟨a, rfl, ⟨xs, SqT.of ((e.trans e1) _ _ hx)⟩, fun Dl hD =>
  lc_tup (xs := xs) (Cw H1 f v Dl) ⟨hD, Ex.new hD, upd_same⟩ (fun i H' _ p => SqT.of (((e.trans e1).trans p.2.1) _ _ hx)) (fun i x H' hi p => ⟨hw x, cw_turn p (by have := (List.getElem?_eq_some_iff.mp hi).1; omega) (ht i x H1 (e.trans e1) hi) (fun hf => he i x H1 (e.trans e1) hi hf)⟩)
    (fun H' p => q Dl H' (fresh_back e1 p.1) (e1.trans p.2.1) p.2.2)⟩
/-- every turn gives -/
theorem given_all {n : Nat} {v : Nat → V} : given n (fun _ => true) v = (List.range n).map v := by
  unfold given
  rw [List.filter_eq_self.mpr fun _ _ => rfl]
theorem s_retS {D : Ends} {m1 m2 : List V → HO} {rows : List (List V)} (h : EvS m1 m2 te σ H rows) (k : ∀ p H1, H p = none → Ex H H1 → S2 m1 m2 H1 p rows → D.rt (.ref p) H1) : tRet te D σ H := h H (Ex.refl H) _ k
theorem s_asgS {D : Ends} {i : Nat} {m1 m2 : List V → HO} {rows : List (List V)} (h : EvS m1 m2 te σ H rows) (k : ∀ p H1, H p = none → Ex H H1 → S2 m1 m2 H1 p rows → D.nx (σ.set i (some (.ref p))) H1) : tAsg te (gName i) D σ H := h H (Ex.refl H) _ fun p H1 hp e h1 => k p H1 hp e h1
theorem q_asgS {D : Ends} {tz : TS} {i : Nat} {m1 m2 : List V → HO} {rows : List (List V)} (h : EvS m1 m2 te σ H rows) (k : ∀ p H1, H p = none → Ex H H1 → S2 m1 m2 H1 p rows → tz D (σ.set i (some (.ref p))) H1) : tSeq (tAsg te (gName i)) tz D σ H := s_asgS (D := { D with nx := tz D }) h k
end
/-- a promise that hands back a new object of objects -/
def RetS (m1 m2 : List V → HO) (rows : List (List V)) (H : Hp) (Q : VK) : Prop := ∀ p H2, H p = none → Ex H H2 → S2 m1 m2 H2 p rows → Q (.ref p) H2
theorem RetS.go {m1 m2 : List V → HO} {rows : List (List V)} {H H' : Hp} {Q : VK} (k : RetS m1 m2 rows H Q) (e : Ex H H') {p : Addr} {H2 : Hp} (hp : H' p = none) (e2 : Ex H' H2) (h : S2 m1 m2 H2 p rows) : Q (.ref p) H2 := k p H2 (fresh_back e hp) (e.trans e2) h
end KM

/-! ## KRule: the layer's rules with the written part said (within a comprehension X is another, its written part the same), some rules of this text's own -/
namespace KM
open PySem PySem.Spec PyProof.Rows L2 Evl
section
variable {X : Cx} {K : PySem.W.Frag}
theorem ixq (hK : X.K = K := by rfl) : IxR X (rIx K) := by
  subst hK
  exact ix_seq
theorem clen (hK : X.K = K := by rfl) : CallR X (.builtin "len") (rLenS K) := by
  subst hK
  exact call_len_seq
theorem clist (hK : X.K = K := by rfl) : CallR X (.type "list") (rListS K) := by
  subst hK
  exact call_list_of
theorem ctup (hK : X.K = K := by rfl) : CallR X (.type "tuple") (rTupS K) := by
  subst hK
  exact call_tuple_of
theorem callA (hc : X.calm = true) (hK : X.K = K := by rfl) : CallR X (.builtin "all") (rAll K) := by
  subst hK
  exact cr_all hc
theorem canyA (hc : X.calm = true) (hK : X.K = K := by rfl) : CallR X (.builtin "any") (rAny K) := by
  subst hK
  exact cr_any hc
theorem cisi (hK : X.K = K := by rfl) : CallR X (.builtin "isinstance") (rIsi K) := by
  subst hK
  exact call_isi
theorem cisiT (hK : X.K = K := by rfl) : CallR X (.builtin "isinstance") (rIsiT K) := by
  subst hK
  exact call_isiT
theorem onin (hK : X.K = K := by rfl) : OpR X (compareOp .NotIn) (rIn K true) := by
  subst hK
  exact op_notIn_seq
theorem oisin (hK : X.K = K := by rfl) : OpR X (compareOp .In) (rIn K false) := by
  subst hK
  exact op_in_seq
theorem oninD (hu : X.A.units + 65 < cLine) (hK : X.K = K := by rfl) : OpR X (compareOp .NotIn) (rNotInD K) := by
  subst hK
  exact op_notInD hu
theorem oneD (hu : X.A.units + 64 < cLine) (hK : X.K = K := by rfl) : OpR X (compareOp .NotEq) (rNeD K) := by
  subst hK
  exact op_neD hu
theorem ocatT (hK : X.K = K := by rfl) : OpR X (binaryOp .Add) (rCatA K) := by
  subst hK
  exact op_catA
theorem slL (hK : X.K = K := by rfl) : SlR X (rSlL K) := by
  subst hK
  exact sl_list
theorem piL {tg l : Expr} {tl : TE} (hl : PE X l tl) (hK : X.K = K := by rfl) : PI X tg l (iList K tl) := by
  subst hK
  exact pi_list hl
theorem piT {tg l : Expr} {tl : TE} (hl : PE X l tl) (hK : X.K = K := by rfl) : PI X tg l (iTup K tl) := by
  subst hK
  exact pi_tup hl
theorem pfld {e : Expr} {f : Str} {pos : Pos} {ta : TE} (he : PE X e ta) (hb : attributeBase e f X.env (eval e X.env) = eval e X.env) (hK : X.K = K := by rfl) : PE X (.Attribute e f pos) (tFld K ta f) := by
  subst hK
  exact pe_fld he hb
theorem pgT {es : List Expr} {k : Nat} {t : TGs} {n : Nat} {pos : Pos} (hc : X.calm = true) (h : PGs X es t)
    (hn : (assignEach es X.env).length = n := by rfl) (hst : (assignEach es X.env).findIdx? (·.1) = none := by rfl) (hK : X.K = K := by rfl) : PG X (.Tuple es k pos) (gTup K n t) := by
  subst hK
  exact pg_tup hc h hn hst
end
end KM

/-! ## KMath: the mathematics: finite lattices by their order, families of masks, maps that keep joins and meets, counting up. Plain Lean -/
namespace KM
structure Lt where
  n : Nat
  le : Nat → Nat → Bool
def Lt.dual (L : Lt) : Lt := ⟨L.n, fun x y => L.le y x⟩
def Lt.ups (L : Lt) (x y : Nat) : List Nat := (List.range L.n).filter fun z => L.le x z && L.le y z
def Lt.lubs (L : Lt) (x y : Nat) : List Nat := (L.ups x y).filter fun z => (L.ups x y).all fun w => L.le z w
def Lt.jn (L : Lt) (x y : Nat) : Nat := (L.lubs x y).headD 0
def Lt.mt (L : Lt) (x y : Nat) : Nat := L.dual.jn x y
def Lt.bots (L : Lt) : List Nat := (List.range L.n).filter fun x => (List.range L.n).all fun y => L.le x y
def Lt.bot (L : Lt) : Nat := L.bots.headD 0
def Lt.top (L : Lt) : Nat := L.dual.bot
structure Ord (L : Lt) : Prop where
  refl : ∀ x, x < L.n → L.le x x = true
  anti : ∀ x y, x < L.n → y < L.n → L.le x y = true → L.le y x = true → x = y
  trans : ∀ x y z, x < L.n → y < L.n → z < L.n → L.le x y = true → L.le y z = true → L.le x z = true
theorem Ord.dual {L : Lt} (o : Ord L) : Ord L.dual := ⟨o.refl, fun x y hx hy a b => o.anti x y hx hy b a, fun x y z hx hy hz a b => o.trans z y x hz hy hx b a⟩
structure Good (L : Lt) : Prop where
  pos : 1 ≤ L.n
  small : L.n ≤ 16
  ord : Ord L
  lub : ∀ x y, x < L.n → y < L.n → L.lubs x y ≠ []
  glb : ∀ x y, x < L.n → y < L.n → L.dual.lubs x y ≠ []
  hbot : L.bots ≠ []
  htop : L.dual.bots ≠ []
theorem Good.dual {L : Lt} (g : Good L) : Good L.dual := ⟨g.pos, g.small, g.ord.dual, g.glb, g.lub, g.htop, g.hbot⟩
theorem headD_mem {l : List Nat} (h : l ≠ []) : l.headD 0 ∈ l := by
  cases l with
  | nil => exact absurd rfl h
  | cons a r => exact List.mem_cons_self
theorem mem_ups {L : Lt} {x y z : Nat} : z ∈ L.ups x y ↔ z < L.n ∧ L.le x z = true ∧ L.le y z = true := by
  unfold Lt.ups
  rw [List.mem_filter, List.mem_range, Bool.and_eq_true]
theorem mem_lubs {L : Lt} {x y z : Nat} : z ∈ L.lubs x y ↔ z ∈ L.ups x y ∧ ∀ w, w ∈ L.ups x y → L.le z w = true := by
  unfold Lt.lubs
  rw [List.mem_filter, List.all_eq_true]
theorem mem_bots {L : Lt} {x : Nat} : x ∈ L.bots ↔ x < L.n ∧ ∀ y, y < L.n → L.le x y = true := by
  unfold Lt.bots
  rw [List.mem_filter, List.mem_range, List.all_eq_true]
  exact ⟨fun h => ⟨h.1, fun y hy => h.2 y (List.mem_range.mpr hy)⟩, fun h => ⟨h.1, fun y hy => h.2 y (List.mem_range.mp hy)⟩⟩
theorem ups_comm (L : Lt) (x y : Nat) : L.ups x y = L.ups y x := by
  unfold Lt.ups
  exact congrArg (fun f => List.filter f (List.range L.n)) (funext fun z => Bool.and_comm _ _)
theorem lubs_comm (L : Lt) (x y : Nat) : L.lubs x y = L.lubs y x := by
  unfold Lt.lubs
  rw [ups_comm L x y]
theorem jn_comm (L : Lt) (x y : Nat) : L.jn x y = L.jn y x := by
  unfold Lt.jn
  rw [lubs_comm L x y]
section
variable {L : Lt} (g : Good L) {x y z a b : Nat}
include g
theorem Good.jn_spec (hx : x < L.n) (hy : y < L.n) : L.jn x y < L.n ∧ L.le x (L.jn x y) = true ∧ L.le y (L.jn x y) = true ∧ ∀ w, w < L.n → L.le x w = true → L.le y w = true → L.le (L.jn x y) w = true := by
  have h := mem_lubs.mp (headD_mem (g.lub x y hx hy))
  have h1 := mem_ups.mp h.1
  exact ⟨h1.1, h1.2.1, h1.2.2, fun w hw p q => h.2 w (mem_ups.mpr ⟨hw, p, q⟩)⟩
theorem Good.jn_lt (hx : x < L.n) (hy : y < L.n) : L.jn x y < L.n := (g.jn_spec hx hy).1
theorem Good.jn_eq (hx : x < L.n) (hy : y < L.n) (hz : z < L.n) (h1 : L.le x z = true) (h2 : L.le y z = true) (h3 : ∀ w, w < L.n → L.le x w = true → L.le y w = true → L.le z w = true) : L.jn x y = z := by
  obtain ⟨j0, j1, j2, j3⟩ := g.jn_spec hx hy
  exact g.ord.anti _ _ j0 hz (j3 z hz h1 h2) (h3 _ j0 j1 j2)
theorem Good.jn_self (hx : x < L.n) : L.jn x x = x := g.jn_eq hx hx hx (g.ord.refl x hx) (g.ord.refl x hx) fun w _ h _ => h
theorem Good.mt_lt (hx : x < L.n) (hy : y < L.n) : L.mt x y < L.n := g.dual.jn_lt hx hy
theorem Good.mt_spec (hx : x < L.n) (hy : y < L.n) : L.mt x y < L.n ∧ L.le (L.mt x y) x = true ∧ L.le (L.mt x y) y = true ∧ ∀ w, w < L.n → L.le w x = true → L.le w y = true → L.le w (L.mt x y) = true := g.dual.jn_spec hx hy
theorem Good.mt_eq (hx : x < L.n) (hy : y < L.n) (hz : z < L.n) (h1 : L.le z x = true) (h2 : L.le z y = true) (h3 : ∀ w, w < L.n → L.le w x = true → L.le w y = true → L.le w z = true) : L.mt x y = z := g.dual.jn_eq (L := L.dual) hx hy hz h1 h2 h3
theorem Good.bot_lt : L.bot < L.n := (mem_bots.mp (headD_mem g.hbot)).1
theorem Good.top_lt : L.top < L.n := g.dual.bot_lt
/-! ## KMath: ### joins, meets: the usual laws -/
theorem Good.jn_assoc (hx : x < L.n) (hy : y < L.n) (hz : z < L.n) : L.jn (L.jn x y) z = L.jn x (L.jn y z) := by
  obtain ⟨a0, a1, a2, a3⟩ := g.jn_spec hx hy
  obtain ⟨b0, b1, b2, b3⟩ := g.jn_spec hy hz
  obtain ⟨c0, c1, c2, c3⟩ := g.jn_spec hx b0
  refine g.jn_eq a0 hz c0 ?_ ?_ ?_
  · exact a3 _ c0 c1 (g.ord.trans _ _ _ hy b0 c0 b1 c2)
  · exact g.ord.trans _ _ _ hz b0 c0 b2 c2
  · intro w hw h1 h2
    exact c3 w hw (g.ord.trans _ _ _ hx a0 hw a1 h1) (b3 w hw (g.ord.trans _ _ _ hy a0 hw a2 h1) h2)
theorem Good.mt_assoc (hx : x < L.n) (hy : y < L.n) (hz : z < L.n) : L.mt (L.mt x y) z = L.mt x (L.mt y z) := g.dual.jn_assoc hx hy hz
theorem mt_comm (x y : Nat) : L.mt x y = L.mt y x := jn_comm L.dual x y
/-- a join with a meet within -/
theorem Good.absorb (hx : x < L.n) (hy : y < L.n) : L.jn x (L.mt x y) = x := by
  obtain ⟨m0, m1, m2, m3⟩ := g.mt_spec hx hy
  exact g.jn_eq hx m0 hx (g.ord.refl x hx) m1 fun w _ h _ => h
theorem Good.absorb' (hx : x < L.n) (hy : y < L.n) : L.mt x (L.jn x y) = x := by
  obtain ⟨m0, m1, m2, m3⟩ := g.jn_spec hx hy
  exact g.mt_eq hx m0 hx (g.ord.refl x hx) m1 fun w _ h _ => h
end
/-! ## KMath: ### distributive, as the text asks it -/
def Lt.distr (L : Lt) : Bool := (List.range L.n).all fun x => (List.range L.n).all fun y => (List.range L.n).all fun z => decide (z ≤ y) || (L.mt x (L.jn y z) == L.jn (L.mt x y) (L.mt x z))
theorem distr_all {L : Lt} (g : Good L) (h : L.distr = true) {x y z : Nat} (hx : x < L.n) (hy : y < L.n) (hz : z < L.n) : L.mt x (L.jn y z) = L.jn (L.mt x y) (L.mt x z) := by
  have key : ∀ y z, y < L.n → z < L.n → y < z → L.mt x (L.jn y z) = L.jn (L.mt x y) (L.mt x z) := fun y z hy hz hyz => by
    unfold Lt.distr at h
    have h1 := List.all_eq_true.mp h x (List.mem_range.mpr hx)
    have h2 := List.all_eq_true.mp h1 y (List.mem_range.mpr hy)
    have h3 := List.all_eq_true.mp h2 z (List.mem_range.mpr hz)
    rcases Bool.or_eq_true_iff.mp h3 with q | q
    · have := of_decide_eq_true q
      omega
    · exact eq_of_beq q
  rcases Nat.lt_trichotomy y z with h1 | h1 | h1
  · exact key y z hy hz h1
  · subst h1
    rw [g.jn_self hy, g.jn_self (g.mt_lt hx hy)]
  · rw [jn_comm L y z, key z y hz hy h1, jn_comm]
theorem dual_distr {L : Lt} (g : Good L) (h : L.distr = true) {a p q : Nat} (ha : a < L.n) (hp : p < L.n) (hq : q < L.n) : L.jn a (L.mt p q) = L.mt (L.jn a p) (L.jn a q) := by
  have hap := g.jn_lt ha hp
  have haq := g.jn_lt ha hq
  -- (a ∨ p) ∧ (a ∨ q) = ((a ∨ p) ∧ a) ∨ ((a ∨ p) ∧ q) = a ∨ ((a ∧ q) ∨ (p ∧ q))
  rw [distr_all g h hap ha hq]
  have e1 : L.mt (L.jn a p) a = a := by
    rw [mt_comm g (L.jn a p) a]
    exact g.absorb' ha hp
  have e2 : L.mt (L.jn a p) q = L.jn (L.mt a q) (L.mt p q) := by
    rw [mt_comm g (L.jn a p) q, distr_all g h hq ha hp, mt_comm g q a, mt_comm g q p]
  rw [e1, e2, ← g.jn_assoc ha (g.mt_lt ha hq) (g.mt_lt hp hq), g.absorb ha hq]
/-! ## KMath: ### maps -/
def at_ (f : List Nat) (x : Nat) : Nat := f.getD x 0
/-- what of the couple is spoilt: some true the join, some false the meet -/
def spoil (A B : Lt) (f : List Nat) (x y : Nat) : Option Bool :=
  if at_ f (A.jn x y) ≠ B.jn (at_ f x) (at_ f y) then some true else if at_ f (A.mt x y) ≠ B.mt (at_ f x) (at_ f y) then some false else none
def mrow (A B : Lt) (f : List Nat) (x : Nat) (k : Nat) : Option (Nat × Nat × Bool) := (List.range k).findSome? fun j => (spoil A B f x (x + 1 + j)).map fun w => (x, x + 1 + j, w)
def mcol (A B : Lt) (f : List Nat) (k : Nat) : Option (Nat × Nat × Bool) := (List.range k).findSome? fun x => mrow A B f x (A.n - (x + 1))
def mfault (A B : Lt) (f : List Nat) : Option (Nat × Nat × Bool) := mcol A B f A.n
theorem findSome_succ {α : Type} (g : Nat → Option α) (k : Nat) : (List.range (k + 1)).findSome? g = ((List.range k).findSome? g).or (g k) := by
  rw [List.range_succ, List.findSome?_append]
  congr 1
  simp [List.findSome?]
  cases g k <;> rfl
theorem mrow_succ (A B : Lt) (f : List Nat) (x k : Nat) : mrow A B f x (k + 1) = (mrow A B f x k).or ((spoil A B f x (x + 1 + k)).map fun w => (x, x + 1 + k, w)) := findSome_succ _ k
theorem mcol_succ (A B : Lt) (f : List Nat) (k : Nat) : mcol A B f (k + 1) = (mcol A B f k).or (mrow A B f k (A.n - (k + 1))) := findSome_succ _ k
theorem findSome_le {α : Type} {g : Nat → Option α} {k m : Nat} {v : α} (h : (List.range k).findSome? g = some v) (hk : k ≤ m) : (List.range m).findSome? g = some v := by
  induction hk with
  | refl => exact h
  | step _ ih => rw [findSome_succ, ih]; rfl
theorem mfault_some {A B : Lt} {f : List Nat} {x k : Nat} {v : Nat × Nat × Bool} (hx : x < A.n) (h0 : mcol A B f x = none) (hk : x + 1 + k ≤ A.n) (h : mrow A B f x k = some v) : mfault A B f = some v := by
  have h1 : mrow A B f x (A.n - (x + 1)) = some v := findSome_le h (by omega)
  have h2 : mcol A B f (x + 1) = some v := by rw [mcol_succ, h0, h1]; rfl
  exact findSome_le h2 (by omega)
theorem mfault_none {A B : Lt} {f : List Nat} (h : ∀ x y, x < y → y < A.n → spoil A B f x y = none) : mfault A B f = none := by
  unfold mfault mcol
  rw [List.findSome?_eq_none_iff]
  intro x hx
  unfold mrow
  rw [List.findSome?_eq_none_iff]
  intro j hj
  have h1 := List.mem_range.mp hx
  have h2 := List.mem_range.mp hj
  rw [h x (x + 1 + j) (by omega) (by omega)]
  rfl
/-- v led to the join of a and the meet of b and v -/
def ctx (L : Lt) (a b : Nat) : List Nat := (List.range L.n).map fun v => L.jn a (L.mt b v)
theorem ctx_at {L : Lt} {a b v : Nat} (hv : v < L.n) : at_ (ctx L a b) v = L.jn a (L.mt b v) := by
  unfold at_ ctx
  rw [List.getD_eq_getElem?_getD, List.getElem?_map, List.getElem?_range hv]
  rfl
theorem ctx_keeps {L : Lt} (g : Good L) (h : L.distr = true) {a b : Nat} (ha : a < L.n) (hb : b < L.n) : mfault L L (ctx L a b) = none := by
  refine mfault_none fun x y hxy hy => ?_
  have hx : x < L.n := by omega
  have hj := g.jn_lt hx hy
  have hm := g.mt_lt hx hy
  have bx := g.mt_lt hb hx
  have by_ := g.mt_lt hb hy
  unfold spoil
  rw [ctx_at hx, ctx_at hy, ctx_at hj, ctx_at hm]
  have e1 : L.jn a (L.mt b (L.jn x y)) = L.jn (L.jn a (L.mt b x)) (L.jn a (L.mt b y)) := by
    rw [distr_all g h hb hx hy, g.jn_assoc ha bx (g.jn_lt ha by_), ← g.jn_assoc bx ha by_, jn_comm L (L.mt b x) a, g.jn_assoc ha bx by_, ← g.jn_assoc ha ha (g.jn_lt bx by_), g.jn_self ha]
  have e2 : L.jn a (L.mt b (L.mt x y)) = L.mt (L.jn a (L.mt b x)) (L.jn a (L.mt b y)) := by
    rw [← dual_distr g h ha bx by_]
    have e3 : L.mt (L.mt b x) (L.mt b y) = L.mt b (L.mt x y) := by
      rw [g.mt_assoc hb hx by_, ← g.mt_assoc hx hb hy, mt_comm g x b, g.mt_assoc hb hx hy, ← g.mt_assoc hb hb hm, show L.mt b b = b from g.dual.jn_self hb]
    rw [e3]
  rw [if_neg (by rw [e1]; exact fun z => z rfl), if_neg (by rw [e2]; exact fun z => z rfl)]
end KM

/-! ## KFam: families of masks that are closed under what two share, one of them holds all: lattices -/
namespace KM
structure Fam (F : List Nat) : Prop where
  nd : F.Nodup
  lt : ∀ m, m ∈ F → m < 16
  cl : ∀ a b, a ∈ F → b ∈ F → a &&& b ∈ F
  tp : ∃ t, t ∈ F ∧ ∀ m, m ∈ F → m &&& t = m
theorem Fam.perm {F G : List Nat} (h : Fam F) (p : F.Perm G) : Fam G := by
  obtain ⟨t, ht, hm⟩ := h.tp
  exact ⟨p.nodup_iff.mp h.nd, fun m hm => h.lt m (p.mem_iff.mpr hm), fun a b ha hb => p.mem_iff.mp (h.cl a b (p.mem_iff.mpr ha) (p.mem_iff.mpr hb)), t, p.mem_iff.mp ht, fun m q => hm m (p.mem_iff.mpr q)⟩
def latOf (F : List Nat) : Lt := ⟨F.length, fun i j => at_ F i &&& at_ F j == at_ F i⟩
theorem at_mem {F : List Nat} {i : Nat} (h : i < F.length) : at_ F i ∈ F := by
  unfold at_
  rw [List.getD_eq_getElem?_getD, List.getElem?_eq_getElem h]
  exact List.getElem_mem h
theorem at_of_mem {F : List Nat} {m : Nat} (h : m ∈ F) : ∃ i, i < F.length ∧ at_ F i = m := by
  obtain ⟨i, hi, e⟩ := List.mem_iff_getElem.mp h
  refine ⟨i, hi, ?_⟩
  unfold at_
  rw [List.getD_eq_getElem?_getD, List.getElem?_eq_getElem hi]
  exact e
theorem at_inj {F : List Nat} (nd : F.Nodup) {i j : Nat} (hi : i < F.length) (hj : j < F.length) (e : at_ F i = at_ F j) : i = j := by
  unfold at_ at e
  rw [List.getD_eq_getElem?_getD, List.getD_eq_getElem?_getD, List.getElem?_eq_getElem hi, List.getElem?_eq_getElem hj] at e
  have e2 : F[i] = F[j] := e
  unfold List.Nodup at nd
  rw [List.pairwise_iff_getElem] at nd
  rcases Nat.lt_trichotomy i j with c | c | c
  · exact absurd e2 (nd i j hi hj c)
  · exact c
  · exact absurd e2.symm (nd j i hj hi c)
theorem fle {F : List Nat} {i j : Nat} : (latOf F).le i j = true ↔ at_ F i &&& at_ F j = at_ F i := by
  show (at_ F i &&& at_ F j == at_ F i) = true ↔ _
  rw [beq_iff_eq]
section
variable {F : List Nat} (h : Fam F)
include h
theorem fam_ord : Ord (latOf F) := by
  refine ⟨fun x hx => fle.mpr (Nat.and_self _), fun x y hx hy a b => ?_, fun x y z hx hy hz a b => ?_⟩
  · refine at_inj h.nd hx hy ?_
    rw [← fle.mp a, Nat.and_comm, fle.mp b]
  · refine fle.mpr ?_
    have a1 := fle.mp a
    have b1 := fle.mp b
    rw [← a1, Nat.and_assoc, b1]
/-- the greatest of the family under all of xs -/
theorem fam_inf : ∀ xs : List Nat, xs ≠ [] → (∀ x, x ∈ xs → x < F.length) → ∃ z, z < F.length ∧ (∀ x, x ∈ xs → (latOf F).le z x = true) ∧ ∀ w, w < F.length → (∀ x, x ∈ xs → (latOf F).le w x = true) → (latOf F).le w z = true := by
  intro xs
  induction xs with
  | nil => exact fun e _ => absurd rfl e
  | cons a r ih =>
    intro _ hm
    have ha : a < F.length := hm a List.mem_cons_self
    by_cases hr : r = []
    · subst hr
      refine ⟨a, ha, fun x hx => ?_, fun w _ q => q a List.mem_cons_self⟩
      rw [List.mem_singleton.mp hx]
      exact (fam_ord h).refl a ha
    · obtain ⟨z, hz, h1, h2⟩ := ih hr fun x hx => hm x (List.mem_cons_of_mem _ hx)
      obtain ⟨i, hi, e⟩ := at_of_mem (h.cl _ _ (at_mem ha) (at_mem hz))
      have ia : (latOf F).le i a = true := fle.mpr (by rw [e, Nat.and_comm (at_ F a) (at_ F z), Nat.and_assoc, Nat.and_self])
      have iz : (latOf F).le i z = true := fle.mpr (by rw [e, Nat.and_assoc, Nat.and_self])
      refine ⟨i, hi, fun x hx => ?_, fun w hw q => fle.mpr ?_⟩
      · rcases List.mem_cons.mp hx with q | q
        · rw [q]
          exact ia
        · exact (fam_ord h).trans _ _ _ hi hz (hm x (List.mem_cons_of_mem _ q)) iz (h1 x q)
      · have q1 := fle.mp (q a List.mem_cons_self)
        have q2 := fle.mp (h2 w hw fun x hx => q x (List.mem_cons_of_mem _ hx))
        rw [e, ← Nat.and_assoc, q1, q2]
theorem fam_top : ∃ t, t < F.length ∧ ∀ x, x < F.length → (latOf F).le x t = true := by
  obtain ⟨t, ht, hm⟩ := h.tp
  obtain ⟨i, hi, e⟩ := at_of_mem ht
  exact ⟨i, hi, fun x hx => fle.mpr (by rw [e]; exact hm _ (at_mem hx))⟩
theorem fam_glb {x y : Nat} (hx : x < F.length) (hy : y < F.length) : (latOf F).dual.lubs x y ≠ [] := by
  obtain ⟨z, hz, h1, h2⟩ := fam_inf h [x, y] (by simp) (by
    intro a ha
    rcases List.mem_cons.mp ha with q | q
    · rw [q]; exact hx
    · rw [List.mem_singleton.mp q]; exact hy)
  have hz' : z ∈ (latOf F).dual.lubs x y := by
    refine mem_lubs.mpr ⟨mem_ups.mpr ⟨hz, h1 x (by simp), h1 y (by simp)⟩, fun w hw => ?_⟩
    obtain ⟨w1, w2, w3⟩ := mem_ups.mp hw
    refine h2 w w1 fun a ha => ?_
    rcases List.mem_cons.mp ha with q | q
    · rw [q]; exact w2
    · rw [List.mem_singleton.mp q]; exact w3
  exact List.ne_nil_of_mem hz'
theorem fam_lub {x y : Nat} (hx : x < F.length) (hy : y < F.length) : (latOf F).lubs x y ≠ [] := by
  obtain ⟨t, ht, hT⟩ := fam_top h
  have tu : t ∈ (latOf F).ups x y := mem_ups.mpr ⟨ht, hT x hx, hT y hy⟩
  obtain ⟨z, hz, h1, h2⟩ := fam_inf h ((latOf F).ups x y) (List.ne_nil_of_mem tu) fun a ha => (mem_ups.mp ha).1
  have hz' : z ∈ (latOf F).lubs x y := by
    refine mem_lubs.mpr ⟨mem_ups.mpr ⟨hz, h2 x hx fun a ha => (mem_ups.mp ha).2.1, h2 y hy fun a ha => (mem_ups.mp ha).2.2⟩, h1⟩
  exact List.ne_nil_of_mem hz'
theorem fam_good (h16 : F.length ≤ 16) : Good (latOf F) := by
  obtain ⟨t, ht, hT⟩ := fam_top h
  have hp : 1 ≤ F.length := by omega
  have hn : List.range F.length ≠ [] := List.ne_nil_of_mem (List.mem_range.mpr ht)
  obtain ⟨z, hz, h1, h2⟩ := fam_inf h (List.range F.length) hn fun a ha => List.mem_range.mp ha
  have hb : z ∈ (latOf F).bots := mem_bots.mpr ⟨hz, fun y hy => h1 y (List.mem_range.mpr hy)⟩
  have htt : t ∈ (latOf F).dual.bots := mem_bots.mpr ⟨ht, hT⟩
  exact ⟨hp, h16, fam_ord h, fun x y hx hy => fam_lub h hx hy, fun x y hx hy => fam_glb h hx hy, List.ne_nil_of_mem hb, List.ne_nil_of_mem htt⟩
end
/-! ## KFam: ### sets as masks -/
def bits (m : Nat) : List Nat := (List.range 4).filter fun p => m / 2 ^ p % 2 == 1
def natBelow (n : Nat) (p : Nat → Bool) : Bool := (List.range n).all p
theorem natBelow_ok {n : Nat} {p : Nat → Bool} (h : natBelow n p = true) {m : Nat} (hm : m < n) : p m = true := List.all_eq_true.mp h m (List.mem_range.mpr hm)
theorem bits_of {pts m : Nat} (hp : pts ≤ 4) (hm : m < 2 ^ pts) : (List.range pts).filter (fun p => m / 2 ^ p % 2 == 1) = bits m := by
  have k : natBelow 5 (fun pts => natBelow 16 fun m => decide (2 ^ pts ≤ m) || decide ((List.range pts).filter (fun p => m / 2 ^ p % 2 == 1) = bits m)) = true := by decide +kernel
  have h16 : m < 16 := Nat.lt_of_lt_of_le hm (Nat.pow_le_pow_right (by decide) hp)
  rcases Bool.or_eq_true_iff.mp (natBelow_ok (natBelow_ok k (show pts < 5 by omega)) h16) with q | q
  · have := of_decide_eq_true q
    omega
  · exact of_decide_eq_true q
theorem bits_inter {a b : Nat} (ha : a < 16) (hb : b < 16) : (bits a).filter (fun p => (bits b).contains p) = bits (a &&& b) := by
  have k : natBelow 16 (fun a => natBelow 16 fun b => decide ((bits a).filter (fun p => (bits b).contains p) = bits (a &&& b))) = true := by decide +kernel
  exact of_decide_eq_true (natBelow_ok (natBelow_ok k ha) hb)
theorem bits_sub {a b : Nat} (ha : a < 16) (hb : b < 16) : decide ((((bits a).filter fun p => !(bits b).contains p).length : Int) = 0) = (a &&& b == a) := by
  have k : natBelow 16 (fun a => natBelow 16 fun b => decide (decide ((((bits a).filter fun p => !(bits b).contains p).length : Int) = 0) = (a &&& b == a))) = true := by decide +kernel
  exact of_decide_eq_true (natBelow_ok (natBelow_ok k ha) hb)
theorem bits_inj {a b : Nat} (ha : a < 16) (hb : b < 16) : decide (bits a = bits b) = (a == b) := by
  have k : natBelow 16 (fun a => natBelow 16 fun b => decide (decide (bits a = bits b) = (a == b))) = true := by decide +kernel
  exact of_decide_eq_true (natBelow_ok (natBelow_ok k ha) hb)
theorem bits_full {pts : Nat} (hp : pts ≤ 4) : List.range pts = bits (2 ^ pts - 1) := by
  have k : natBelow 5 (fun pts => decide (List.range pts = bits (2 ^ pts - 1))) = true := by decide +kernel
  exact of_decide_eq_true (natBelow_ok k (show pts < 5 by omega))
theorem bits_len {a : Nat} (ha : a < 16) : (bits a).length ≤ 4 := by
  have k : natBelow 16 (fun a => decide ((bits a).length ≤ 4)) = true := by decide +kernel
  exact of_decide_eq_true (natBelow_ok k ha)
theorem bits_add {a p : Nat} (hp : p < 4) (ha : a < 2 ^ p) : bits a ++ [p] = bits (a ||| 2 ^ p) := by
  have k : natBelow 4 (fun p => natBelow 16 fun a => decide (2 ^ p ≤ a) || decide (bits a ++ [p] = bits (a ||| 2 ^ p))) = true := by decide +kernel
  have h16 : a < 16 := Nat.lt_of_lt_of_le ha (Nat.pow_le_pow_right (n := 2) (j := 4) (by decide) (by omega))
  rcases Bool.or_eq_true_iff.mp (natBelow_ok (natBelow_ok k hp) h16) with q | q
  · have := of_decide_eq_true q
    omega
  · exact of_decide_eq_true q
/-! ## KFam: ### a closed family grows by one set -/
/-- what the family's growing by the set o has made behind its first i sets -/
def grow (o : Nat) (F : List Nat) : List Nat → List Nat
  | [] => F
  | a :: r => grow o (if (F.contains (o &&& a)) then F else F ++ [o &&& a]) r
theorem grow_mem {o x : Nat} : ∀ {r F : List Nat}, x ∈ grow o F r ↔ x ∈ F ∨ ∃ a, a ∈ r ∧ x = o &&& a
  | [], F => by simp [grow]
  | a :: r, F => by
    unfold grow
    rw [grow_mem]
    constructor
    · rintro (h | ⟨b, hb, e⟩)
      · by_cases c : F.contains (o &&& a) = true
        · rw [if_pos c] at h
          exact Or.inl h
        · rw [if_neg c] at h
          rcases List.mem_append.mp h with q | q
          · exact Or.inl q
          · exact Or.inr ⟨a, List.mem_cons_self, List.mem_singleton.mp q⟩
      · exact Or.inr ⟨b, List.mem_cons_of_mem _ hb, e⟩
    · rintro (h | ⟨b, hb, e⟩)
      · left
        by_cases c : F.contains (o &&& a) = true
        · rw [if_pos c]
          exact h
        · rw [if_neg c]
          exact List.mem_append_left _ h
      · rcases List.mem_cons.mp hb with q | q
        · left
          subst q
          by_cases c : F.contains (o &&& b) = true
          · rw [if_pos c, e]
            exact List.contains_iff_mem.mp c
          · rw [if_neg c, e]
            exact List.mem_append_right _ List.mem_cons_self
        · exact Or.inr ⟨b, q, e⟩
theorem grow_nodup {o : Nat} : ∀ {r F : List Nat}, F.Nodup → (grow o F r).Nodup
  | [], F, h => h
  | a :: r, F, h => by
    unfold grow
    refine grow_nodup ?_
    by_cases c : F.contains (o &&& a) = true
    · rw [if_pos c]
      exact h
    · rw [if_neg c]
      refine List.nodup_append.mpr ⟨h, by simp, fun x hx y hy z => ?_⟩
      rw [List.mem_singleton.mp hy] at z
      exact c (List.contains_iff_mem.mpr (z ▸ hx))
theorem fam_grow {F : List Nat} (h : Fam F) {o : Nat} (ho : o < 16) (hot : ∀ t, t ∈ F → (∀ m, m ∈ F → m &&& t = m) → o &&& t = o) : Fam (grow o F F) := by
  refine ⟨grow_nodup h.nd, fun m hm => ?_, fun a b ha hb => ?_, ?_⟩
  · rcases grow_mem.mp hm with q | ⟨a, _, e⟩
    · exact h.lt m q
    · rw [e]
      exact Nat.lt_of_le_of_lt Nat.and_le_left ho
  · rcases grow_mem.mp ha with p | ⟨x, hx, ex⟩ <;> rcases grow_mem.mp hb with q | ⟨y, hy, ey⟩
    · exact grow_mem.mpr (Or.inl (h.cl a b p q))
    · refine grow_mem.mpr (Or.inr ⟨a &&& y, h.cl a y p hy, ?_⟩)
      rw [ey, ← Nat.and_assoc, Nat.and_comm a o, Nat.and_assoc]
    · refine grow_mem.mpr (Or.inr ⟨x &&& b, h.cl x b hx q, ?_⟩)
      rw [ex, Nat.and_assoc]
    · refine grow_mem.mpr (Or.inr ⟨x &&& y, h.cl x y hx hy, ?_⟩)
      rw [ex, ey, Nat.and_assoc, ← Nat.and_assoc x o y, Nat.and_comm x o, ← Nat.and_assoc, ← Nat.and_assoc, Nat.and_self, Nat.and_assoc]
  · obtain ⟨t, ht, hm⟩ := h.tp
    refine ⟨t, grow_mem.mpr (Or.inl ht), fun m q => ?_⟩
    rcases grow_mem.mp q with q | ⟨x, hx, ex⟩
    · exact hm m q
    · rw [ex, Nat.and_assoc, hm x hx]
theorem fam_one {pts : Nat} (hp : pts ≤ 4) : Fam [2 ^ pts - 1] := by
  have h16 : 2 ^ pts ≤ 16 := Nat.pow_le_pow_right (n := 2) (j := 4) (by decide) hp
  have h1 : 0 < 2 ^ pts := Nat.pos_of_ne_zero (by simp)
  refine ⟨by simp, fun m hm => ?_, fun a b ha hb => ?_, 2 ^ pts - 1, by simp, fun m hm => ?_⟩
  · rw [List.mem_singleton.mp hm]
    omega
  · rw [List.mem_singleton.mp ha, List.mem_singleton.mp hb, Nat.and_self]
    simp
  · rw [List.mem_singleton.mp hm, Nat.and_self]
/-! ## KFam: ### the lower sets -/
/-- below: for each point the mask of the points under it; n points (to 3) -/
def lowers (bl : List Nat) : Nat → List Nat
  | 0 => [0]
  | p + 1 => lowers bl p ++ ((lowers bl p).filter fun m => at_ bl p &&& m == at_ bl p).map fun m => m ||| 2 ^ p
def famB (F : List Nat) : Bool := decide F.Nodup && ((F.all fun m => decide (m < 16)) && ((F.all fun a => F.all fun b => F.contains (a &&& b)) && F.any fun t => F.all fun m => m &&& t == m))
theorem famB_ok {F : List Nat} (h : famB F = true) : Fam F := by
  unfold famB at h
  simp only [Bool.and_eq_true, decide_eq_true_eq, List.all_eq_true, List.any_eq_true, beq_iff_eq] at h
  obtain ⟨h1, h2, h3, t, ht, hm⟩ := h
  exact ⟨h1, h2, fun a b ha hb => List.contains_iff_mem.mp (h3 a ha b hb), t, ht, hm⟩
theorem lowers_ext {b c : List Nat} : ∀ {n : Nat}, (∀ p, p < n → at_ b p = at_ c p) → lowers b n = lowers c n
  | 0, _ => rfl
  | n + 1, h => by
    unfold lowers
    rw [lowers_ext fun p hp => h p (by omega), h n (by omega)]
theorem lowers_fam {bl : List Nat} {n : Nat} (hn : n ≤ 3) (hb : ∀ p, p < n → at_ bl p < 2 ^ p) : Fam (lowers bl n) ∧ (lowers bl n).length ≤ 8 := by
  have k : natBelow 4 (fun n => natBelow 1 fun x => natBelow 2 fun y => natBelow 4 fun z => famB (lowers [x, y, z] n) && decide ((lowers [x, y, z] n).length ≤ 8)) = true := by decide +kernel
  have key : ∃ x y z, x < 1 ∧ y < 2 ∧ z < 4 ∧ ∀ p, p < n → at_ bl p = at_ [x, y, z] p := by
    refine ⟨0, if 1 < n then at_ bl 1 else 0, if 2 < n then at_ bl 2 else 0, by omega, ?_, ?_, fun p hp => ?_⟩
    · by_cases c : 1 < n
      · rw [if_pos c]
        exact hb 1 c
      · rw [if_neg c]
        omega
    · by_cases c : 2 < n
      · rw [if_pos c]
        exact hb 2 c
      · rw [if_neg c]
        omega
    · have e : p = 0 ∨ p = 1 ∨ p = 2 := by omega
      rcases e with e | e | e
      · subst e
        have := hb 0 hp
        show at_ bl 0 = 0
        omega
      · subst e
        show at_ bl 1 = if 1 < n then at_ bl 1 else 0
        rw [if_pos hp]
      · subst e
        show at_ bl 2 = if 2 < n then at_ bl 2 else 0
        rw [if_pos hp]
  obtain ⟨x, y, z, hx, hy, hz, e⟩ := key
  obtain ⟨h1, h2⟩ := Bool.and_eq_true_iff.mp (natBelow_ok (natBelow_ok (natBelow_ok (natBelow_ok k (show n < 4 by omega)) hx) hy) hz)
  rw [lowers_ext e]
  exact ⟨famB_ok h1, of_decide_eq_true h2⟩
theorem lowers_lt {bl : List Nat} : ∀ {n m : Nat}, m ∈ lowers bl n → m < 2 ^ n
  | 0, m, h => by
    rw [List.mem_singleton.mp h]
    decide
  | n + 1, m, h => by
    have e : (2 : Nat) ^ (n + 1) = 2 ^ n + 2 ^ n := by rw [Nat.pow_succ]; omega
    unfold lowers at h
    rcases List.mem_append.mp h with q | q
    · have := lowers_lt q
      omega
    · obtain ⟨x, hx, ex⟩ := List.mem_map.mp q
      have hx' := lowers_lt (List.mem_filter.mp hx).1
      rw [← ex]
      refine Nat.or_lt_two_pow (by omega) ?_
      have : 0 < 2 ^ n := Nat.pos_of_ne_zero (by simp)
      omega
end KM

/-! ## KCount: counting up: the digits of a number, the next one by carrying -/
namespace KM
/-- k digits of N to the base m, the least first -/
def dle : Nat → Nat → Nat → List Nat
  | 0, _, _ => []
  | k + 1, m, N => N % m :: dle k m (N / m)
/-- the greatest first -/
def dg (k m N : Nat) : List Nat := (dle k m N).reverse
/-- the same, the greatest digit unbounded (k + 1 digits) -/
def dlo : Nat → Nat → Nat → List Nat
  | 0, _, N => [N]
  | k + 1, m, N => N % m :: dlo k m (N / m)
def nrm (m : Nat) : Nat → List Nat → List Nat
  | d, [] => [d]
  | d, e :: r => if d = m then 0 :: nrm m (e + 1) r else d :: e :: r
theorem dlo_cons (k m N : Nat) : ∃ d r, dlo k m N = d :: r ∧ r.length = k := by
  induction k generalizing N with
  | zero => exact ⟨N, [], rfl, rfl⟩
  | succ k ih =>
    obtain ⟨d, r, e, hl⟩ := ih (N / m)
    exact ⟨N % m, dlo k m (N / m), rfl, by rw [e]; simp [hl]⟩
theorem dlo_len (k m N : Nat) : (dlo k m N).length = k + 1 := by
  obtain ⟨d, r, e, hl⟩ := dlo_cons k m N
  rw [e]
  simp [hl]
theorem dle_len (k m N : Nat) : (dle k m N).length = k := by
  induction k generalizing N with
  | zero => rfl
  | succ k ih =>
    unfold dle
    rw [List.length_cons, ih]
theorem dg_len (k m N : Nat) : (dg k m N).length = k := by
  unfold dg
  rw [List.length_reverse, dle_len]
theorem dlo_dle {m : Nat} (hm : 0 < m) : ∀ {k N : Nat}, N < m ^ (k + 1) → dlo k m N = dle (k + 1) m N
  | 0, N, h => by
    have h1 : N < m := by simpa using h
    show [N] = [N % m]
    rw [Nat.mod_eq_of_lt h1]
  | k + 1, N, h => by
    have h1 : N / m < m ^ (k + 1) := by
      rw [Nat.div_lt_iff_lt_mul hm, ← Nat.pow_succ]
      exact h
    show N % m :: dlo k m (N / m) = N % m :: dle (k + 1) m (N / m)
    rw [dlo_dle hm h1]
theorem dle_lt {m : Nat} (hm : 0 < m) : ∀ {k N d : Nat}, d ∈ dle k m N → d < m
  | 0, _, _, h => by cases h
  | k + 1, N, d, h => by
    rcases List.mem_cons.mp h with q | q
    · rw [q]
      exact Nat.mod_lt _ hm
    · exact dle_lt hm q
theorem dg_lt {m : Nat} (hm : 0 < m) {k N d : Nat} (h : d ∈ dg k m N) : d < m := dle_lt hm (List.mem_reverse.mp h)
/-- one more -/
theorem nrm_succ {m : Nat} (hm : 0 < m) : ∀ {k N d : Nat} {r : List Nat}, dlo k m N = d :: r → nrm m (d + 1) r = dlo k m (N + 1)
  | 0, N, d, r, h => by
    have h1 : [N] = d :: r := h
    injection h1 with h2 h3
    subst h2
    subst h3
    rfl
  | k + 1, N, d, r, h => by
    have h1 : N % m :: dlo k m (N / m) = d :: r := h
    injection h1 with h2 h3
    obtain ⟨e, r', e1, _⟩ := dlo_cons k m (N / m)
    rw [e1] at h3
    subst h2
    subst h3
    have ih := nrm_succ hm e1
    have hlt := Nat.mod_lt N hm
    have hN := Nat.div_add_mod N m
    show (if N % m + 1 = m then 0 :: nrm m (e + 1) r' else (N % m + 1) :: e :: r') = (N + 1) % m :: dlo k m ((N + 1) / m)
    by_cases c : N % m + 1 = m
    · have e2 : N + 1 = m * (N / m + 1) := by
        rw [Nat.mul_add, Nat.mul_one]
        omega
      have q1 : (N + 1) % m = 0 := by
        rw [e2, Nat.mul_mod_right]
      have q2 : (N + 1) / m = N / m + 1 := by
        rw [e2, Nat.mul_div_cancel_left _ hm]
      rw [if_pos c, q1, q2, ih]
    · have c' : N % m + 1 < m := by omega
      have e2 : N + 1 = (N % m + 1) + m * (N / m) := by omega
      have q1 : (N + 1) % m = N % m + 1 := by
        rw [e2, Nat.add_mul_mod_self_left, Nat.mod_eq_of_lt c']
      have q2 : (N + 1) / m = N / m := by
        rw [e2, Nat.add_mul_div_left _ _ hm, Nat.div_eq_of_lt c', Nat.zero_add]
      rw [if_neg c, q1, q2, e1]
/-- the greatest digit -/
theorem dlo_top {m : Nat} (hm : 0 < m) : ∀ {k N : Nat}, (dlo k m N)[k]? = some (N / m ^ k)
  | 0, N => by
    show some N = some (N / m ^ 0)
    rw [Nat.pow_zero, Nat.div_one]
  | k + 1, N => by
    show (dlo k m (N / m))[k]? = _
    rw [dlo_top hm, Nat.div_div_eq_div_mul, Nat.pow_succ, Nat.mul_comm]
theorem top_lt {m k N : Nat} (hm : 0 < m) : N / m ^ k < m ↔ N < m ^ (k + 1) := by
  rw [Nat.div_lt_iff_lt_mul (Nat.pow_pos hm), Nat.pow_succ, Nat.mul_comm]
theorem dlo_zero (m : Nat) : ∀ k, dlo k m 0 = List.replicate (k + 1) 0
  | 0 => rfl
  | k + 1 => by
    show 0 % m :: dlo k m (0 / m) = _
    rw [Nat.zero_mod, Nat.zero_div, dlo_zero m k]
    rfl
/-- all maps that keep, ascending -/
def mapsTo (A B : Lt) (N : Nat) : List (List Nat) := ((List.range N).filter fun i => (mfault A B (dg A.n B.n i)).isNone).map (dg A.n B.n)
def allMaps (A B : Lt) : List (List Nat) := mapsTo A B (B.n ^ A.n)
theorem mapsTo_yes {A B : Lt} {N : Nat} (h : mfault A B (dg A.n B.n N) = none) : mapsTo A B (N + 1) = mapsTo A B N ++ [dg A.n B.n N] := by
  unfold mapsTo
  rw [List.range_succ, List.filter_append, List.map_append, List.filter_cons, if_pos (by rw [h]; rfl)]
  rfl
theorem mapsTo_no {A B : Lt} {N : Nat} (h : mfault A B (dg A.n B.n N) ≠ none) : mapsTo A B (N + 1) = mapsTo A B N := by
  unfold mapsTo
  rw [List.range_succ, List.filter_append, List.map_append, List.filter_cons, if_neg (by rw [Option.isNone_iff_eq_none]; exact h)]
  simp
theorem mapsTo_len (A B : Lt) (N : Nat) : (mapsTo A B N).length ≤ N := by
  unfold mapsTo
  rw [List.length_map]
  have h := List.length_filter_le (fun i => (mfault A B (dg A.n B.n i)).isNone) (List.range N)
  rw [List.length_range] at h
  exact h
theorem mapsTo_mem {A B : Lt} {N : Nat} {f : List Nat} (h : f ∈ mapsTo A B N) : f.length = A.n := by
  unfold mapsTo at h
  obtain ⟨i, _, e⟩ := List.mem_map.mp h
  rw [← e, dg_len]
theorem pow_small {a b : Nat} (ha : a ≤ 5) (hb : b ≤ 5) : b ^ a ≤ 3125 := Nat.le_trans (Nat.pow_le_pow_left hb a) (Nat.le_trans (Nat.pow_le_pow_right (n := 5) (j := 5) (by decide) ha) (by decide))
end KM

/-! ## KData: lattices, rows of truths and of worths in the heap -/
namespace KM
open PySem PySem.Spec PyProof.Rows L2 Evl
def rowB (L : Lt) (x : Nat) : List V := (List.range L.n).map fun y => V.bl (L.le x y)
def tblV (L : Lt) : List (List V) := rowsTo L.n (rowB L)
def rowJ (L : Lt) (x : Nat) : List V := (List.range L.n).map fun y => V.int ((L.jn x y : Nat) : Int)
def jnsV (L : Lt) : List (List V) := rowsTo L.n (rowJ L)
theorem rowsTo_len (n : Nat) (f : Nat → List V) : (rowsTo n f).length = n := by
  unfold rowsTo
  rw [List.length_map, List.length_range]
theorem rowsTo_get {n i : Nat} {f : Nat → List V} (h : i < n) : (rowsTo n f)[i]? = some (f i) := by
  unfold rowsTo
  rw [List.getElem?_map, List.getElem?_range h]
  rfl
theorem mapR_get {n i : Nat} {f : Nat → V} (h : i < n) : ((List.range n).map f)[i]? = some (f i) := by
  rw [List.getElem?_map, List.getElem?_range h]
  rfl
theorem mapR_len (n : Nat) (f : Nat → V) : ((List.range n).map f).length = n := by rw [List.length_map, List.length_range]
section
variable {K : PySem.W.Frag} {σ : L2.St} {H H' : Hp} {ta tb tc te tx tl : TE} {t u : TT} {x y z v : V} {r : R2} {tr : TA}
theorem ev_lenST {m : List V → HO} {p : Addr} {rows : List (List V)} {n : Nat} (ha : EvA tr σ H [.ref p]) (h : S2 .tup m H p rows) (hn : rows.length = n) : Ev (tCB (rLenS K) tr) σ H (.int (n : Int)) := by
  obtain ⟨xs, h1, h2⟩ := h.len
  rw [← hn, ← h2]
  exact ev_lenT ha h1
theorem ev_lenSL {m : List V → HO} {p : Addr} {rows : List (List V)} {n : Nat} (ha : EvA tr σ H [.ref p]) (h : S2 .lst m H p rows) (hn : rows.length = n) : Ev (tCB (rLenS K) tr) σ H (.int (n : Int)) := by
  obtain ⟨xs, h1, h2⟩ := h.len
  rw [← hn, ← h2]
  exact ev_lenL ha h1
theorem ev_tblT {L : Lt} {a : Addr} {i j : Nat} (h1 : Ev ta σ H (.ref a)) (h2 : Ev tb σ H (.int (i : Int))) (h3 : Ev tc σ H (.int (j : Int))) (h : S2 .tup .tup H a (tblV L)) (hi : i < L.n) (hj : j < L.n) :
    Ev (tOp (rIx K) (tOp (rIx K) ta tb) tc) σ H (.bl (L.le i j)) := ev_xTT h1 h2 h3 h (rowsTo_get hi) (mapR_get hj)
theorem ev_tblL {L : Lt} {a : Addr} {i j : Nat} (h1 : Ev ta σ H (.ref a)) (h2 : Ev tb σ H (.int (i : Int))) (h3 : Ev tc σ H (.int (j : Int))) (h : S2 .lst .lst H a (tblV L)) (hi : i < L.n) (hj : j < L.n) :
    Ev (tOp (rIx K) (tOp (rIx K) ta tb) tc) σ H (.bl (L.le i j)) := ev_xLL h1 h2 h3 h (rowsTo_get hi) (mapR_get hj)
theorem ev_jnT {L : Lt} {a : Addr} {i j : Nat} (h1 : Ev ta σ H (.ref a)) (h2 : Ev tb σ H (.int (i : Int))) (h3 : Ev tc σ H (.int (j : Int))) (h : S2 .tup .tup H a (jnsV L)) (hi : i < L.n) (hj : j < L.n) :
    Ev (tOp (rIx K) (tOp (rIx K) ta tb) tc) σ H (.int ((L.jn i j : Nat) : Int)) := ev_xTT h1 h2 h3 h (rowsTo_get hi) (mapR_get hj)
theorem ev_jnL {L : Lt} {a : Addr} {i j : Nat} (h1 : Ev ta σ H (.ref a)) (h2 : Ev tb σ H (.int (i : Int))) (h3 : Ev tc σ H (.int (j : Int))) (h : S2 .lst .lst H a (jnsV L)) (hi : i < L.n) (hj : j < L.n) :
    Ev (tOp (rIx K) (tOp (rIx K) ta tb) tc) σ H (.int ((L.jn i j : Nat) : Int)) := ev_xLL h1 h2 h3 h (rowsTo_get hi) (mapR_get hj)
/-- a list of those of range(n) that a test keeps -/
theorem given_filter (n : Nat) (f : Nat → Bool) : given n f (fun i => V.int ((i : Nat) : Int)) = ((List.range n).filter f).map fun (i : Nat) => V.int (i : Int) := rfl
end
/-- ints as values -/
def intsV (l : List Nat) : List V := l.map fun (i : Nat) => V.int (i : Int)
theorem intsV_get {l : List Nat} {i : Nat} {x : V} (h : (intsV l)[i]? = some x) : ∃ k, l[i]? = some k ∧ x = .int (k : Int) := by
  unfold intsV at h
  rw [List.getElem?_map] at h
  cases e : l[i]? with
  | none =>
    rw [e] at h
    cases h
  | some k =>
    rw [e] at h
    exact ⟨k, rfl, (Option.some.inj h).symm⟩
theorem intsV_len (l : List Nat) : (intsV l).length = l.length := by
  unfold intsV
  rw [List.length_map]
/-- those of a list of ints that a test keeps -/
theorem given_ints (l : List Nat) (f : Nat → Bool) : given l.length (fun i => f (l.getD i 0)) (fun i => V.int ((l.getD i 0 : Nat) : Int)) = intsV (l.filter f) := by
  unfold given intsV
  have key : ∀ (l : List Nat), ((List.range l.length).filter fun i => f (l.getD i 0)).map (fun i => l.getD i 0) = l.filter f := by
    intro l
    induction l with
    | nil => rfl
    | cons a r ih =>
      rw [List.length_cons, List.range_succ_eq_map, List.filter_cons, List.filter_map]
      show List.map _ (if f a = true then _ else _) = _
      rw [List.filter_cons]
      have e1 : ((fun i => f ((a :: r).getD i 0)) ∘ Nat.succ) = fun i => f (r.getD i 0) := rfl
      by_cases c : f a = true
      · rw [if_pos c, if_pos c, List.map_cons, List.map_map, e1]
        exact congrArg (List.cons a) ih
      · rw [if_neg c, if_neg c, List.map_map, e1]
        exact ih
  rw [← key l, List.map_map]
  rfl
theorem given_mapL (l : List Nat) (g : Nat → V) : given l.length (fun _ => true) (fun i => g (l.getD i 0)) = l.map g := by
  rw [given_all]
  refine List.ext_getElem? fun i => ?_
  rw [List.getElem?_map, List.getElem?_map]
  by_cases c : i < l.length
  · rw [List.getElem?_range c, List.getElem?_eq_getElem c]
    show some (g (l.getD i 0)) = some (g l[i])
    rw [List.getD_eq_getElem?_getD, List.getElem?_eq_getElem c]
    rfl
  · rw [List.getElem?_eq_none (by rw [List.length_range]; omega), List.getElem?_eq_none (by omega)]
    rfl
theorem getD_of {l : List Nat} {i k : Nat} (h : l[i]? = some k) : l.getD i 0 = k := by
  rw [List.getD_eq_getElem?_getD, h]
  rfl
/-- the first of a list that a test keeps -/
theorem filter_first {α : Type} {l : List α} {p : α → Bool} {i : Nat} {x d : α} (h : l[i]? = some x) (hp : p x = true) (hb : ∀ (j : Nat) (y : α), j < i → l[j]? = some y → p y = false) : (l.filter p).headD d = x := by
  induction l generalizing i with
  | nil => simp at h
  | cons a r ih =>
    cases i with
    | zero =>
      have e : a = x := by simpa using h
      subst e
      rw [List.filter_cons, if_pos hp]
      rfl
    | succ i =>
      have ha : p a = false := hb 0 a (by omega) rfl
      rw [List.filter_cons, if_neg (by rw [ha]; decide)]
      exact ih (by simpa using h) fun j y hj hy => hb (j + 1) y (by omega) (by simpa using hy)
theorem filter_none {α : Type} {l : List α} {p : α → Bool} (hb : ∀ (j : Nat) (y : α), l[j]? = some y → p y = false) : l.filter p = [] := by
  rw [List.filter_eq_nil_iff]
  intro a ha
  obtain ⟨i, hi, e⟩ := List.mem_iff_getElem.mp ha
  rw [hb i a (by rw [List.getElem?_eq_getElem hi, e])]
  decide
theorem given_list (l : List Nat) (f : Nat → Bool) (g : Nat → V) : given l.length (fun i => f (l.getD i 0)) (fun i => g (l.getD i 0)) = (l.filter f).map g := by
  unfold given
  have key : ∀ (l : List Nat), ((List.range l.length).filter fun i => f (l.getD i 0)).map (fun i => g (l.getD i 0)) = (l.filter f).map g := by
    intro l
    induction l with
    | nil => rfl
    | cons a r ih =>
      rw [List.length_cons, List.range_succ_eq_map, List.filter_cons, List.filter_map]
      show List.map _ (if f a = true then _ else _) = _
      rw [List.filter_cons]
      have e1 : ((fun i => f ((a :: r).getD i 0)) ∘ Nat.succ) = fun i => f (r.getD i 0) := rfl
      by_cases c : f a = true
      · rw [if_pos c, if_pos c, List.map_cons, List.map_map, e1, List.map_cons]
        exact congrArg (List.cons (g a)) ih
      · rw [if_neg c, if_neg c, List.map_map, e1]
        exact ih
  exact key l
section
variable {K : PySem.W.Frag} {σ : L2.St} {H H' : Hp} {te tl : TE} {t : TT}
/-- [e for x in l if ..], l a list of ints -/
theorem el_lcI {a : Addr} {l : List Nat} {j : Nat} {vs : List Nat} (f : Nat → Bool) (g : Nat → V) (h : Ev tl σ H (.ref a)) (hx : H a = some (.lst (intsV l))) (hz : l.length ≤ 10000) (hw : ∀ x, wipe ((wipe σ vs).set j (some x)) vs = wipe σ vs)
    (ht : ∀ (k : Nat) H1, Ex H H1 → k ∈ l → EvT t ((wipe σ vs).set j (some (.int (k : Int)))) H1 (f k)) (he : ∀ (k : Nat) H1, Ex H H1 → k ∈ l → f k = true → Ev te ((wipe σ vs).set j (some (.int (k : Int)))) H1 (g k)) :
    EvL (tLc (iList K tl) (gName j) t te vs) σ H ((l.filter f).map g) := by
  rw [← given_list, ← intsV_len l]
  refine el_lcL _ _ h (SqL.of hx) (by rw [intsV_len]; omega) hw (fun i x H1 e hi => ?_) (fun i x H1 e hi hf => ?_)
  · obtain ⟨k, hk, rfl⟩ := intsV_get hi
    rw [getD_of hk]
    exact ht k H1 e (List.mem_of_getElem? hk)
  · obtain ⟨k, hk, rfl⟩ := intsV_get hi
    rw [getD_of hk] at hf ⊢
    exact he k H1 e (List.mem_of_getElem? hk) hf
theorem el_lcTI {a : Addr} {l : List Nat} {j : Nat} {vs : List Nat} (f : Nat → Bool) (g : Nat → V) (h : Ev tl σ H (.ref a)) (hx : H a = some (.tup (intsV l))) (hz : l.length ≤ 10000) (hw : ∀ x, wipe ((wipe σ vs).set j (some x)) vs = wipe σ vs)
    (ht : ∀ (k : Nat) H1, Ex H H1 → k ∈ l → EvT t ((wipe σ vs).set j (some (.int (k : Int)))) H1 (f k)) (he : ∀ (k : Nat) H1, Ex H H1 → k ∈ l → f k = true → Ev te ((wipe σ vs).set j (some (.int (k : Int)))) H1 (g k)) :
    EvL (tLc (iTup K tl) (gName j) t te vs) σ H ((l.filter f).map g) := by
  rw [← given_list, ← intsV_len l]
  refine el_lcT _ _ h hx (by rw [intsV_len]; omega) hw (fun i x H1 e hi => ?_) (fun i x H1 e hi hf => ?_)
  · obtain ⟨k, hk, rfl⟩ := intsV_get hi
    rw [getD_of hk]
    exact ht k H1 e (List.mem_of_getElem? hk)
  · obtain ⟨k, hk, rfl⟩ := intsV_get hi
    rw [getD_of hk] at hf ⊢
    exact he k H1 e (List.mem_of_getElem? hk) hf
/-- .. every item gives -/
theorem el_lcI1 {a : Addr} {l : List Nat} {j : Nat} {vs : List Nat} (g : Nat → V) (h : Ev tl σ H (.ref a)) (hx : H a = some (.lst (intsV l))) (hz : l.length ≤ 10000) (hw : ∀ x, wipe ((wipe σ vs).set j (some x)) vs = wipe σ vs)
    (he : ∀ (k : Nat) H1, Ex H H1 → k ∈ l → Ev te ((wipe σ vs).set j (some (.int (k : Int)))) H1 (g k)) : EvL (tLc (iList K tl) (gName j) tYes te vs) σ H (l.map g) := by
  have m := el_lcI (K := K) (t := tYes) (te := te) (tl := tl) (fun _ => true) g h hx hz hw (fun _ _ _ _ => et_yes) fun k H1 e hk _ => he k H1 e hk
  rw [List.filter_eq_self.mpr fun _ _ => rfl] at m
  exact m
/-- [e for x in range(n) if ..] -/
theorem el_lcR {tr : TA} {n : Nat} {j : Nat} {vs : List Nat} (f : Nat → Bool) (g : Nat → V) (h : EvA tr σ H [.int (n : Int)]) (hn : n ≤ 10000) (hw : ∀ x, wipe ((wipe σ vs).set j (some x)) vs = wipe σ vs)
    (ht : ∀ (k : Nat) H1, Ex H H1 → k < n → EvT t ((wipe σ vs).set j (some (.int (k : Int)))) H1 (f k)) (he : ∀ (k : Nat) H1, Ex H H1 → k < n → f k = true → Ev te ((wipe σ vs).set j (some (.int (k : Int)))) H1 (g k)) :
    EvL (tLc (iRng1 tr) (gName j) t te vs) σ H (((List.range n).filter f).map g) :=
  el_lcR1 f g h (by omega) hw (fun i H1 e hi => ht i H1 e (by omega)) fun i H1 e hi hf => he i H1 e (by omega) hf
theorem el_lcRy {tr : TA} {n : Nat} {j : Nat} {vs : List Nat} (g : Nat → V) (h : EvA tr σ H [.int (n : Int)]) (hn : n ≤ 10000) (hw : ∀ x, wipe ((wipe σ vs).set j (some x)) vs = wipe σ vs)
    (he : ∀ (k : Nat) H1, Ex H H1 → k < n → Ev te ((wipe σ vs).set j (some (.int (k : Int)))) H1 (g k)) : EvL (tLc (iRng1 tr) (gName j) tYes te vs) σ H ((List.range n).map g) := by
  have m := el_lcR (t := tYes) (te := te) (fun _ => true) g h hn hw (fun _ _ _ _ => et_yes) fun k H1 e hk _ => he k H1 e hk
  rw [List.filter_eq_self.mpr fun _ _ => rfl] at m
  exact m
end
theorem nats_intsV (n : Nat) : nats n = intsV (List.range n) := rfl
theorem filter_len_all {α : Type} (l : List α) (p : α → Bool) : decide (((l.filter p).length : Int) = (l.length : Int)) = l.all p := by
  induction l with
  | nil => rfl
  | cons a r ih =>
    rw [List.filter_cons, List.all_cons]
    by_cases c : p a = true
    · rw [if_pos c, c, Bool.true_and, ← ih]
      simp only [List.length_cons]
      exact decide_eq_decide.mpr (by omega)
    · have c' : p a = false := by simpa using c
      rw [if_neg c, c', Bool.false_and]
      have h1 := List.length_filter_le p r
      refine decide_eq_false ?_
      rw [List.length_cons]
      omega
end KM

/-! ## KRule2: rules of this text's own: enumerate over a list or a tuple, all of a tuple, a text times an int, an item read by values, an if that yields -/
namespace KM
open PySem PySem.Spec PyProof.Rows L2 Evl
/-! ## KRule2: ### enumerate(v) of a tuple -/
theorem enum_newB {v : Value} {o : Obj} {H : Heap → Prop} (B : Begins v o H) :
    Meets (Builtin.«enumerate.__new__» ⟨[.type "enumerate", v], []⟩) (fun _ R z => H z.heap ∧
      R (.ok (.ret (.ref (z.heap.push o).objs.size))) { z with heap := (z.heap.push o).push { cls := .type "enumerate", data := .fields #[.none, .bool false, .ref z.heap.objs.size, rawInt 0, .none, .none] } }) :=
  .of_wp fun prog w A R z hz => by
    obtain ⟨hp, gg, dd, tk, os⟩ := z
    obtain ⟨hz1, hz2⟩ := hz
    have hs := sub_enumerate
    have qi : ∀ {A' : Around} {E Q : Value → Shared → Prop}, Q (.ref hp.objs.size) ⟨hp.push o, gg, dd, tk, os⟩ → wpAny (model prog w) A' (pyIter v) Q E ⟨hp, gg, dd, tk, os⟩ :=
      fun q => B.iter prog w _ _ ⟨hp, gg, dd, tk, os⟩ _ hz1 q
    wp_walk using qi
    refine wpAny_stack_any fun st => wpAny_pure ?_
    split
    · rename_i c _ _ _ _ _
      cases (c == Value.type "enumerate") <;> (wp_walk using qi; exact ⟨_, rfl, hz2⟩)
    · wp_walk using qi
      exact ⟨_, rfl, hz2⟩
theorem enum_call {prog : Program} {w : World} {A : Around} {E : Value → Shared → Prop} {z : Shared} {v : Value} {o : Obj} {H : Heap → Prop} {Q : Value → Shared → Prop} (B : Begins v o H) (hH : H z.heap)
    (k : ∀ h', IsEnum h' (z.heap.objs.size + 1) z.heap.objs.size 0 .none → h'.get? z.heap.objs.size = some o → (∀ b u, z.heap.get? b = some u → h'.get? b = some u) → Q (.ref (z.heap.objs.size + 1)) { z with heap := h' }) :
    wpAny (model prog w) A (call (.type "enumerate") [v]) Q E z := by
  refine callType_new F.called_enumerate (by decide) (F.typeCall_enumerate_1 _) (F.newCall_enumerate_1 _) (fun obj => F.args_object_init_2 obj _) F.entry_enumerate_new (enum_newB B) ⟨hH, ?_⟩
  have sz : (z.heap.push o).objs.size = z.heap.objs.size + 1 := Heap.size_push ..
  show _ ∧ _
  rw [sz]
  have ie : IsEnum ((z.heap.push o).push { cls := .type "enumerate", data := .fields #[.none, .bool false, .ref z.heap.objs.size, rawInt 0, .none, .none] }) (z.heap.objs.size + 1) z.heap.objs.size 0 .none := by
    have y := Heap.get?_push_size (z.heap.push o) (o := { cls := .type "enumerate", data := .fields #[.none, .bool false, .ref z.heap.objs.size, rawInt 0, .none, .none] }) rfl
    rw [sz] at y
    exact y
  exact ⟨⟨_, ie, rfl⟩, k _ ie (Heap.get?_push_of_some _ (Heap.get?_push_size _ B.free)) fun b u e => Heap.get?_push_of_some _ (Heap.get?_push_of_some _ e)⟩
/-- the tuple at a, each item in a new pair -/
def Itet (K : PySem.W.Frag) (a : Addr) : It :=
  ⟨fun i H => ∃ (xs : List V) (x : V), SqT K H a xs ∧ xs[i]? = some x, fun i H v H' => ∃ T x, v = .ref T ∧ H T = none ∧ H' = upd H T (.tup [.int (i : Nat), x]) ∧ ∀ xs, SqT K H a xs → xs[i]? = some x, fun i H => ∃ xs : List V, SqT K H a xs ∧ xs.length ≤ i⟩
theorem turn_enumT {P : Program} {w : World} {K : PySem.W.Frag} {elts : List Expr} {kk : Nat} {tpos : Pos} (a e it : Addr) :
    Turn P w K (.Tuple elts kk tpos) (Itet K a) [e, it] e (fun i h => (∃ old, IsEnum h e it ((i : Nat) : Int) old) ∧ h.IsTupleIter it a i ∧ e ≠ it ∧ a ≠ it ∧ a ≠ e) where
  mem := by simp
  obj := fun i h st b hb => by
    obtain ⟨⟨old, hen⟩, ⟨ob, ho, hcl, hdt⟩, _⟩ := st
    have z : b = e ∨ b = it := by simpa using hb
    rcases z with z | z
    · rw [z]
      exact ⟨_, hen, fun v q => by cases q⟩
    · exact ⟨ob, by rw [z]; exact ho, fun v q => by rw [hdt] at q; cases q⟩
  keep := fun i h h' st k => let ⟨⟨old, hen⟩, hi, r⟩ := st; ⟨⟨old, k e (by simp) _ hen⟩, hi.at fun ob q => k it (by simp) ob q, r⟩
  item := by
    intro X hP hw hK hc i pins s σ H E I hf st hg
    subst hP hw hK
    obtain ⟨⟨old, hen⟩, hit, hne, hai, hae⟩ := st
    obtain ⟨xs, x, hq, hx⟩ := hg
    obtain ⟨its, rv, p, hz⟩ := I.tuple hq
    obtain ⟨u, hu, ru⟩ := rv.get hx
    have lte : e < s.heap.objs.size := Heap.lt_size hen
    have lti : it < s.heap.objs.size := by
      obtain ⟨_, q, _⟩ := hit
      exact Heap.lt_size q
    have hl : i < its.toArray.size := by
      have := (List.getElem?_eq_some_iff.mp hu).1
      simpa using this
    have hTup : s.heap.IsTuple a its.toArray := p
    refine wpAny_pyNext_enum_itemD (Draws.tuple (A := X.A.in1) (I.ok.hd hc) it a hai its.toArray) hen ⟨hit, hTup⟩ hl hne (fun z => ?_) fun y h' tk hy ho hst hT hsz hk => ?_
    · have z2 : e = it ∨ e = a := by simpa using z
      rcases z2 with z2 | z2
      · exact hne z2
      · exact hae z2.symm
    have ey : y = u := by
      have q1 : its.toArray[i]? = some u := by simpa using hu
      rw [q1] at hy
      exact (Option.some.inj hy).symm
    subst ey
    refine ⟨_, rfl, wpAny_letOwnedTupleGo_enum (s := { s with heap := h', toks := tk + 1 }) ho fun h2 he2 sb => ?_⟩
    have hT2 : h2.get? s.heap.objs.size = some { cls := .type "tuple", data := .seq #[.int i tk, y] } := (sb.2 _ (Nat.ne_of_gt lte)).trans hT
    have new : ObjOk X.prog X.w (upd H s.heap.objs.size (.tup [.int (i : Nat), x])) h2 s.heap.objs.size (.tup [.int (i : Nat), x]) :=
      ⟨by show 2 ≤ sizeLine; decide, [.int i tk, y], .cons ⟨_, rfl⟩ (.cons ru .nil), ⟨_, hT2, rfl, _, rfl⟩⟩
    have I1 : Inv X pins σ (upd H s.heap.objs.size (.tup [.int (i : Nat), x])) { s with heap := h2, toks := tk + 1 } :=
      I.turnedNew (ch := [e, it]) (fun b ob hb q => (sb.2 b fun z => hb (by simp [z])).trans (hk b ob (fun z => hb (by simp [z])) (fun z => hb (by simp [z])) q)) hf (Nat.le_refl _) new
    refine ⟨.ref s.heap.objs.size, _, I1, rfl, ⟨_, x, rfl, I.hok.fresh (Nat.le_refl _), rfl, fun ys hy => by rw [I.tuple_inj hy hq]; exact hx⟩, ⟨⟨y, ?_⟩, hst.1.at fun ob q => (sb.2 it (Ne.symm hne)).trans q, hne, hai, hae⟩, fun b hb => ?_⟩
    · rw [show ((i + 1 : Nat) : Int) = (i : Int) + 1 by omega]
      exact he2
    · have z : b = e ∨ b = it := by simpa using hb
      have lb : b < s.heap.objs.size := by
        rcases z with z | z
        · rw [z]; exact lte
        · rw [z]; exact lti
      rw [upd_ne (Nat.ne_of_lt lb)]
      exact (hf b hb).1
  done := by
    intro X hP hw hK hc i pins s σ H E I hf st hg
    subst hP hw hK
    obtain ⟨⟨old, hen⟩, hit, hne, hai, hae⟩ := st
    obtain ⟨xs, hq, hx⟩ := hg
    obtain ⟨its, rv, p, hz⟩ := I.tuple hq
    obtain ⟨f0, f1, f2, f3, f4, f5⟩ := hf it (by simp)
    have hl := rv.length
    have hTup : s.heap.IsTuple a its.toArray := p
    -- the iterator is at or behind the end: the tuple's own rule
    have hT : s.TypeIs (.ref e) "enumerate" := ⟨_, hen, rfl⟩
    unfold pyNext
    refine wpAny_bind (wpAny_attempt (wpAny_callSpecial?_slot (name := Str.ofString "__next__") hT F.slot_enumerate_next (wpAny_call_entry F.slot_enumerate_next hT F.entry_enumerate_next ?_ (F.args_enumerate_next_1 _))))
    show wpAny _ _ (field (.ref e) 2 >>= _) _ _ _
    refine wpAny_bind (wpAny_field hen rfl (x := .ref it) rfl ?_)
    refine wpAny_bind (wpAny_nextOf_tuple_end (A := X.A.in1) (I.ok.hd hc) hit hTup (by simp; omega) fun h' x2 he' hx' => ?_)
    obtain ⟨ob, ho, hcl⟩ := hx'
    refine wpAny_bind (wpAny_isInstance (T := "StopIteration") (b := true) ⟨ob, ho, hcl⟩ isSubtype_stop ?_)
    exact wpAny_pure ⟨rfl, I.turned (t' := s.toks) (fun b o hb q => he' b o hb q) f0 f1 f3 f4 f5⟩
  self := fun A i s Q E st h => let ⟨⟨_, hen⟩, _⟩ := st; wpAny_pyIter_enum hen h
/-- enumerate(v), v a list or a tuple -/
def iEnumQ (K : PySem.W.Frag) (ta : TA) : TI := fun σ H R => ta σ H fun vs H1 => ∃ a xs, vs = [.ref a] ∧ ((SqL K H1 a xs ∧ R (Ite K a) H1) ∨ (SqT K H1 a xs ∧ R (Itet K a) H1))
theorem piEnum {X : Cx} {K : PySem.W.Frag} {e : Expr} {ta : TA} {p pos tpos : Pos} {elts : List Expr} {kk : Nat} (hg : Gl X "enumerate") (hm : X.mg "enumerate" = none) (ha : PA X [e] ta) (hs : starEach [e] X.env = [(false, eval e X.env)] := by rfl) (hK : X.K = K := by rfl) :
    PI X (.Tuple elts kk tpos) (.Call (.Name "enumerate" p) [e] [] pos) (iEnumQ K ta) := by
  subst hK
  refine ⟨fun pins s σ H R I h => ?_⟩
  refine Call_ (ld_blt I hg hm boot_enumerate (PyProof.Rows.callWith_type1 (thn (ha.run pos pins s σ H _ I h) fun us s1 ⟨vs, H1, I1, r1, q1⟩ => ?_) hs rfl))
  obtain ⟨a, xs, ex, hq⟩ := q1
  subst ex
  have eu := Vals.ref1 r1
  subst eu
  rcases hq with ⟨hq, q⟩ | ⟨hq, q⟩
  · obtain ⟨its, rv, p', hz⟩ := I1.list hq
    refine call_enumerate_list p'.isList fun h' he hit hsz hk => wpAny_pyIter_enum he ?_
    have I2 : Inv X pins σ H1 { s1 with heap := h' } := I1.kept (t' := s1.toks) hk
    refine ⟨s1.heap.objs.size + 1, [s1.heap.objs.size + 1, s1.heap.objs.size], _, _, H1, rfl, I2, turn_enum a (s1.heap.objs.size + 1) s1.heap.objs.size, ⟨⟨.none, he⟩, hit, Nat.succ_ne_self _⟩, fun b hb => ?_, q⟩
    have z : b = s1.heap.objs.size + 1 ∨ b = s1.heap.objs.size := by simpa using hb
    have le : s1.heap.objs.size ≤ b := by rcases z with z | z <;> (rw [z]; first | exact Nat.le_succ _ | exact Nat.le_refl _)
    exact I1.fpOk le (I1.hok.fresh le)
  · obtain ⟨its, rv, p', hz⟩ := I1.tuple hq
    have hTup : s1.heap.IsTuple a its.toArray := p'
    have lta : a < s1.heap.objs.size := p'.lt
    refine enum_call (begins_tuple a its.toArray) hTup fun h' he hit hk => wpAny_pyIter_enum he ?_
    have I2 : Inv X pins σ H1 { s1 with heap := h' } := I1.kept (t' := s1.toks) hk
    refine ⟨s1.heap.objs.size + 1, [s1.heap.objs.size + 1, s1.heap.objs.size], _, _, H1, rfl, I2, turn_enumT a (s1.heap.objs.size + 1) s1.heap.objs.size,
      ⟨⟨.none, he⟩, ⟨_, hit, rfl, rfl⟩, Nat.succ_ne_self _, Nat.ne_of_lt lta, Nat.ne_of_lt (Nat.lt_succ_of_lt lta)⟩, fun b hb => ?_, q⟩
    have z : b = s1.heap.objs.size + 1 ∨ b = s1.heap.objs.size := by simpa using hb
    have le : s1.heap.objs.size ≤ b := by rcases z with z | z <;> (rw [z]; first | exact Nat.le_succ _ | exact Nat.le_refl _)
    exact I1.fpOk le (I1.hok.fresh le)
/-! ## KRule2: ### all(t), t a tuple of bools -/
def rAllT (K : PySem.W.Frag) : List V → Hp → VK → Prop := fun vs H Q => ∃ (a : Addr) (bs : List Bool), vs = [V.ref a] ∧ SqT K H a (bs.map V.bl) ∧ Q (.bl (bs.all id)) H
theorem callAT {X : Cx} {K : PySem.W.Frag} (hc : X.calm = true) (hK : X.K = K := by rfl) : CallR X (.builtin "all") (rAllT K) := by
  subst hK
  intro pins s σ H vs us Q I r h
  obtain ⟨a, bs, rfl, hs, q⟩ := h
  obtain ⟨its, rv, hl, _⟩ := I.tuple hs
  rw [Vals.ref1 r]
  have hb := rv.bls
  have lta : a < s.heap.objs.size := hl.lt
  have hTup : s.heap.IsTuple a its.toArray := hl
  refine call_all_walk (wpAny_pyIter_tuple hTup ?_)
  have st : Heap.IsTupleIter (s.heap.push { cls := .type "tuple_iterator", data := .fields #[.ref a, .int 0 0] }) s.heap.objs.size a 0 := ⟨_, Heap.get?_push_size _ rfl, rfl, rfl⟩
  have hTup2 : Heap.IsTuple (s.heap.push { cls := .type "tuple_iterator", data := .fields #[.ref a, .int 0 0] }) a its.toArray := hTup.at fun o e => Heap.get?_push_of_some _ e
  refine ⟨_, _, _, _, _, _, _, rfl, Walks.tuple (A := X.A.in1) (I.ok.hd hc) _ a (Nat.ne_of_lt lta) its.toArray, ⟨st, hTup2⟩, truth_bools hb, fun h' tk hk => ?_⟩
  refine ⟨.bl _, H, I.kept fun b o eo => hk b o (fun hm => ?_) (Heap.get?_push_of_some _ eo), ?_, q⟩
  · rw [List.mem_singleton.mp hm] at eo
    exact absurd (Heap.lt_size eo) (Nat.lt_irrefl _)
  · show Value.bool _ = Value.bool _
    rw [← L2.all_range, hb, List.size_toArray, List.length_map]
/-- all(xs), all(t) -/
theorem callAQ {X : Cx} {K : PySem.W.Frag} (hc : X.calm = true) (hK : X.K = K := by rfl) : CallR X (.builtin "all") (fun vs H Q => rAll K vs H Q ∨ rAllT K vs H Q) := (callA hc hK).or (callAT hc hK)
/-! ## KRule2: ### a text times an int: some text -/
theorem size_rep (a : Array CodePoint) : ∀ (n : Nat) (b : Array CodePoint), ((List.replicate n a).foldl (· ++ ·) b).size = b.size + n * a.size
  | 0, b => by simp
  | n + 1, b => by
    rw [List.replicate_succ, List.foldl_cons, size_rep a n, Array.size_append, Nat.succ_mul]
    omega
theorem op_mulS {X : Cx} : OpR X (binaryOp .Mult) (fun x y H Q => ∃ (z : Str) (n : Nat), x = .str z ∧ y = .int (n : Int) ∧ z.length * n ≤ 1000 ∧ n ≤ 1000 ∧ ∀ r : Str, Q (.str r) H) := by
  intro pins s σ H x y v u Q I rx ry h
  obtain ⟨z, n, rfl, rfl, h1, h2, q⟩ := h
  obtain ⟨t, rfl⟩ := rx
  obtain ⟨t', rfl⟩ := ry
  refine PySem.P.mul_str ?_ (fun h3 _ h4 => ?_) (fun _ _ => ?_) ?_
  · rw [Bool.or_eq_false_iff]
    exact ⟨decide_eq_false (by omega), decide_eq_false (by omega)⟩
  · have hn : (0 : Int) < n := by omega
    have h5 : (2 ^ 63 - 1 : Int) / (n : Int) ≥ 1000 := by
      refine Int.le_ediv_of_mul_le hn ?_
      omega
    have h6 : z.length ≤ 1000 := by
      have : z.length * 1 ≤ z.length * n := Nat.mul_le_mul_left _ (by omega)
      omega
    omega
  · unfold Builtin.Str.tooLong
    refine decide_eq_false ?_
    rw [sizeLine_eq, Int.toNat_natCast]
    omega
  · by_cases c1 : (n : Int) < 1
    · rw [if_pos c1]
      exact ⟨by decide, .str _, H, I.tok _, ⟨_, rfl⟩, q _⟩
    · rw [if_neg c1]
      by_cases c2 : ((n : Int) == 1 || z.length == 0) = true
      · rw [if_pos c2]
        exact ⟨.str z, H, I, ⟨_, rfl⟩, q _⟩
      · rw [if_neg c2]
        refine ⟨?_, .str _, H, I.tok _, ⟨_, rfl⟩, q _⟩
        show ((List.replicate (n : Int).toNat z.cps).foldl (· ++ ·) #[]).size ≤ sizeLine
        rw [size_rep, sizeLine_eq, Int.toNat_natCast]
        have : n * z.cps.size ≤ 1000 := by
          rw [Nat.mul_comm]
          exact h1
        show 0 + n * z.cps.size ≤ _
        omega
/-! ## KRule2: ### xs[i], by values -/
def rGetL (K : PySem.W.Frag) : V → V → Hp → VK → Prop := fun x y H Q => ∃ p xs i v, x = .ref p ∧ y = .int i ∧ SqL K H p xs ∧ atI xs i = some v ∧ Q v H
theorem get_list {X : Cx} {K : PySem.W.Frag} (hK : X.K = K := by rfl) : PGet X (rGetL K) := by
  subst hK
  intro pins s σ H x y v u Q I rx ry h
  obtain ⟨p, xs, i, z, rfl, rfl, hq, he, q⟩ := h
  cases rx
  obtain ⟨t, rfl⟩ := ry
  obtain ⟨its, r, pl, hz⟩ := I.list hq
  obtain ⟨j, h1, h2, h3, h4, h5⟩ := atI_get he
  obtain ⟨w, ew, rw'⟩ := r.get h2
  have hl := r.length
  have hn := line63
  have fin : EP X pins σ Q w s := ⟨z, H, I, rw', q⟩
  by_cases h0 : 0 ≤ i
  · have hj : i.toNat = j := by
      rw [seqIndex_of h0 h5] at h1
      exact Option.some.inj h1
    exact wpAny_getItem_list pl.isList h0 (by omega) (by rw [hj]; simpa using ew) fin
  · have hj : (i + (its.toArray.size : Int)).toNat = j := by
      rw [seqIndex_neg (by omega) h4] at h1
      rw [List.size_toArray, ← hl]
      exact Option.some.inj h1
    exact wpAny_getItem_list_neg pl.isList (by omega) (by rw [List.size_toArray] <;> omega) (by omega) (by rw [hj]; simpa using ew) fin
end KM

/-! ## KD1: the defs of the lattice module -/
namespace KM
open PySem PySem.Spec PyProof.Rows L2 Evl
section
variable {P : Program} {w : World} {K : PySem.W.Frag} {mg : Str → Option Value} {base : Heap} {CX : CXT} {f : Addr} {fd : FuncData}
/-! ## KD1: ### turned_rows -/
abbrev nl_turned_rows : List Str := ["table", "numbers", "y", "x"]
theorem sc_turned_rows : FnScope nl_turned_rows ["table"] (defScope s_turned_rows) := ⟨rfl, rfl, rfl, by decide +kernel, rfl, by decide +kernel, by decide +kernel⟩
-- slots: 0:table 1:numbers 2:y 3:x
def spTurned : Sp := fun vs H Q _ => ∃ (a : Addr) (L : Lt), vs = [.ref a] ∧ L.n ≤ 16 ∧ S2 .tup .tup H a (tblV L) ∧ RetS .tup .tup (tblV L.dual) H Q
theorem ok_turned_rows (F : At K "turned_rows" "turned_rows" s_turned_rows f fd) (T : Tx K mg) : FnOk P w K mg base CX 1 f fd ["table"] spTurned := by
  refine F.ok sc_turned_rows (fun vs H Q E h => ?_) (fun cdv A outer s H vs Q E hr h => ?_)
  · obtain ⟨a, L, rfl, _⟩ := h
    rfl
  obtain ⟨a, L, rfl, hn, hT, q⟩ := h
  refine ⟨_, PSs.nox (pss_cons (ps_set (i := 1) sc_turned_rows.nd rfl (by first | exact Or.inl rfl | exact Or.inr rfl) (pe_listRg rfl (by rfl) T.m_list (prg_1 (by rfl) T.m_range (pe_callB (clen (K := K)) (by rfl) T.m_len (by decide +kernel) (pa_cons (pv 0) pa_nil)))))
    (pss_one (ps_ret (pe_callTy (ctup (K := K)) (by rfl) T.m_tuple (by decide +kernel) (pa_cons (pe_lc (own := [("x", 3)]) (g := gName 3) (tt := tYes) rfl sc_turned_rows.nd (piL (K := K) (pv 1)) (blkOk_by (N := nl_turned_rows) (sc := (defScope s_turned_rows)) (by decide +kernel)) (fun _ _ _ _ _ => pg_name (i := 3) sc_turned_rows.nd rfl (by first | exact Or.inl rfl | exact Or.inr rfl)) (fun _ _ _ _ _ => pts_nil) (by intro _ _ _ _ _; exact (pe_callTy (ctup (K := K)) (by rfl) T.m_tuple (by decide +kernel) (pa_cons (pe_lc (own := [("y", 2)]) (g := gName 2) (tt := tYes) rfl sc_turned_rows.nd (piL (K := K) (pv 1)) (blkOk_by (N := nl_turned_rows) (sc := (relS _ (defScope s_turned_rows))) (by decide +kernel)) (fun _ _ _ _ _ => pg_name (i := 2) sc_turned_rows.nd rfl (by first | exact Or.inl rfl | exact Or.inr rfl)) (fun _ _ _ _ _ => pts_nil) (by intro _ _ _ _ _; exact (pe_ix (ixq (K := K)) (pe_ix (ixq (K := K)) (pv 0) (pv 2) (fun _ _ => rfl)) (pv 3) (fun _ _ => rfl)))) pa_nil)))) pa_nil))))), ?_⟩
  refine q_asgL (el_lrg (ev_lenST (ea_cons (ev_var rfl) ea_nil) hT (rowsTo_len _ _)) (by omega)) fun p H1 hp e1 h1 => ?_
  refine s_retS (rows := tblV L.dual) (es_tup ?_) fun z H2 hz e2 h2 => q z H2 (fresh_back e1 hz) (e1.trans e2) h2
  have hN : (nats L.n).length = L.n := nats_length _
  have main := es_lcL (K := K) (m := .tup) (j := 3) (vs := [3]) (σ := (start nl_turned_rows [V.ref a]).set 1 (some (V.ref p))) (H := H1) (te := tCB (rTupS K) (tCons (tLc (iList K (tVar 1)) (gName 2) tYes (tOp (rIx K) (tOp (rIx K) (tVar 0) (tVar 2)) (tVar 3)) [2]) tNil))
    (rowB L.dual) (ev_var (i := 1) rfl) h1 (by rw [hN]; omega) (fun _ => rfl) (fun i x H2 e2 hx => ?_)
  · rw [hN] at main
    exact main
  · obtain ⟨hi, rfl⟩ := nats_at hx
    have hT2 := (hT.ex e1).ex e2
    refine eu_tupN ?_
    exact el_lcI1 (l := List.range L.n) (fun y => V.bl (L.le y i)) (ev_var (i := 1) rfl) (e2 _ _ h1) (by rw [List.length_range]; omega) (fun _ => rfl) fun y H3 e3 hy => ev_tblT (ev_var rfl) (ev_var rfl) (ev_var rfl) (hT2.ex e3) (List.mem_range.mp hy) hi
/-! ## KD1: ### least_above -/
abbrev nl_least_above : List Str := ["table", "one", "other", "above", "z", "w"]
theorem sc_least_above : FnScope nl_least_above ["table", "one", "other"] (defScope s_least_above) := ⟨rfl, rfl, rfl, by decide +kernel, rfl, by decide +kernel, by decide +kernel⟩
-- slots: 0:table 1:one 2:other 3:above 4:z 5:w
def spLeast : Sp := fun vs H Q _ => ∃ (a : Addr) (L : Lt) (x y : Nat), vs = [.ref a, .int (x : Int), .int (y : Int)] ∧ L.n ≤ 16 ∧ x < L.n ∧ y < L.n ∧ S2 .tup .tup H a (tblV L) ∧ L.lubs x y ≠ [] ∧ RetV (.int ((L.jn x y : Nat) : Int)) H Q
theorem ok_least_above (F : At K "least_above" "least_above" s_least_above f fd) (T : Tx K mg) : FnOk P w K mg base CX 1 f fd ["table", "one", "other"] spLeast := by
  refine F.ok sc_least_above (fun vs H Q E h => ?_) (fun cdv A outer s H vs Q E hr h => ?_)
  · obtain ⟨a, L, x, y, rfl, _⟩ := h
    rfl
  obtain ⟨a, L, x, y, rfl, hn, hx, hy, hT, hne, q⟩ := h
  refine ⟨_, PSs.nox (pss_cons (ps_setLc (i := 3) (own := [("z", 4)]) (g := gName 4) rfl sc_least_above.nd rfl rfl (sw_true rfl rfl rfl (by decide +kernel)) (pi_range1 (by rfl) T.m_range (pa_cons (pe_callB (clen (K := K)) (by rfl) T.m_len (by decide +kernel) (pa_cons (pv 0) pa_nil)) pa_nil)) (blkOk_by (N := nl_least_above) (sc := (defScope s_least_above)) (by decide +kernel)) (fun _ _ _ _ _ => pg_name (i := 4) sc_least_above.nd rfl (by first | exact Or.inl rfl | exact Or.inr rfl)) (by intro _ _ _ _ _; exact pts_one (PW.pt (pw_and (pt_val (pe_ix (ixq (K := K)) (pe_ix (ixq (K := K)) (pv 0) (pv 1) (fun _ _ => rfl)) (pv 4) (fun _ _ => rfl))) (pw_and1 (pt_val (pe_ix (ixq (K := K)) (pe_ix (ixq (K := K)) (pv 0) (pv 2) (fun _ _ => rfl)) (pv 4) (fun _ _ => rfl))))))) (by intro _ _ _ _ _; exact (pv 4)))
    (pss_cons (ps_for PassesOwn.never rfl (piL (K := K) (pv 3)) (pg_name (i := 4) sc_least_above.nd rfl (by first | exact Or.inl rfl | exact Or.inr rfl))
      (pss_one (ps_if (pt_val (pe_callB (callA (K := K) rfl) (by rfl) T.m_all (by decide +kernel) (pa_cons (pe_lc (own := [("w", 5)]) (g := gName 5) (tt := tYes) rfl sc_least_above.nd (piL (K := K) (pv 3)) (blkOk_by (N := nl_least_above) (sc := (defScope s_least_above)) (by decide +kernel)) (fun _ _ _ _ _ => pg_name (i := 5) sc_least_above.nd rfl (by first | exact Or.inl rfl | exact Or.inr rfl)) (fun _ _ _ _ _ => pts_nil) (by intro _ _ _ _ _; exact (pe_ix (ixq (K := K)) (pe_ix (ixq (K := K)) (pv 0) (pv 4) (fun _ _ => rfl)) (pv 5) (fun _ _ => rfl)))) pa_nil)))
        (pss_one (ps_ret (pv 4)))
        pss_nil)))
    (pss_one (ps_ret pe_non)))), ?_⟩
  have hlen : (L.ups x y).length ≤ 16 := Nat.le_trans (List.length_filter_le _ _) (by rw [List.length_range]; exact hn)
  refine q_asgL (xs := intsV (L.ups x y)) ?_ fun p H1 hp e1 h1 => ?_
  · exact el_lcR (fun z => L.le x z && L.le y z) (fun z => V.int ((z : Nat) : Int)) (ea_cons (ev_lenST (ea_cons (ev_var rfl) ea_nil) hT (rowsTo_len _ _)) ea_nil) (by omega) (fun _ => rfl)
      (fun k H1 e1 hk => et_and (et_B (ev_tblT (ev_var rfl) (ev_var rfl) (ev_var rfl) (hT.ex e1) hx hk)) fun _ => et_B (ev_tblT (ev_var rfl) (ev_var rfl) (ev_var rfl) (hT.ex e1) hy hk)) fun k H1 e1 hk _ => ev_var rfl
  have hT1 := hT.ex e1
  -- for z in above: if all([table[z][w] for w in above]): return z
  refine q_forLn (a := p) (xs := intsV (L.ups x y)) (ev_var rfl) (SqL.of h1)
    (fun i σ' H' => Ex H1 H' ∧ (∃ v, σ' = [some (.ref a), some (.int (x : Int)), some (.int (y : Int)), some (.ref p), v, none]) ∧ ∀ j z, j < i → (L.ups x y)[j]? = some z → ((L.ups x y).all fun w => L.le z w) = false)
    (fun H2 e2 => ⟨e2, ⟨none, rfl⟩, fun j z hj => absurd hj (Nat.not_lt_zero j)⟩) (fun i σ' H' _ h => SqL.of (h.1 _ _ h1)) (fun i z σ' H' hz hP => ?_) (fun σ' H' hP => ?_)
  · obtain ⟨e2, ⟨v, rfl⟩, hb⟩ := hP
    obtain ⟨k, hk, rfl⟩ := intsV_get hz
    have hkn : k < L.n := (mem_ups.mp (List.mem_of_getElem? hk)).1
    refine s_when (b := (L.ups x y).all fun w => L.le k w) (et_B (ev_is (v := .bl (((L.ups x y).map fun w => L.le k w).all id)) (ev_allN ?_) ?_)) (fun hb1 H3 e3 => ?_) (fun hb0 H3 e3 => ?_)
    · rw [List.map_map]
      exact el_lcI1 (fun w => V.bl (L.le k w)) (ev_var (i := 3) rfl) (e2 _ _ h1) (by omega) (fun _ => rfl) fun w H3 e3 hw => ev_tblT (ev_var rfl) (ev_var rfl) (ev_var rfl) ((hT1.ex e2).ex e3) hkn (mem_ups.mp hw).1
    · rw [List.all_map]
      rfl
    · refine s_ret (ev_var rfl) fun H4 e4 => ?_
      have e6 : L.jn x y = k := filter_first hk hb1 hb
      have q2 := q.go (((e1.trans e2).trans e3).trans e4)
      rw [e6] at q2
      exact q2
    · refine ⟨e2.trans e3, ⟨_, rfl⟩, fun j z hj hzz => ?_⟩
      by_cases c : j < i
      · exact hb j z c hzz
      · have e7 : j = i := by omega
        subst e7
        rw [hk] at hzz
        rw [← Option.some.inj hzz]
        exact hb0
  · obtain ⟨e2, _, hb⟩ := hP
    exfalso
    refine hne (filter_none fun j z hz => hb j z ?_ hz)
    rw [intsV_len]
    exact (List.getElem?_eq_some_iff.mp hz).1
end
end KM

/-! ## KD2: the defs of the lattice module: check_order, lower_covers -/
namespace KM
open PySem PySem.Spec PyProof.Rows L2 Evl
/-- numbers[x + 1:] -/
theorem cut_nats {n x : Nat} : cutV (nats n) (some ((x : Int) + 1)) none = (List.range (n - (x + 1))).map fun i => V.int ((x + 1 + i : Nat) : Int) := by
  unfold cutV
  rw [show ((x : Int) + 1) = ((x + 1 : Nat) : Int) by omega, HT.sIx_nat, HT.sIx_none, nats_length]
  refine List.ext_getElem? fun i => ?_
  by_cases c : i < n - (x + 1)
  · rw [List.getElem?_take_of_lt (by omega), List.getElem?_drop, List.getElem?_map, List.getElem?_range c, nats_get (by omega), show min (x + 1) n + i = x + 1 + i by omega]
    rfl
  · rw [List.getElem?_eq_none (by rw [List.length_take, List.length_drop, nats_length]; omega), List.getElem?_eq_none (by rw [List.length_map, List.length_range]; omega)]
theorem cut_at {n x i : Nat} {v : V} (h : (cutV (nats n) (some ((x : Int) + 1)) none)[i]? = some v) : x + 1 + i < n ∧ v = .int ((x + 1 + i : Nat) : Int) := by
  rw [cut_nats, List.getElem?_map] at h
  by_cases c : i < n - (x + 1)
  · rw [List.getElem?_range c] at h
    exact ⟨by omega, (Option.some.inj h).symm⟩
  · rw [List.getElem?_eq_none (by rw [List.length_range]; omega)] at h
    cases h
theorem cut_len {n x : Nat} : (cutV (nats n) (some ((x : Int) + 1)) none).length = n - (x + 1) := by rw [cut_nats, List.length_map, List.length_range]
theorem rv_neN {H : Hp} (k x : Nat) : RV rNe (.int (k : Int)) (.int (x : Int)) H (.bl (!decide (k = x))) := by
  have h := rv_ne (H := H) (x := V.int (k : Int)) (y := V.int (x : Int)) rfl
  rwa [show decide (V.int (k : Int) = V.int (x : Int)) = decide (k = x) from decide_eq_decide.mpr ⟨fun z => by cases z; rfl, fun z => by rw [z]⟩] at h
theorem rv_eqN {H : Hp} (k x : Nat) : RV rEq (.int (k : Int)) (.int (x : Int)) H (.bl (decide (k = x))) := by
  have h := rv_eq (H := H) (x := V.int (k : Int)) (y := V.int (x : Int)) rfl
  rwa [show decide (V.int (k : Int) = V.int (x : Int)) = decide (k = x) from decide_eq_decide.mpr ⟨fun z => by cases z; rfl, fun z => by rw [z]⟩] at h
section
variable {P : Program} {w : World} {K : PySem.W.Frag} {mg : Str → Option Value} {base : Heap} {CX : CXT} {f : Addr} {fd : FuncData}
/-! ## KD2: ### check_order -/
abbrev nl_check_order : List Str := ["table", "numbers", "x", "y", "z"]
theorem sc_check_order : FnScope nl_check_order ["table"] (defScope s_check_order) := ⟨rfl, rfl, rfl, by decide +kernel, rfl, by decide +kernel, by decide +kernel⟩
-- slots: 0:table 1:numbers 2:x 3:y 4:z
def spOrder : Sp := fun vs H Q _ => ∃ (a : Addr) (L : Lt), vs = [.ref a] ∧ L.n ≤ 16 ∧ Ord L ∧ S2 .tup .tup H a (tblV L) ∧ RetV .non H Q
theorem ok_check_order (F : At K "check_order" "check_order" s_check_order f fd) (T : Tx K mg) : FnOk P w K mg base CX 1 f fd ["table"] spOrder := by
  refine F.ok sc_check_order (fun vs H Q E h => ?_) (fun cdv A outer s H vs Q E hr h => ?_)
  · obtain ⟨a, L, rfl, _⟩ := h
    rfl
  obtain ⟨a, L, rfl, hn, O, hT, q⟩ := h
  refine ⟨_, PSs.nox (pss_cons (ps_set (i := 1) sc_check_order.nd rfl (by first | exact Or.inl rfl | exact Or.inr rfl) (pe_listRg rfl (by rfl) T.m_list (prg_1 (by rfl) T.m_range (pe_callB (clen (K := K)) (by rfl) T.m_len (by decide +kernel) (pa_cons (pv 0) pa_nil)))))
    (pss_cons (ps_for PassesOwn.never rfl (piL (K := K) (pv 1)) (pg_name (i := 2) sc_check_order.nd rfl (by first | exact Or.inl rfl | exact Or.inr rfl))
      (pss_one (ps_if (pt_not (pt_val (pe_ix (ixq (K := K)) (pe_ix (ixq (K := K)) (pv 0) (pv 2) (fun _ _ => rfl)) (pv 2) (fun _ _ => rfl))))
        (pss_one ps_never)
        pss_nil)))
    (pss_cons (ps_for PassesOwn.never rfl (piL (K := K) (pv 1)) (pg_name (i := 2) sc_check_order.nd rfl (by first | exact Or.inl rfl | exact Or.inr rfl))
      (pss_one (ps_for PassesOwn.never rfl (piL (K := K) (pe_slice (slL (K := K)) (pv 1) (po_some (pe_op op_add (pv 2) pe_int)) po_none)) (pg_name (i := 3) sc_check_order.nd rfl (by first | exact Or.inl rfl | exact Or.inr rfl))
        (pss_one (ps_if (PW.pt (pw_and (pt_val (pe_ix (ixq (K := K)) (pe_ix (ixq (K := K)) (pv 0) (pv 2) (fun _ _ => rfl)) (pv 3) (fun _ _ => rfl))) (pw_and1 (pt_val (pe_ix (ixq (K := K)) (pe_ix (ixq (K := K)) (pv 0) (pv 3) (fun _ _ => rfl)) (pv 2) (fun _ _ => rfl))))))
          (pss_one ps_never)
          pss_nil)))))
    (pss_one (ps_for PassesOwn.never rfl (piL (K := K) (pv 1)) (pg_name (i := 2) sc_check_order.nd rfl (by first | exact Or.inl rfl | exact Or.inr rfl))
      (pss_one (ps_for PassesOwn.never rfl (piL (K := K) (pv 1)) (pg_name (i := 3) sc_check_order.nd rfl (by first | exact Or.inl rfl | exact Or.inr rfl))
        (pss_one (ps_if (pt_val (pe_ix (ixq (K := K)) (pe_ix (ixq (K := K)) (pv 0) (pv 2) (fun _ _ => rfl)) (pv 3) (fun _ _ => rfl)))
          (pss_one (ps_for PassesOwn.never rfl (piL (K := K) (pv 1)) (pg_name (i := 4) sc_check_order.nd rfl (by first | exact Or.inl rfl | exact Or.inr rfl))
            (pss_one (ps_if (PW.pt (pw_and (pt_val (pe_ix (ixq (K := K)) (pe_ix (ixq (K := K)) (pv 0) (pv 3) (fun _ _ => rfl)) (pv 4) (fun _ _ => rfl))) (pw_and1 (pt_not (pt_val (pe_ix (ixq (K := K)) (pe_ix (ixq (K := K)) (pv 0) (pv 2) (fun _ _ => rfl)) (pv 4) (fun _ _ => rfl)))))))
              (pss_one ps_never)
              pss_nil))))
          pss_nil))))))))), ?_⟩
  refine q_asgL (el_lrg (ev_lenST (ea_cons (ev_var rfl) ea_nil) hT (rowsTo_len _ _)) (by omega)) fun p H1 hp e1 h1 => ?_
  have hT1 := hT.ex e1
  have hN : (nats L.n).length = L.n := nats_length _
  -- the first loop: every place below itself
  refine q_forLn (a := p) (xs := nats L.n) (ev_var rfl) (SqL.of h1) (fun i σ' H' => Ex H1 H' ∧ ∃ vx vy vz, σ' = [some (.ref a), some (.ref p), vx, vy, vz])
    (fun H2 e2 => ⟨e2, none, none, none, rfl⟩) (fun i σ' H' _ h => SqL.of (h.1 _ _ h1)) (fun i x σ' H' hx hP => ?_) (fun σ' H' hP => ?_)
  · obtain ⟨e2, vx, vy, vz, rfl⟩ := hP
    obtain ⟨hi, rfl⟩ := nats_at hx
    refine s_when (b := !L.le i i) (et_not (et_B (ev_tblT (ev_var rfl) (ev_var rfl) (ev_var rfl) (hT1.ex e2) hi hi))) (fun hb H3 e3 => ?_) (fun hb H3 e3 => ⟨e2.trans e3, _, _, _, rfl⟩)
    rw [O.refl i hi] at hb
    cases hb
  obtain ⟨e2, vx, vy, vz, rfl⟩ := hP
  -- the second: no two below each other
  refine q_forLn (a := p) (xs := nats L.n) (ev_var rfl) (SqL.of (e2 _ _ h1)) (fun i σ' H' => Ex H1 H' ∧ ∃ vx vy vz, σ' = [some (.ref a), some (.ref p), vx, vy, vz])
    (fun H2 e3 => ⟨e2.trans e3, _, _, _, rfl⟩) (fun i σ' H' _ h => SqL.of (h.1 _ _ h1)) (fun i x σ' H' hx hP => ?_) (fun σ' H' hP => ?_)
  · obtain ⟨e2, vx, vy, vz, rfl⟩ := hP
    obtain ⟨hi, rfl⟩ := nats_at hx
    refine s_forNL (el_sl (ev_var rfl) (eo_some (ev_op (ev_var rfl) ev_c rv_I0)) eo_none (SqL.of (e2 _ _ h1))) (fun p' j σ2 H2 => Ex H1 H2 ∧ H2 p' = some (.lst (cutV (nats L.n) (some ((i : Int) + 1)) none)) ∧ ∃ vy vz, σ2 = [some (.ref a), some (.ref p), some (.int (i : Int)), vy, vz])
      (fun p' H2 hp' e3 h3 => ⟨e2.trans e3, h3, _, _, rfl⟩) (fun p' j σ2 H2 _ h => SqL.of h.2.1) (fun p' j x σ2 H2 hx hQ => ?_) (fun p' σ2 H2 hQ => ?_)
    · obtain ⟨e3, h3, vy, vz, rfl⟩ := hQ
      obtain ⟨hj, rfl⟩ := cut_at hx
      refine s_when (b := L.le i (i + 1 + j) && L.le (i + 1 + j) i) (et_and (et_B (ev_tblT (ev_var rfl) (ev_var rfl) (ev_var rfl) (hT1.ex e3) hi hj)) fun _ => et_B (ev_tblT (ev_var rfl) (ev_var rfl) (ev_var rfl) (hT1.ex e3) hj hi)) (fun hb H3 e4 => ?_) (fun hb H3 e4 => ⟨e3.trans e4, e4 _ _ h3, _, _, rfl⟩)
      obtain ⟨b1, b2⟩ := Bool.and_eq_true_iff.mp hb
      have := O.anti _ _ hi hj b1 b2
      omega
    · obtain ⟨e3, _, vy, vz, rfl⟩ := hQ
      exact ⟨e3, _, _, _, rfl⟩
  obtain ⟨e3, vx', vy', vz', rfl⟩ := hP
  -- the third: below what it is below of
  refine s_forLn (a := p) (xs := nats L.n) (ev_var rfl) (SqL.of (e3 _ _ h1)) (fun i σ' H' => Ex H1 H' ∧ ∃ vx vy vz, σ' = [some (.ref a), some (.ref p), vx, vy, vz])
    (fun H2 e4 => ⟨e3.trans e4, _, _, _, rfl⟩) (fun i σ' H' _ h => SqL.of (h.1 _ _ h1)) (fun i x σ' H' hx hP => ?_) (fun σ' H' hP => q.go (e1.trans hP.1))
  obtain ⟨e2, vx, vy, vz, rfl⟩ := hP
  obtain ⟨hi, rfl⟩ := nats_at hx
  refine s_forLn (a := p) (xs := nats L.n) (ev_var rfl) (SqL.of (e2 _ _ h1)) (fun j σ' H' => Ex H1 H' ∧ ∃ vy vz, σ' = [some (.ref a), some (.ref p), some (.int (i : Int)), vy, vz])
    (fun H2 e4 => ⟨e2.trans e4, _, _, rfl⟩) (fun i σ' H' _ h => SqL.of (h.1 _ _ h1)) (fun j x σ' H' hx hP => ?_) (fun σ' H' hP => ?_)
  · obtain ⟨e2, vy, vz, rfl⟩ := hP
    obtain ⟨hj, rfl⟩ := nats_at hx
    refine s_when (b := L.le i j) (et_B (ev_tblT (ev_var rfl) (ev_var rfl) (ev_var rfl) (hT1.ex e2) hi hj)) (fun hij H3 e4 => ?_) (fun hb H3 e4 => ⟨e2.trans e4, _, _, rfl⟩)
    refine s_forLn (a := p) (xs := nats L.n) (ev_var rfl) (SqL.of ((e2.trans e4) _ _ h1)) (fun k σ' H' => Ex H1 H' ∧ ∃ vz, σ' = [some (.ref a), some (.ref p), some (.int (i : Int)), some (.int (j : Int)), vz])
      (fun H2 e5 => ⟨(e2.trans e4).trans e5, _, rfl⟩) (fun i σ' H' _ h => SqL.of (h.1 _ _ h1)) (fun k x σ' H' hx hP => ?_) (fun σ' H' hP => ?_)
    · obtain ⟨e5, vz, rfl⟩ := hP
      obtain ⟨hk, rfl⟩ := nats_at hx
      refine s_when (b := L.le j k && !L.le i k) (et_and (et_B (ev_tblT (ev_var rfl) (ev_var rfl) (ev_var rfl) (hT1.ex e5) hj hk)) fun _ => et_not (et_B (ev_tblT (ev_var rfl) (ev_var rfl) (ev_var rfl) (hT1.ex e5) hi hk))) (fun hb H3 e6 => ?_) (fun hb H3 e6 => ⟨e5.trans e6, _, rfl⟩)
      obtain ⟨b1, b2⟩ := Bool.and_eq_true_iff.mp hb
      rw [O.trans i j k hi hj hk hij b1] at b2
      cases b2
    · obtain ⟨e5, vz, rfl⟩ := hP
      exact ⟨e5, _, _, rfl⟩
  · obtain ⟨e2, vy, vz, rfl⟩ := hP
    exact ⟨e2, _, _, _, rfl⟩
/-! ## KD2: ### lower_covers -/
def coversOf (L : Lt) (x : Nat) : List Nat := ((List.range L.n).filter fun z => !decide (z = x) && L.le z x).filter fun y => !(((List.range L.n).filter fun z => !decide (z = x) && L.le z x).map fun z => !decide (z = y) && L.le y z).any id
abbrev nl_lower_covers : List Str := ["table", "worth", "below", "x", "z"]
theorem sc_lower_covers : FnScope nl_lower_covers ["table", "worth"] (defScope s_lower_covers) := ⟨rfl, rfl, rfl, by decide +kernel, rfl, by decide +kernel, by decide +kernel⟩
-- slots: 0:table 1:worth 2:below 3:x 4:z
def spCovers : Sp := fun vs H Q _ => ∃ (a : Addr) (L : Lt) (x : Nat), vs = [.ref a, .int (x : Int)] ∧ L.n ≤ 16 ∧ x < L.n ∧ S2 .tup .tup H a (tblV L) ∧ ∀ p H2, H p = none → Ex H H2 → H2 p = some (.tup (intsV (coversOf L x))) → Q (.ref p) H2
theorem ok_lower_covers (F : At K "lower_covers" "lower_covers" s_lower_covers f fd) (T : Tx K mg) : FnOk P w K mg base CX 1 f fd ["table", "worth"] spCovers := by
  refine F.ok sc_lower_covers (fun vs H Q E h => ?_) (fun cdv A outer s H vs Q E hr h => ?_)
  · obtain ⟨a, L, x, rfl, _⟩ := h
    rfl
  obtain ⟨a, L, x, rfl, hn, hx, hT, q⟩ := h
  refine ⟨_, PSs.nox (pss_cons (ps_set (i := 2) sc_lower_covers.nd rfl (by first | exact Or.inl rfl | exact Or.inr rfl) (pe_lc (own := [("x", 3)]) (g := gName 3) rfl sc_lower_covers.nd (pi_range1 (by rfl) T.m_range (pa_cons (pe_callB (clen (K := K)) (by rfl) T.m_len (by decide +kernel) (pa_cons (pv 0) pa_nil)) pa_nil)) (blkOk_by (N := nl_lower_covers) (sc := (defScope s_lower_covers)) (by decide +kernel)) (fun _ _ _ _ _ => pg_name (i := 3) sc_lower_covers.nd rfl (by first | exact Or.inl rfl | exact Or.inr rfl)) (by intro _ _ _ _ _; exact pts_one (PW.pt (pw_and (pt_cmpR op_ne (pv 3) (pv 1) (nomark _)) (pw_and1 (pt_val (pe_ix (ixq (K := K)) (pe_ix (ixq (K := K)) (pv 0) (pv 3) (fun _ _ => rfl)) (pv 1) (fun _ _ => rfl))))))) (by intro _ _ _ _ _; exact (pv 3))))
    (pss_one (ps_ret (pe_callTy (ctup (K := K)) (by rfl) T.m_tuple (by decide +kernel) (pa_cons (pe_lc (own := [("x", 3)]) (g := gName 3) rfl sc_lower_covers.nd (piL (K := K) (pv 2)) (blkOk_by (N := nl_lower_covers) (sc := (defScope s_lower_covers)) (by decide +kernel)) (fun _ _ _ _ _ => pg_name (i := 3) sc_lower_covers.nd rfl (by first | exact Or.inl rfl | exact Or.inr rfl)) (by intro _ _ _ _ _; exact pts_one (pt_not (pt_val (pe_callB (canyA (K := K) rfl) (by rfl) T.m_any (by decide +kernel) (pa_cons (pe_lc (own := [("z", 4)]) (g := gName 4) (tt := tYes) rfl sc_lower_covers.nd (piL (K := K) (pv 2)) (blkOk_by (N := nl_lower_covers) (sc := (relS _ (defScope s_lower_covers))) (by decide +kernel)) (fun _ _ _ _ _ => pg_name (i := 4) sc_lower_covers.nd rfl (by first | exact Or.inl rfl | exact Or.inr rfl)) (fun _ _ _ _ _ => pts_nil) (by intro _ _ _ _ _; exact (pe_and (pe_cmpR op_ne (pv 4) (pv 3) (nomark _)) (pe_one (pe_ix (ixq (K := K)) (pe_ix (ixq (K := K)) (pv 0) (pv 3) (fun _ _ => rfl)) (pv 4) (fun _ _ => rfl)))))) pa_nil))))) (by intro _ _ _ _ _; exact (pv 3))) pa_nil))))), ?_⟩
  refine q_asgL (xs := intsV ((List.range L.n).filter fun z => !decide (z = x) && L.le z x)) ?_ fun p H1 hp e1 h1 => ?_
  · exact el_lcR (fun z => !decide (z = x) && L.le z x) (fun z => V.int ((z : Nat) : Int)) (ea_cons (ev_lenST (ea_cons (ev_var rfl) ea_nil) hT (rowsTo_len _ _)) ea_nil) (by omega) (fun _ => rfl)
      (fun k H1 e1 hk => et_and (et_test (ev_op (ev_var rfl) (ev_var rfl) (rv_neN k x))) fun _ => et_B (ev_tblT (ev_var rfl) (ev_var rfl) (ev_var rfl) (hT.ex e1) hk hx)) fun k H1 e1 hk _ => ev_var rfl
  have hlen : ((List.range L.n).filter fun z => !decide (z = x) && L.le z x).length ≤ 16 := Nat.le_trans (List.length_filter_le _ _) (by rw [List.length_range]; exact hn)
  have hlt : ∀ {k : Nat}, k ∈ ((List.range L.n).filter fun z => !decide (z = x) && L.le z x) → k < L.n := fun h => List.mem_range.mp (List.mem_filter.mp h).1
  unfold coversOf at q
  generalize hB : ((List.range L.n).filter fun z => !decide (z = x) && L.le z x) = B at h1 hlen hlt q
  refine s_retU (xs := intsV (B.filter fun x => !(B.map fun z => !decide (z = x) && L.le x z).any id)) (eu_tupN ?_) fun z H2 hz e2 h2 => q z H2 (fresh_back e1 hz) (e1.trans e2) h2
  refine el_lcI _ (fun z => V.int ((z : Nat) : Int)) (ev_var (i := 2) rfl) h1 (by omega) (fun _ => rfl) (fun k H3 e3 hk => et_not (et_B (ev_anyN ?_))) (fun k H3 e3 hk _ => ev_var rfl)
  rw [List.map_map]
  exact el_lcI1 (fun z => V.bl (!decide (z = k) && L.le k z)) (ev_var (i := 2) rfl) (e3 _ _ h1) (by omega) (fun _ => rfl) fun z H4 e4 hz => ev_andV (ev_op (ev_var rfl) (ev_var rfl) (rv_neN z k)) fun _ => ev_tblT (ev_var rfl) (ev_var rfl) (ev_var rfl) (((hT.ex e1).ex e3).ex e4) (hlt hk) (hlt hz)
end
end KM

/-! ## KEv2: enumerate loops, isinstance, chains, calls whose result is a row of rows -/
namespace KM
open PySem PySem.Spec PyProof.Rows L2 Evl
section
variable {K : PySem.W.Frag} {σ : L2.St} {H H' : Hp} {ta tb tc te tx tl : TE} {t u : TT} {x y z v : V} {r : R2} {tr : TA} {D : Ends} {tu tz : TS}
abbrev gIX (K : PySem.W.Frag) (j1 j2 : Nat) : TG := gTup K 2 (gCons (gName j1) (gCons (gName j2) gNil))
theorem for_en {a : Addr} {xs : List V} {j1 j2 : Nat} {m : List V → HO} (hm : m = HO.lst ∨ m = HO.tup) {J : It} (hJ : (m = HO.lst ∧ J = Ite K a) ∨ (m = HO.tup ∧ J = Itet K a)) (Pv : Nat → L2.St → Hp → Prop) (h0 : Pv 0 σ H) (hl : ∀ i σ' H', i ≤ xs.length → Pv i σ' H' → H' a = some (m xs))
    (hs : ∀ i x σ' H' H2, xs[i]? = some x → Pv i σ' H' → Ex H' H2 → tu { D with nx := Pv (i + 1), ct := Pv (i + 1), bk := D.nx } ((σ'.set j1 (some (.int ((i : Nat) : Int)))).set j2 (some x)) H2) (hd : ∀ σ' H', Pv xs.length σ' H' → D.nx σ' H') :
    ∃ W : Nat → Nat → L2.St → Hp → Prop, (∃ m, W 0 m σ H) ∧ ∀ i m σ H, W i m σ H →
      (J.stop i H ∧ D.nx σ H) ∨ (J.go i H ∧ ∃ N : L2.St → Hp → Prop, (∀ σ' H', N σ' H' → ∃ m', m' < m ∧ W (i + 1) m' σ' H') ∧ ∀ x H', J.yld i H x H' → gIX K j1 j2 x σ H' fun σ2 H2 => tu { D with nx := N, ct := N, bk := D.nx } σ2 H2) := by
  refine ⟨fun i m σ H => m = xs.length - i ∧ i ≤ xs.length ∧ Pv i σ H, ⟨xs.length, by simp, Nat.zero_le _, h0⟩, ?_⟩
  rintro i mm σ H ⟨rfl, hi, p⟩
  have q := hl i σ H hi p
  have fin : ∀ (T : Addr) (x : V), H T = none → xs[i]? = some x → gIX K j1 j2 (.ref T) σ (upd H T (.tup [.int ((i : Nat) : Int), x])) fun σ2 H2 => tu { D with nx := Pv (i + 1), ct := Pv (i + 1), bk := D.nx } σ2 H2 := fun T x hT hx =>
    ⟨T, [.int ((i : Nat) : Int), x], rfl, SqT.of upd_same, rfl, .int ((i : Nat) : Int), [x], rfl, x, [], rfl, rfl, hs i x σ H _ hx p (Ex.new hT)⟩
  rcases hJ with ⟨rfl, rfl⟩ | ⟨rfl, rfl⟩
  · by_cases hlt : i < xs.length
    · refine .inr ⟨⟨xs, xs[i], SqL.of q, by simp [hlt]⟩, Pv (i + 1), fun σ' H' p' => ⟨xs.length - (i + 1), by omega, rfl, hlt, p'⟩, fun v H' y => ?_⟩
      obtain ⟨T, x, rfl, hT, rfl, y⟩ := y
      exact fin T x hT (y xs (SqL.of q))
    · have e : i = xs.length := by omega
      subst e
      exact .inl ⟨⟨xs, SqL.of q, Nat.le_refl _⟩, hd σ H p⟩
  · by_cases hlt : i < xs.length
    · refine .inr ⟨⟨xs, xs[i], SqT.of q, by simp [hlt]⟩, Pv (i + 1), fun σ' H' p' => ⟨xs.length - (i + 1), by omega, rfl, hlt, p'⟩, fun v H' y => ?_⟩
      obtain ⟨T, x, rfl, hT, rfl, y⟩ := y
      exact fin T x hT (y xs (SqT.of q))
    · have e : i = xs.length := by omega
      subst e
      exact .inl ⟨⟨xs, SqT.of q, Nat.le_refl _⟩, hd σ H p⟩
/-- for i, x in enumerate(xs) -/
theorem s_forEn {a : Addr} {xs : List V} {j1 j2 : Nat} {m : List V → HO} (hm : m = HO.lst ∨ m = HO.tup) (h : EvA tr σ H [.ref a]) (hx : H a = some (m xs)) (Pv : Nat → L2.St → Hp → Prop) (h0 : ∀ H1, Ex H H1 → Pv 0 σ H1) (hl : ∀ i σ' H', i ≤ xs.length → Pv i σ' H' → H' a = some (m xs))
    (hs : ∀ i x σ' H' H2, xs[i]? = some x → Pv i σ' H' → Ex H' H2 → tu { D with nx := Pv (i + 1), ct := Pv (i + 1), bk := D.nx } ((σ'.set j1 (some (.int ((i : Nat) : Int)))).set j2 (some x)) H2) (hd : ∀ σ' H', Pv xs.length σ' H' → D.nx σ' H') :
    tFor (iEnumQ K tr) (gIX K j1 j2) tu D σ H := h H (Ex.refl H) _ fun H1 e => by
  refine ⟨a, xs, rfl, ?_⟩
  rcases hm with rfl | rfl
  · exact Or.inl ⟨SqL.of (e _ _ hx), for_en (Or.inl rfl) (Or.inl ⟨rfl, rfl⟩) Pv (h0 H1 e) hl hs hd⟩
  · exact Or.inr ⟨SqT.of (e _ _ hx), for_en (Or.inr rfl) (Or.inr ⟨rfl, rfl⟩) Pv (h0 H1 e) hl hs hd⟩
theorem q_forEn {a : Addr} {xs : List V} {j1 j2 : Nat} {m : List V → HO} (hm : m = HO.lst ∨ m = HO.tup) (h : EvA tr σ H [.ref a]) (hx : H a = some (m xs)) (Pv : Nat → L2.St → Hp → Prop) (h0 : ∀ H1, Ex H H1 → Pv 0 σ H1) (hl : ∀ i σ' H', i ≤ xs.length → Pv i σ' H' → H' a = some (m xs))
    (hs : ∀ i x σ' H' H2, xs[i]? = some x → Pv i σ' H' → Ex H' H2 → tu { D with nx := Pv (i + 1), ct := Pv (i + 1), bk := tz D } ((σ'.set j1 (some (.int ((i : Nat) : Int)))).set j2 (some x)) H2) (hd : ∀ σ' H', Pv xs.length σ' H' → tz D σ' H') :
    tSeq (tFor (iEnumQ K tr) (gIX K j1 j2) tu) tz D σ H := s_forEn (D := { D with nx := tz D }) hm h hx Pv h0 hl hs hd
/-- isinstance(x, (list, tuple)) -/
theorem ev_isLT {ty : String} {b1 b2 : Bool} (hx : Ev ta σ H x) (hT : ∀ H1, Ex H H1 → TyX K H1 x (.type ty)) (h1 : kitB ty "list" = some b1) (h2 : kitB ty "tuple" = some b2) :
    Ev (tCB (rIsiT K) (tCons ta (tCons (tTup (tCons (tC (.ty "list")) (tCons (tC (.ty "tuple")) tNil))) tNil))) σ H (.bl (b1 || b2)) := fun H1 e Q q =>
  hx H1 e _ fun H2 e2 => ⟨by show 2 ≤ sizeLine; decide, fun tp htp => ⟨x, tp, [.ty "list", .ty "tuple"], .type ty, [.type "list", .type "tuple"], b1 || b2, rfl, upd_same, .cons (.ty _) (.cons (.ty _) .nil), hT _ ((e.trans e2).trans (Ex.new htp)),
    kitAny_cons (kit_ty h1) (fun c => kitAny_cons (kit_ty h2) (fun d => by rw [c, d]; exact kitAny_nil) (fun d => by rw [d]; exact Bool.or_true _)) (fun c => by rw [c]; rfl), q _ (e2.trans (Ex.new htp))⟩⟩
/-- isinstance(x, T) -/
theorem ev_isi {ty c : String} {b : Bool} (hx : Ev ta σ H x) (hT : ∀ H1, Ex H H1 → TyX K H1 x (.type ty)) (h1 : kitB ty c = some b) : Ev (tCB (rIsi K) (tCons ta (tCons (tC (.ty c)) tNil))) σ H (.bl b) := fun H1 e Q q =>
  hx H1 e _ fun H2 e2 => ⟨x, .ty c, .type ty, .type c, b, rfl, .ty c, hT _ (e.trans e2), kit_ty h1, q H2 e2⟩
theorem ty_lst {a : Addr} {xs : List V} (h : H a = some (.lst xs)) : ∀ H1, Ex H H1 → TyX K H1 (.ref a) (.type "list") := fun _ e => .base (.lst (e _ _ h))
theorem ty_tup {a : Addr} {xs : List V} (h : H a = some (.tup xs)) : ∀ H1, Ex H H1 → TyX K H1 (.ref a) (.type "tuple") := fun _ e => .base (.tup (e _ _ h))
theorem ty_int {i : Int} : ∀ H1, Ex H H1 → TyX K H1 (.int i) (.type "int") := fun _ _ => .base (.int i)
theorem ty_bl {i : Bool} : ∀ H1, Ex H H1 → TyX K H1 (.bl i) (.type "bool") := fun _ _ => .base (.bl i)
theorem ty_non : ∀ H1, Ex H H1 → TyX K H1 .non (.type "NoneType") := fun _ _ => .base .non
theorem ty_str {s : Str} : ∀ H1, Ex H H1 → TyX K H1 (.str s) (.type "str") := fun _ _ => .base (.str s)
/-- a <= b <= c, a <= b < c .. of ints -/
theorem et_chI {f g : Int → Int → Bool} {i j k : Int} (h1 : Ev ta σ H (.int i)) (h2 : Ev tb σ H (.int j)) (h3 : Ev tc σ H (.int k)) : EvT (tTest (tChain (rI0 fun i j => .bl (f i j)) (rI0 fun i j => .bl (g i j)) ta tb tc)) σ H (f i j && g j k) := fun H1 e Q q =>
  h1 H1 e _ fun H2 e2 => h2 H2 (e.trans e2) _ fun H3 e3 => ⟨i, j, rfl, rfl, f i j, rfl, by
    generalize f i j = b at q ⊢
    cases b with
    | true =>
      show tc σ H3 _
      exact h3 H3 ((e.trans e2).trans e3) _ fun H4 e4 => ⟨j, k, rfl, rfl, _, rfl, q H4 ((e2.trans e3).trans e4)⟩
    | false => exact ⟨_, rfl, q H3 (e2.trans e3)⟩⟩
/-- a call that hands back a row of rows -/
def SpS (sp : Sp) (vs : List V) (H : Hp) (m1 m2 : List V → HO) (rows : List (List V)) : Prop := ∀ H1, Ex H H1 → ∀ Q : VK, (∀ p H2, H1 p = none → Ex H1 H2 → S2 m1 m2 H2 p rows → Q (.ref p) H2) → ∀ E : XK, sp vs H1 Q E
theorem es_call {sp : Sp} {dvs vs : List V} {E : XK} {ta : TA} {m1 m2 : List V → HO} {rows : List (List V)} (h : EvA ta σ H vs) (hs : SpS sp (vs ++ dvs) H m1 m2 rows) : EvS m1 m2 (tCall sp dvs E ta) σ H rows := fun H1 e Q q =>
  h H1 e _ fun H2 e2 => hs H2 (e.trans e2) Q (fun p H3 hp e3 h3 => q p H3 (fresh_back e2 hp) (e2.trans e3) h3) E
end
end KM

/-! ## KD3: the defs of the lattice module: checked_rows -/
namespace KM
open PySem PySem.Spec PyProof.Rows L2 Evl
section
variable {P : Program} {w : World} {K : PySem.W.Frag} {mg : Str → Option Value} {base : Heap} {CX : CXT} {f : Addr} {fd : FuncData}
/-! ## KD3: ### checked_rows -/
abbrev nl_checked_rows : List Str := ["table", "rows", "x", "row", "y", "entry"]
theorem sc_checked_rows : FnScope nl_checked_rows ["table"] (defScope s_checked_rows) := ⟨rfl, rfl, rfl, by decide +kernel, rfl, by decide +kernel, by decide +kernel⟩
-- slots: 0:table 1:rows 2:x 3:row 4:y 5:entry
def spChecked : Sp := fun vs H Q _ => ∃ (a : Addr) (L : Lt), vs = [.ref a] ∧ 1 ≤ L.n ∧ L.n ≤ 16 ∧ S2 .lst .lst H a (tblV L) ∧ RetS .tup .tup (tblV L) H Q
theorem ok_checked_rows (F : At K "checked_rows" "checked_rows" s_checked_rows f fd) (T : Tx K mg) : FnOk P w K mg base CX 1 f fd ["table"] spChecked := by
  refine F.ok sc_checked_rows (fun vs H Q E h => ?_) (fun cdv A outer s H vs Q E hr h => ?_)
  · obtain ⟨a, L, rfl, _⟩ := h
    rfl
  obtain ⟨a, L, rfl, hn1, hn, hT, q⟩ := h
  refine ⟨_, PSs.nox (pss_cons (ps_if (PW.pt (pw_or (pt_not (pt_val (pe_callB (cisiT (K := K)) (by rfl) T.m_isinstance (by decide +kernel) (pa_cons (pv 0) (pa_cons (pe_tup (pa_cons (pe_bltn (v := .ty "list") (by rfl) T.m_list (by decide +kernel) rfl) (pa_cons (pe_bltn (v := .ty "tuple") (by rfl) T.m_tuple (by decide +kernel) rfl) pa_nil))) pa_nil))))) (pw_or1 (pt_not (pt_chain op_le op_le pe_int (pe_callB (clen (K := K)) (by rfl) T.m_len (by decide +kernel) (pa_cons (pv 0) pa_nil)) pe_int)))))
      (pss_one ps_never)
      pss_nil)
    (pss_cons (ps_set (i := 1) sc_checked_rows.nd rfl (by first | exact Or.inl rfl | exact Or.inr rfl) (pe_lst pa_nil))
    (pss_cons (ps_for PassesOwn.never rfl (piEnum (K := K) (by rfl) T.m_enumerate (pa_cons (pv 0) pa_nil)) (pgT (K := K) rfl (pgs_cons (pg_name (i := 2) sc_checked_rows.nd rfl (by first | exact Or.inl rfl | exact Or.inr rfl)) (pgs_cons (pg_name (i := 3) sc_checked_rows.nd rfl (by first | exact Or.inl rfl | exact Or.inr rfl)) pgs_nil)))
      (pss_cons (ps_if (PW.pt (pw_or (pt_not (pt_val (pe_callB (cisiT (K := K)) (by rfl) T.m_isinstance (by decide +kernel) (pa_cons (pv 3) (pa_cons (pe_tup (pa_cons (pe_bltn (v := .ty "list") (by rfl) T.m_list (by decide +kernel) rfl) (pa_cons (pe_bltn (v := .ty "tuple") (by rfl) T.m_tuple (by decide +kernel) rfl) pa_nil))) pa_nil))))) (pw_or1 (pt_cmpR op_ne (pe_callB (clen (K := K)) (by rfl) T.m_len (by decide +kernel) (pa_cons (pv 3) pa_nil)) (pe_callB (clen (K := K)) (by rfl) T.m_len (by decide +kernel) (pa_cons (pv 0) pa_nil)) (nomark _)))))
        (pss_one ps_never)
        pss_nil)
      (pss_cons (ps_for PassesOwn.never rfl (piEnum (K := K) (by rfl) T.m_enumerate (pa_cons (pv 3) pa_nil)) (pgT (K := K) rfl (pgs_cons (pg_name (i := 4) sc_checked_rows.nd rfl (by first | exact Or.inl rfl | exact Or.inr rfl)) (pgs_cons (pg_name (i := 5) sc_checked_rows.nd rfl (by first | exact Or.inl rfl | exact Or.inr rfl)) pgs_nil)))
        (pss_one (ps_if (pt_not (pt_val (pe_callB (cisi (K := K)) (by rfl) T.m_isinstance (by decide +kernel) (pa_cons (pv 5) (pa_cons (pe_bltn (v := .ty "bool") (by rfl) T.m_bool (by decide +kernel) rfl) pa_nil)))))
          (pss_one ps_never)
          pss_nil)))
      (pss_one (ps_expr (pe_bm PySem.F.plainAttrs_list PySem.F.slot_list_append PySem.F.type_list_append mt_append (pv 1) (pa_cons (pe_callTy (ctup (K := K)) (by rfl) T.m_tuple (by decide +kernel) (pa_cons (pv 3) pa_nil)) pa_nil)))))))
    (pss_one (ps_ret (pe_callTy (ctup (K := K)) (by rfl) T.m_tuple (by decide +kernel) (pa_cons (pv 1) pa_nil))))))), ?_⟩
  obtain ⟨as, ha, hrows⟩ := id hT
  have hal : as.length = L.n := by
    rw [Paired.length hrows]
    exact rowsTo_len _ _
  refine q_when (b := !(true || false) || !(decide ((1 : Int) ≤ (L.n : Int)) && decide ((L.n : Int) ≤ 16))) (et_or (et_not (et_B (ev_isLT (b1 := true) (b2 := false) (ev_var rfl) (ty_lst ha) (by decide +kernel) (by decide +kernel)))) fun _ => et_not (et_chI (f := fun i j => decide (i ≤ j)) (g := fun i j => decide (i ≤ j)) ev_c (ev_lenSL (ea_cons (ev_var rfl) ea_nil) hT (rowsTo_len _ _)) ev_c)) (fun hb H1 e1 => ?_) (fun hb H1 e1 => ?_)
  · rw [decide_eq_true (show (1 : Int) ≤ (L.n : Int) by omega), decide_eq_true (show (L.n : Int) ≤ 16 by omega)] at hb
    cases hb
  refine q_asgL (el_lst ea_nil (by decide)) fun p H2 hp e2 h2 => ?_
  have hT2 := hT.ex (e1.trans e2)
  obtain ⟨as2, ha2, hrows2⟩ := id hT2
  have eas : as2.map V.ref = as.map V.ref := by
    have := (e1.trans e2) _ _ ha
    rw [ha2] at this
    exact HO.lst.inj (Option.some.inj this)
  have hal2 : (as2.map V.ref).length = L.n := by
    rw [eas, List.length_map]
    exact hal
  -- rows grow at p
  refine q_forEn (a := a) (xs := as2.map V.ref) (Or.inl rfl) (ea_cons (ev_var rfl) ea_nil) ha2
    (fun i σ' H' => Ex H H' ∧ H' a = some (.lst (as2.map V.ref)) ∧ (∃ v2 v3 v4 v5, σ' = [some (.ref a), some (.ref p), v2, v3, v4, v5]) ∧ H p = none ∧ ∃ bs : List Addr, bs.length = i ∧ H' p = some (.lst (bs.map V.ref)) ∧ Paired (fun b r => b ≠ p ∧ H' b = some (.tup r)) bs (rowsTo i (rowB L)))
    (fun H3 e3 => ⟨(e1.trans e2).trans e3, e3 _ _ ha2, ⟨none, none, none, none, rfl⟩, fresh_back e1 hp, [], rfl, e3 _ _ h2, .nil⟩) (fun i σ' H' _ h => h.2.1) (fun i x σ' H' H3 hx hP e3 => ?_) (fun σ' H' hP => ?_)
  · obtain ⟨e4, ha4, ⟨v2, v3, v4, v5, rfl⟩, hpn, bs, hbl, hp4, hbs⟩ := hP
    have hi : i < L.n := by
      have := (List.getElem?_eq_some_iff.mp hx).1
      omega
    obtain ⟨b, hb, hrow⟩ := Paired.nth hrows2 (rowsTo_get (f := rowB L) hi)
    rw [List.getElem?_map, hb] at hx
    obtain rfl : V.ref b = x := Option.some.inj hx
    -- the row at b is as it was
    have hb0 : H b = some (.lst (rowB L i)) := by
      obtain ⟨b', hb', hr'⟩ := Paired.nth hrows (rowsTo_get (f := rowB L) hi)
      have q1 : (as.map V.ref)[i]? = some (.ref b') := by rw [List.getElem?_map, hb']; rfl
      have q2 : (as2.map V.ref)[i]? = some (.ref b) := by rw [List.getElem?_map, hb]; rfl
      rw [eas, q1] at q2
      cases q2
      exact hr'
    have hb3 : H3 b = some (.lst (rowB L i)) := e3 _ _ (e4 _ _ hb0)
    have hrl : (rowB L i).length = L.n := mapR_len _ _
    refine q_when (b := !(true || false) || !decide (L.n = L.n)) (et_or (et_not (et_B (ev_isLT (b1 := true) (b2 := false) (ev_var rfl) (ty_lst hb3) (by decide +kernel) (by decide +kernel)))) fun _ => et_test (ev_op (ev_lenL (ea_cons (ev_var rfl) ea_nil) hb3) (ev_lenSL (ea_cons (ev_var rfl) ea_nil) (hT.ex (e4.trans e3)) (rowsTo_len _ _)) (by rw [hrl]; exact rv_neN _ _))) (fun hb H1 e1 => ?_) (fun hbb H5 e5 => ?_)
    · rw [decide_eq_true rfl] at hb
      cases hb
    -- every entry a bool
    refine q_forEn (a := b) (xs := rowB L i) (Or.inl rfl) (ea_cons (ev_var rfl) ea_nil) (e5 _ _ hb3)
      (fun j σ' H' => Ex H3 H' ∧ ∃ v4 v5, σ' = [some (.ref a), some (.ref p), some (.int (i : Int)), some (.ref b), v4, v5])
      (fun H6 e6 => ⟨e5.trans e6, _, _, rfl⟩) (fun i σ' H' _ h => h.1 _ _ hb3) (fun j x σ' H' H6 hx hP e6 => ?_) (fun σ' H' hP => ?_)
    · obtain ⟨e7, v4, v5, rfl⟩ := hP
      have hj : j < L.n := by
        have := (List.getElem?_eq_some_iff.mp hx).1
        omega
      have e8 := mapR_get (f := fun y => V.bl (L.le i y)) hj
      obtain rfl : V.bl (L.le i j) = x := Option.some.inj (e8.symm.trans hx)
      exact s_when (b := !true) (et_not (et_B (ev_isi (b := true) (ev_var rfl) ty_bl (by decide +kernel)))) (fun hb => by cases hb) fun _ H7 e9 => ⟨(e7.trans e6).trans e9, _, _, rfl⟩
    · obtain ⟨e7, v4, v5, rfl⟩ := hP
      refine s_appU (xs := bs.map V.ref) ((e3.trans e7) _ _ hp4) (ev_var rfl) (eu_tupL (ea_cons (ev_var rfl) ea_nil) (e7 _ _ hb3)) (by rw [List.length_map]; omega) fun z H8 hz e8 h8 => ?_
      have eA : Ex H H8 := ((e4.trans e3).trans e7).trans e8
      have nz : z ≠ p := fun c => by
        have := (e3.trans e7) _ _ hp4
        rw [c, this] at hz
        cases hz
      have nap : a ≠ p := fun c => by
        rw [← c, ha] at hpn
        cases hpn
      refine ⟨Ex.mut eA hpn, ?_, ⟨_, _, _, _, rfl⟩, hpn, bs ++ [z], ?_, ?_, ?_⟩
      · rw [upd_ne nap]
        exact e8 _ _ (e7 _ _ (e3 _ _ ha4))
      · rw [List.length_append, hbl]
        rfl
      · rw [upd_same, List.map_append]
        rfl
      · rw [rowsTo_succ]
        refine Paired.snoc (Paired.imp2 hbs fun c r _ y => ⟨y.1, ?_⟩) ⟨nz, ?_⟩
        · rw [upd_ne y.1]
          exact e8 _ _ (e7 _ _ (e3 _ _ y.2))
        · rw [upd_ne nz]
          exact h8
  · obtain ⟨e4, ha4, ⟨v2, v3, v4, v5, rfl⟩, hpn, bs, hbl, hp4, hbs⟩ := hP
    rw [hal2] at hbs
    refine s_retU (eu_tupL (ea_cons (ev_var rfl) ea_nil) hp4) fun z H5 hz e5 h5 => q z H5 (fresh_back e4 hz) (e4.trans e5) ⟨bs, h5, Paired.imp2 hbs fun c r _ y => e5 _ _ y.2⟩
end
end KM

/-! ## KEv3: rows of rows that are laid anew, a matrix that changes -/
namespace KM
open PySem PySem.Spec PyProof.Rows L2 Evl
def S2F (H0 : Hp) (m1 m2 : List V → HO) (H : Hp) (a : Addr) (rows : List (List V)) : Prop := ∃ as : List Addr, H a = some (m1 (as.map V.ref)) ∧ Paired (fun b r => H0 b = none ∧ H b = some (m2 r)) as rows
theorem S2F.to {H0 : Hp} {m1 m2 : List V → HO} {H : Hp} {a : Addr} {rows : List (List V)} (h : S2F H0 m1 m2 H a rows) : S2 m1 m2 H a rows := by
  obtain ⟨as, h1, h2⟩ := h
  exact ⟨as, h1, Paired.imp2 h2 fun _ _ _ z => z.2⟩
def EvSF (m1 m2 : List V → HO) (te : TE) (σ : L2.St) (H : Hp) (rows : List (List V)) : Prop := ∀ H1, Ex H H1 → ∀ Q : VK, (∀ p H2, H1 p = none → Ex H1 H2 → S2F H m1 m2 H2 p rows → Q (.ref p) H2) → te σ H1 Q
def CwF (m : List V → HO) (H : Hp) (f : Nat → List V) (Dl : Addr) (i : Nat) (H' : Hp) : Prop := H Dl = none ∧ Ex H H' ∧ ∃ as : List Addr, as.length = i ∧ H' Dl = some (.lst (as.map V.ref)) ∧ Paired (fun b r => b ≠ Dl ∧ H b = none ∧ H' b = some (m r)) as (rowsTo i f)
theorem CwF.start {m : List V → HO} {H : Hp} {f : Nat → List V} {Dl : Addr} (h : H Dl = none) : CwF m H f Dl 0 (upd H Dl (.lst [])) := ⟨h, Ex.new h, [], rfl, upd_same, .nil⟩
theorem CwF.turn {m : List V → HO} {H H' : Hp} {f : Nat → List V} {te : TE} {Dl : Addr} {i : Nat} {σ2 : L2.St} (p : CwF m H f Dl i H') (hi : i < 10000) (he : EvN m te σ2 H (f i)) :
    te σ2 H' fun y H4 => ∃ acc, H4 Dl = some (.lst acc) ∧ acc.length < sizeLine ∧ CwF m H f Dl (i + 1) (upd H4 Dl (.lst (acc ++ [y]))) := by
  obtain ⟨p1, p2, as, p3, p4, p5⟩ := p
  refine he H' p2 _ fun q H4 hq e4 h4 => ?_
  have nq : q ≠ Dl := fun z => by
    rw [z, p4] at hq
    cases hq
  refine ⟨as.map V.ref, e4 _ _ p4, ?_, p1, Ex.mut (p2.trans e4) p1, as ++ [q], ?_, ?_, ?_⟩
  · rw [List.length_map, p3]
    exact sz_lt (by omega)
  · rw [List.length_append, p3]
    rfl
  · rw [upd_same, List.map_append]
    rfl
  · rw [rowsTo_succ]
    refine Paired.snoc (Paired.imp2 p5 fun b r _ z => ⟨z.1, z.2.1, ?_⟩) ⟨nq, fresh_back p2 hq, ?_⟩
    · rw [upd_ne z.1]
      exact e4 _ _ z.2.2
    · rw [upd_ne nq]
      exact h4
section
variable {K : PySem.W.Frag} {σ : L2.St} {H H' : Hp} {ta tb tc te tx tl : TE} {t u : TT} {x y z v : V} {r : R2} {m : List V → HO}
/-- [e for x in xs], each e a new object -/
theorem es_lcLF {a : Addr} {xs : List V} {j : Nat} {vs : List Nat} (f : Nat → List V) (h : Ev tl σ H (.ref a)) (hx : H a = some (.lst xs)) (hz : xs.length ≤ 10000) (hw : ∀ x, wipe ((wipe σ vs).set j (some x)) vs = wipe σ vs)
    (he : ∀ (i : Nat) (x : V) H1, Ex H H1 → xs[i]? = some x → EvN m te ((wipe σ vs).set j (some x)) H1 (f i)) :
    EvSF .lst m (tLc (iList K tl) (gName j) tYes te vs) σ H (rowsTo xs.length f) := fun H0 e Q q => h H0 e _ fun H1 e1 => ⟨a, rfl, ⟨xs, SqL.of ((e.trans e1) _ _ hx)⟩, fun Dl hD =>
  lc_list (xs := xs) (CwF m H1 f Dl) (CwF.start hD) (fun i H' _ p => SqL.of (((e.trans e1).trans p.2.1) _ _ hx))
    (fun i x H' hi p => ⟨hw x, CwF.turn p (by have := (List.getElem?_eq_some_iff.mp hi).1; omega) (he i x H1 (e.trans e1) hi)⟩)
    (fun H' p => q Dl H' (fresh_back e1 p.1) (e1.trans p.2.1) (by
      obtain ⟨_, _, as, _, p4, p5⟩ := p
      exact ⟨as, p4, Paired.imp2 p5 fun _ _ _ z => ⟨fresh_back (e.trans e1) z.2.1, z.2.2⟩⟩))⟩
theorem q_asgSF {D : Ends} {tz : TS} {i : Nat} {m1 m2 : List V → HO} {rows : List (List V)} (h : EvSF m1 m2 te σ H rows) (k : ∀ p H1, H p = none → Ex H H1 → S2F H m1 m2 H1 p rows → tz D (σ.set i (some (.ref p))) H1) : tSeq (tAsg te (gName i)) tz D σ H := h H (Ex.refl H) _ fun p H1 hp e h1 => k p H1 hp e h1
end
/-! ## KEv3: ### a matrix of ints -/
def mxR (n : Nat) (M : Nat → Nat → Nat) (i : Nat) : List V := (List.range n).map fun j => V.int ((M i j : Nat) : Int)
structure Mat (n : Nat) (H0 : Hp) (R : Addr) (ad : Nat → Addr) (M : Nat → Nat → Nat) (H : Hp) : Prop where
  ex : Ex H0 H
  top : H R = some (.lst ((List.range n).map fun i => V.ref (ad i)))
  row : ∀ i, i < n → H (ad i) = some (.lst (mxR n M i))
  inj : ∀ i j, i < n → j < n → ad i = ad j → i = j
  oldR : H0 R = none
  old : ∀ i, i < n → H0 (ad i) = none
theorem Mat.mono {n : Nat} {H0 : Hp} {R : Addr} {ad : Nat → Addr} {M : Nat → Nat → Nat} {H H' : Hp} (m : Mat n H0 R ad M H) (e : Ex H H') : Mat n H0 R ad M H' :=
  ⟨m.ex.trans e, e _ _ m.top, fun i hi => e _ _ (m.row i hi), m.inj, m.oldR, m.old⟩
theorem mapR_set {n y : Nat} {f : Nat → V} {v : V} : ((List.range n).map f).set y v = (List.range n).map fun j => if j = y then v else f j := by
  refine List.ext_getElem? fun i => ?_
  by_cases c : i < n
  · rw [List.getElem?_set, List.getElem?_map, List.getElem?_map, List.getElem?_range c, List.length_map, List.length_range]
    by_cases d : y = i
    · subst d
      rw [if_pos rfl, if_pos c]
      show some v = some (if y = y then v else f y)
      rw [if_pos rfl]
    · rw [if_neg d]
      show some (f i) = some (if i = y then v else f i)
      rw [if_neg (Ne.symm d)]
  · rw [List.getElem?_eq_none (by rw [List.length_set, List.length_map, List.length_range]; omega), List.getElem?_eq_none (by rw [List.length_map, List.length_range]; omega)]
def mset (M : Nat → Nat → Nat) (x y v : Nat) : Nat → Nat → Nat := fun i j => if i = x ∧ j = y then v else M i j
theorem Mat.set {n : Nat} {H0 : Hp} {R : Addr} {ad : Nat → Addr} {M : Nat → Nat → Nat} {H : Hp} (m : Mat n H0 R ad M H) {x y v : Nat} (hx : x < n) : Mat n H0 R ad (mset M x y v) (upd H (ad x) (.lst ((mxR n M x).set y (.int (v : Int))))) := by
  have nR : R ≠ ad x := fun c => by
    have h1 := m.row x hx
    rw [← c, m.top] at h1
    have h2 := HO.lst.inj (Option.some.inj h1)
    have h3 : ((List.range n).map fun i => V.ref (ad i))[x]? = some (V.ref (ad x)) := mapR_get hx
    rw [h2] at h3
    have h4 : (mxR n M x)[x]? = some (V.int ((M x x : Nat) : Int)) := mapR_get hx
    rw [h4] at h3
    cases h3
  refine ⟨Ex.mut m.ex (m.old x hx), ?_, fun i hi => ?_, m.inj, m.oldR, m.old⟩
  · rw [upd_ne nR]
    exact m.top
  · by_cases c : i = x
    · subst c
      rw [upd_same]
      refine congrArg (fun z => some (HO.lst z)) ?_
      show ((List.range n).map fun j => V.int ((M i j : Nat) : Int)).set y _ = _
      rw [mapR_set]
      refine List.map_congr_left fun j _ => ?_
      show _ = V.int ((mset M i y v i j : Nat) : Int)
      unfold mset
      by_cases d : j = y
      · rw [if_pos d, if_pos ⟨rfl, d⟩]
      · rw [if_neg d, if_neg fun z => d z.2]
    · rw [upd_ne fun z => c (m.inj i x hi hx z), m.row i hi]
      refine congrArg (fun z => some (HO.lst z)) (List.map_congr_left fun j _ => ?_)
      show _ = V.int ((mset M x y v i j : Nat) : Int)
      unfold mset
      rw [if_neg fun z => c z.1]
end KM

/-! ## KD4: the defs of the lattice module: bound_rows -/
namespace KM
open PySem PySem.Spec PyProof.Rows L2 Evl
theorem ev_isN {σ : L2.St} {H : Hp} {ta : TE} {v : V} (h : Ev ta σ H v) : Ev (tIsN ta) σ H (.bl (decide (v = .non))) := fun H1 e Q q => h H1 e _ fun H2 e2 => q H2 e2
theorem ev_notN {σ : L2.St} {H : Hp} {ta : TE} {v : V} (h : Ev ta σ H v) : Ev (tNotN ta) σ H (.bl (!decide (v = .non))) := fun H1 e Q q => h H1 e _ fun H2 e2 => q H2 e2
section
variable {P : Program} {w : World} {K : PySem.W.Frag} {mg : Str → Option Value} {base : Heap} {CX : CXT} {f : Addr} {fd : FuncData}
/-! ## KD4: ### bound_rows -/
abbrev nl_bound_rows : List Str := ["table", "what", "numbers", "rows", "x", "y", "found", "row"]
theorem sc_bound_rows : FnScope nl_bound_rows ["table", "what"] (defScope s_bound_rows) := ⟨rfl, rfl, rfl, by decide +kernel, rfl, by decide +kernel, by decide +kernel⟩
-- slots: 0:table 1:what 2:numbers 3:rows 4:x 5:y 6:found 7:row
def spBound : Sp := fun vs H Q _ => ∃ (a : Addr) (L : Lt) (s : Str), vs = [.ref a, .str s] ∧ L.n ≤ 16 ∧ (∀ x y, x < L.n → y < L.n → L.lubs x y ≠ []) ∧ (∀ x, x < L.n → L.jn x x = x) ∧ S2 .tup .tup H a (tblV L) ∧ RetS .tup .tup (jnsV L) H Q
theorem ok_bound_rows {fL : Addr} {fdL : FuncData} (h_least_above : Has P w K mg base CX0 1 "least_above" ["table", "one", "other"] spLeast fL fdL) (F : At K "bound_rows" "bound_rows" s_bound_rows f fd) (T : Tx K mg) : FnOk P w K mg base CX 2 f fd ["table", "what"] spBound := by
  refine F.ok sc_bound_rows (fun vs H Q E h => ?_) (fun cdv A outer s H vs Q E hr h => ?_)
  · obtain ⟨a, L, s, rfl, _⟩ := h
    rfl
  obtain ⟨a, L, s, rfl, hn, hlub, hjs, hT, q⟩ := h
  refine ⟨_, PSs.nox (pss_cons (ps_set (i := 2) sc_bound_rows.nd rfl (by first | exact Or.inl rfl | exact Or.inr rfl) (pe_listRg rfl (by rfl) T.m_list (prg_1 (by rfl) T.m_range (pe_callB (clen (K := K)) (by rfl) T.m_len (by decide +kernel) (pa_cons (pv 0) pa_nil)))))
    (pss_cons (ps_setLc (i := 3) (own := [("x", 4)]) (g := gName 4) (tt := tYes) rfl sc_bound_rows.nd rfl rfl (sw_true rfl rfl rfl (by decide +kernel)) (piL (K := K) (pv 2)) (blkOk_by (N := nl_bound_rows) (sc := (defScope s_bound_rows)) (by decide +kernel)) (fun _ _ _ _ _ => pg_name (i := 4) sc_bound_rows.nd rfl (by first | exact Or.inl rfl | exact Or.inr rfl)) (fun _ _ _ _ _ => pts_nil) (by intro _ _ _ _ _; exact (pe_lc (own := [("y", 5)]) (g := gName 5) (tt := tYes) rfl sc_bound_rows.nd (piL (K := K) (pv 2)) (blkOk_by (N := nl_bound_rows) (sc := (relS _ (defScope s_bound_rows))) (by decide +kernel)) (fun _ _ _ _ _ => pg_name (i := 5) sc_bound_rows.nd rfl (by first | exact Or.inl rfl | exact Or.inr rfl)) (fun _ _ _ _ _ => pts_nil) (by intro _ _ _ _ _; exact (pv 4)))))
    (pss_cons (ps_for PassesOwn.never rfl (piL (K := K) (pv 2)) (pg_name (i := 4) sc_bound_rows.nd rfl (by first | exact Or.inl rfl | exact Or.inr rfl))
      (pss_one (ps_for PassesOwn.never rfl (piL (K := K) (pe_slice (slL (K := K)) (pv 2) (po_some (pe_op op_add (pv 4) pe_int)) po_none)) (pg_name (i := 5) sc_bound_rows.nd rfl (by first | exact Or.inl rfl | exact Or.inr rfl))
        (pss_cons (ps_set (i := 6) sc_bound_rows.nd rfl (by first | exact Or.inl rfl | exact Or.inr rfl) (pe_call h_least_above.ok (hr.mono (by decide)) rfl h_least_above.g h_least_above.kp h_least_above.b .nil pass0 (pa_cons (pv 0) (pa_cons (pv 4) (pa_cons (pv 5) pa_nil)))))
        (pss_cons (ps_if (pt_cmp (pc_isN (pv 6)))
          (pss_one ps_never)
          pss_nil)
        (pss_cons (ps_asg (pv 6) (pg_sub (pe_ix (ixq (K := K)) (pv 3) (pv 4) (fun _ _ => rfl)) (pv 5) set_list))
        (pss_one (ps_asg (pv 6) (pg_sub (pe_ix (ixq (K := K)) (pv 3) (pv 5) (fun _ _ => rfl)) (pv 4) set_list)))))))))
    (pss_one (ps_ret (pe_callTy (ctup (K := K)) (by rfl) T.m_tuple (by decide +kernel) (pa_cons (pe_lc (own := [("row", 7)]) (g := gName 7) (tt := tYes) rfl sc_bound_rows.nd (piL (K := K) (pv 3)) (blkOk_by (N := nl_bound_rows) (sc := (defScope s_bound_rows)) (by decide +kernel)) (fun _ _ _ _ _ => pg_name (i := 7) sc_bound_rows.nd rfl (by first | exact Or.inl rfl | exact Or.inr rfl)) (fun _ _ _ _ _ => pts_nil) (by intro _ _ _ _ _; exact (pe_callTy (ctup (K := K)) (by rfl) T.m_tuple (by decide +kernel) (pa_cons (pv 7) pa_nil)))) pa_nil))))))), ?_⟩
  refine q_asgL (el_lrg (ev_lenST (ea_cons (ev_var rfl) ea_nil) hT (rowsTo_len _ _)) (by omega)) fun p H1 hp e1 h1 => ?_
  have hT1 := hT.ex e1
  have hN : (nats L.n).length = L.n := nats_length _
  refine q_asgSF (m1 := .lst) (m2 := .lst) (rows := rowsTo L.n fun i => mxR L.n (fun i _ => i) i) ?_ fun R H2 hR e2 h2 => ?_
  · have main := es_lcLF (K := K) (m := .lst) (j := 4) (vs := [4]) (σ := ((start nl_bound_rows [V.ref a, V.str s]).set 2 (some (V.ref p)))) (H := H1) (te := tLc (iList K (tVar 2)) (gName 5) tYes (tVar 4) [5])
      (fun i => mxR L.n (fun i _ => i) i) (ev_var (i := 2) rfl) h1 (by rw [hN]; omega) (fun _ => rfl) (fun i x H2 e2 hx => ?_)
    · rw [hN] at main
      exact main
    · obtain ⟨hi, rfl⟩ := nats_at hx
      exact el_lcI1 (l := List.range L.n) (fun _ => V.int ((i : Nat) : Int)) (ev_var (i := 2) rfl) (e2 _ _ h1) (by rw [List.length_range]; omega) (fun _ => rfl) fun y H3 e3 hy => ev_var rfl
  have hp2 := e2 _ _ h1
  -- the matrix
  obtain ⟨ad, hM⟩ : ∃ ad, Mat L.n H1 R ad (fun i _ => i) H2 := by
    obtain ⟨as, ha, hpr⟩ := h2
    have hl : as.length = L.n := by
      rw [Paired.length hpr]
      exact rowsTo_len _ _
    have hg : ∀ i, i < L.n → as[i]? = some (as.getD i 0) := fun i hi => by
      rw [List.getD_eq_getElem?_getD, List.getElem?_eq_getElem (by omega)]
      rfl
    have hr : ∀ i, i < L.n → H1 (as.getD i 0) = none ∧ H2 (as.getD i 0) = some (.lst (mxR L.n (fun i _ => i) i)) := fun i hi => by
      obtain ⟨b, hb, h3⟩ := Paired.nth hpr (rowsTo_get (f := fun i => mxR L.n (fun i _ => i) i) hi)
      rw [hg i hi] at hb
      rw [Option.some.inj hb]
      exact h3
    refine ⟨fun i => as.getD i 0, e2, ?_, fun i hi => (hr i hi).2, fun i j hi hj e => ?_, hR, fun i hi => (hr i hi).1⟩
    · rw [ha]
      refine congrArg (fun z => some (HO.lst z)) (List.ext_getElem? fun i => ?_)
      by_cases c : i < L.n
      · rw [mapR_get c, List.getElem?_map, hg i c]
        rfl
      · rw [List.getElem?_eq_none (by rw [List.length_map]; omega), List.getElem?_eq_none (by rw [mapR_len]; omega)]
    · have h3 := (hr i hi).2
      have h4 := (hr j hj).2
      have h5 : as.getD i 0 = as.getD j 0 := e
      rw [h5, h4] at h3
      have h6 := HO.lst.inj (Option.some.inj h3)
      have h7 : (mxR L.n (fun i _ => i) j)[0]? = some (V.int ((j : Nat) : Int)) := mapR_get (by omega)
      have h8 : (mxR L.n (fun i _ => i) i)[0]? = some (V.int ((i : Nat) : Int)) := mapR_get (by omega)
      rw [h6, h8] at h7
      have h9 := V.int.inj (Option.some.inj h7)
      omega
  -- what is known when the couples up to (x, x + 1 + k) are told
  refine q_forLn (a := p) (xs := nats L.n) (ev_var rfl) (SqL.of hp2)
    (fun x σ' H' => (∃ v4 v5 v6 v7, σ' = [some (.ref a), some (.str s), some (.ref p), some (.ref R), v4, v5, v6, v7]) ∧ ∃ M, Mat L.n H1 R ad M H' ∧ ∀ i j, i < L.n → j < L.n → (i = j → M i j = i) ∧ (i ≠ j → (i < x ∨ j < x) → M i j = L.jn i j))
    (fun H3 e3 => ⟨⟨none, none, none, none, rfl⟩, _, hM.mono e3, fun i j _ _ => ⟨fun _ => rfl, fun _ h => by omega⟩⟩) (fun i σ' H' _ h => by
      obtain ⟨_, M, m, _⟩ := h
      exact SqL.of (m.ex _ _ h1)) (fun x v σ' H' hxx hP => ?_) (fun σ' H' hP => ?_)
  · obtain ⟨⟨v4, v5, v6, v7, rfl⟩, M, hM, hinv⟩ := hP
    obtain ⟨hx, rfl⟩ := nats_at hxx
    refine s_forNL (el_sl (ev_var rfl) (eo_some (ev_op (ev_var rfl) ev_c rv_I0)) eo_none (SqL.of (hM.ex _ _ h1)))
      (fun p' k σ2 H3 => H1 p' = none ∧ H3 p' = some (.lst (cutV (nats L.n) (some ((x : Int) + 1)) none)) ∧ (∀ i, i < L.n → p' ≠ ad i) ∧ (∃ v5 v6 v7, σ2 = [some (.ref a), some (.str s), some (.ref p), some (.ref R), some (.int (x : Int)), v5, v6, v7]) ∧
        ∃ M, Mat L.n H1 R ad M H3 ∧ ∀ i j, i < L.n → j < L.n → (i = j → M i j = i) ∧ (i ≠ j → (i < x ∨ j < x ∨ (i = x ∧ j < x + 1 + k) ∨ (j = x ∧ i < x + 1 + k)) → M i j = L.jn i j))
      (fun p' H3 hp' e3 h3 => ⟨fresh_back hM.ex hp', h3, fun i hi c => ?_, ⟨_, _, _, rfl⟩, M, hM.mono e3, fun i j hi hj => ⟨(hinv i j hi hj).1, fun hne hh => (hinv i j hi hj).2 hne (by omega)⟩⟩) (fun p' k σ2 H3 _ h => SqL.of h.2.1) (fun p' k v σ2 H3 hv hQ => ?_) (fun p' σ2 H3 hQ => ?_)
    · rw [c, hM.row i hi] at hp'
      cases hp'
    · obtain ⟨hp', h3, hne, ⟨v5, v6, v7, rfl⟩, M, hM, hinv⟩ := hQ
      obtain ⟨hy, rfl⟩ := cut_at hv
      generalize hyd : x + 1 + k = y at hy ⊢
      refine q_asg (v := .int ((L.jn x y : Nat) : Int)) (ev_call (ea_cons (ev_var rfl) (ea_cons (ev_var rfl) (ea_cons (ev_var rfl) ea_nil))) fun H4 e4 Q2 k2 E2 => ⟨a, L, x, y, rfl, hn, hx, hy, hT1.ex (hM.ex.trans e4), hlub x y hx hy, fun H5 e5 => k2 H5 e5⟩) fun H4 e4 => ?_
      refine q_when (b := false) (et_B (ev_isN (v := .int ((L.jn x y : Nat) : Int)) (ev_var rfl))) (fun hb => by cases hb) fun _ H5 e5 => ?_
      have m5 := (hM.mono e4).mono e5
      refine q_setL (m5.row x hx) (ev_var rfl) (ev_xL (ev_var rfl) (ev_var rfl) m5.top (mapR_get hx)) (ev_var (v := .int ((y : Nat) : Int)) rfl) (by rw [show (mxR L.n M x).length = L.n from mapR_len _ _]; exact hy) fun H6 e6 => ?_
      have m6 := (m5.mono e6).set (y := y) (v := L.jn x y) hx
      have p6 : upd H6 (ad x) (.lst ((mxR L.n M x).set y (.int ((L.jn x y : Nat) : Int)))) p' = some (.lst (cutV (nats L.n) (some ((x : Int) + 1)) none)) := by
        rw [upd_ne (hne x hx)]
        exact e6 _ _ (e5 _ _ (e4 _ _ h3))
      refine s_setL (m6.row y hy) (ev_var rfl) (ev_xL (ev_var rfl) (ev_var rfl) m6.top (mapR_get hy)) (ev_var (v := .int ((x : Nat) : Int)) rfl) (by rw [show (mxR L.n _ y).length = L.n from mapR_len _ _]; exact hx) fun H7 e7 => ?_
      have m7 := (m6.mono e7).set (y := x) (v := L.jn x y) hy
      refine ⟨hp', ?_, hne, ⟨_, _, _, rfl⟩, _, m7, fun i j hi hj => ?_⟩
      · rw [upd_ne (hne y hy)]
        exact e7 _ _ p6
      · have hxy : x < y := by omega
        unfold mset
        refine ⟨fun hij => ?_, fun hij hh => ?_⟩
        · rw [if_neg (by omega), if_neg (by omega)]
          exact (hinv i j hi hj).1 hij
        · by_cases c1 : i = y ∧ j = x
          · rw [if_pos c1, c1.1, c1.2]
            exact jn_comm L x y
          · rw [if_neg c1]
            by_cases c2 : i = x ∧ j = y
            · rw [if_pos c2, c2.1, c2.2]
            · rw [if_neg c2]
              exact (hinv i j hi hj).2 hij (by omega)
    · obtain ⟨_, _, _, ⟨v5, v6, v7, rfl⟩, M, hM, hinv⟩ := hQ
      rw [cut_len] at hinv
      exact ⟨⟨_, _, _, _, rfl⟩, M, hM, fun i j hi hj => ⟨(hinv i j hi hj).1, fun hne hh => (hinv i j hi hj).2 hne (by omega)⟩⟩
  · obtain ⟨⟨v4, v5, v6, v7, rfl⟩, M, hM, hinv⟩ := hP
    rw [hN] at hinv
    refine s_retS (m1 := .tup) (m2 := .tup) (rows := jnsV L) (es_tup ?_) fun z H5 hz e5 h5 => q z H5 (fresh_back (e1.trans hM.ex) hz) ((e1.trans hM.ex).trans e5) h5
    have main := es_lcL (K := K) (m := .tup) (j := 7) (vs := [7]) (σ := [some (V.ref a), some (V.str s), some (V.ref p), some (V.ref R), v4, v5, v6, v7]) (H := H') (te := tCB (rTupS K) (tCons (tVar 7) tNil))
      (rowJ L) (ev_var (i := 3) rfl) hM.top (by rw [mapR_len]; omega) (fun _ => rfl) (fun i x H6 e6 hx => ?_)
    · rw [mapR_len] at main
      exact main
    · have hi : i < L.n := by
        have := (List.getElem?_eq_some_iff.mp hx).1
        rw [mapR_len] at this
        exact this
      rw [mapR_get hi] at hx
      obtain rfl := Option.some.inj hx
      have er : mxR L.n M i = rowJ L i := List.map_congr_left fun j hj => by
        have hj := List.mem_range.mp hj
        by_cases c : i = j
        · rw [(hinv i j hi hj).1 c, ← c, hjs i hi]
        · rw [(hinv i j hi hj).2 c (Or.inl hi)]
      rw [← er]
      exact eu_tupL (ea_cons (ev_var rfl) ea_nil) (e6 _ _ (hM.row i hi))
end
end KM

/-! ## KEv4: instances of Lattice in the heap, attributes that are set -/
namespace KM
open PySem PySem.Spec PyProof.Rows L2 Evl
/-- the class as the top has made it -/
structure LC (K : PySem.W.Frag) (C : Addr) : Prop where
  cl : Cls K C
  nT : NoAttr K C "table"
  nS : NoAttr K C "size"
  nJ : NoAttr K C "join_rows"
  nM : NoAttr K C "meet_rows"
  nB : NoAttr K C "bottom"
  nU : NoAttr K C "top"
  nP : NoAttr K C "primes"
/-- all but the object at x is kept -/
def Kx (x : Addr) (H H' : Hp) : Prop := ∀ b o, b ≠ x → H b = some o → H' b = some o
theorem Kx.refl (x : Addr) (H : Hp) : Kx x H H := fun _ _ _ h => h
theorem Kx.ex {x : Addr} {H H1 H2 : Hp} (a : Kx x H H1) (e : Ex H1 H2) : Kx x H H2 := fun b o n h => e _ _ (a b o n h)
theorem Kx.put {x : Addr} {H H1 : Hp} {o : HO} (a : Kx x H H1) : Kx x H (upd H1 x o) := fun b o n h => by
  rw [upd_ne n]
  exact a b o n h
theorem S2.kx {x : Addr} {H H' : Hp} {a C dx : Addr} {fs : List (Str × V)} {rows : List (List V)} (h : S2 .tup .tup H a rows) (k : Kx x H H') (hx : H x = some (.ins C dx fs)) : S2 .tup .tup H' a rows := by
  obtain ⟨as, h1, h2⟩ := h
  refine ⟨as, k _ _ (fun c => ?_) h1, Paired.imp2 h2 fun b r _ z => k _ _ (fun c => ?_) z⟩
  · rw [c, hx] at h1
    cases h1
  · rw [c, hx] at z
    cases z
/-- the attributes that are read -/
structure LF (H : Hp) (fs : List (Str × V)) (L : Lt) : Prop where
  size : fs.lookup ("size" : Str) = some (.int (L.n : Int))
  jr : ∃ j, fs.lookup ("join_rows" : Str) = some (.ref j) ∧ S2 .tup .tup H j (jnsV L)
  mr : ∃ j, fs.lookup ("meet_rows" : Str) = some (.ref j) ∧ S2 .tup .tup H j (jnsV L.dual)
  bot : fs.lookup ("bottom" : Str) = some (.int (L.bot : Int))
  top : fs.lookup ("top" : Str) = some (.int (L.top : Int))
  nj : fs.lookup ("join_of" : Str) = none
  nm : fs.lookup ("meet_of" : Str) = none
/-- a lattice of the class C, its order L -/
def LI (C : Addr) (H : Hp) (a : Addr) (L : Lt) : Prop := ∃ dx fs, H a = some (.ins C dx fs) ∧ LF H fs L
theorem LI.ex {C : Addr} {H H' : Hp} {a : Addr} {L : Lt} (h : LI C H a L) (e : Ex H H') : LI C H' a L := by
  obtain ⟨dx, fs, h1, f⟩ := h
  obtain ⟨j, j1, j2⟩ := f.jr
  obtain ⟨m, m1, m2⟩ := f.mr
  exact ⟨dx, fs, e _ _ h1, f.size, ⟨j, j1, j2.ex e⟩, ⟨m, m1, m2.ex e⟩, f.bot, f.top, f.nj, f.nm⟩
theorem lkS {f : Str} {v : V} {fs : List (Str × V)} : (putF f v fs).lookup f = some v := by rw [lookup_putF, if_pos rfl]
theorem lkO {f g : Str} {v : V} {fs : List (Str × V)} {r : Option V} (h : ¬ g = f) (k : fs.lookup g = r) : (putF f v fs).lookup g = r := by rw [lookup_putF, if_neg h, k]
section
variable {K : PySem.W.Frag} {σ : L2.St} {H H' : Hp} {ta tb tc te tx tl tv : TE} {t u : TT} {x y z v : V} {r : R2} {tr : TA} {D : Ends} {tu tz : TS} {m : List V → HO}
theorem s_fld {a C dx : Addr} {fs : List (Str × V)} {f : Str} (hv : Ev tv σ H y) (ha : Ev ta σ H (.ref a)) (ho : H a = some (.ins C dx fs)) (hc : Cls K C) (hn : NoAttr K C f) (hl : fs.length < 1000) (k : ∀ H1, Ex H H1 → D.nx σ (upd H1 a (.ins C dx (putF f y fs)))) : sFld K ta tv f D σ H :=
  hv H (Ex.refl H) _ fun H1 e1 => ha H1 e1 _ fun H2 e2 => ⟨a, C, dx, fs, rfl, e2 _ _ (e1 _ _ ho), hc, hn, hl, k H2 (e1.trans e2)⟩
theorem q_fld {a C dx : Addr} {fs : List (Str × V)} {f : Str} (hv : Ev tv σ H y) (ha : Ev ta σ H (.ref a)) (ho : H a = some (.ins C dx fs)) (hc : Cls K C) (hn : NoAttr K C f) (hl : fs.length < 1000) (k : ∀ H1, Ex H H1 → tz D σ (upd H1 a (.ins C dx (putF f y fs)))) : tSeq (sFld K ta tv f) tz D σ H :=
  s_fld (D := { D with nx := tz D }) hv ha ho hc hn hl k
theorem q_fldS {a C dx : Addr} {fs : List (Str × V)} {f : Str} {m1 m2 : List V → HO} {rows : List (List V)} (hv : EvS m1 m2 tv σ H rows) (ha : Ev ta σ H (.ref a)) (ho : H a = some (.ins C dx fs)) (hc : Cls K C) (hn : NoAttr K C f) (hl : fs.length < 1000)
    (k : ∀ p H1, Ex H H1 → S2 m1 m2 H1 p rows → tz D σ (upd H1 a (.ins C dx (putF f (.ref p) fs)))) : tSeq (sFld K ta tv f) tz D σ H :=
  hv H (Ex.refl H) _ fun p H1 hp e1 h1 => ha H1 e1 _ fun H2 e2 => ⟨a, C, dx, fs, rfl, e2 _ _ (e1 _ _ ho), hc, hn, hl, k p H2 (e1.trans e2) (h1.ex e2)⟩
theorem s_fldU {a C dx : Addr} {fs : List (Str × V)} {f : Str} {xs : List V} (hv : EvU tv σ H xs) (ha : Ev ta σ H (.ref a)) (ho : H a = some (.ins C dx fs)) (hc : Cls K C) (hn : NoAttr K C f) (hl : fs.length < 1000)
    (k : ∀ p H1, Ex H H1 → D.nx σ (upd H1 a (.ins C dx (putF f (.ref p) fs)))) : sFld K ta tv f D σ H :=
  hv H (Ex.refl H) _ fun p H1 hp e1 h1 => ha H1 e1 _ fun H2 e2 => ⟨a, C, dx, fs, rfl, e2 _ _ (e1 _ _ ho), hc, hn, hl, k p H2 (e1.trans e2)⟩
theorem ev_allTQ {b : Addr} {bs : List Bool} (ha : EvA tr σ H [.ref b]) (h : H b = some (.tup (bs.map V.bl))) : Ev (tCB (fun vs H Q => rAll K vs H Q ∨ rAllT K vs H Q) tr) σ H (.bl (bs.all id)) := fun H1 e Q q =>
  ha H1 e _ fun H2 e2 => Or.inr ⟨b, bs, rfl, SqT.of (e2 _ _ (e _ _ h)), q H2 e2⟩
theorem ev_allNQ {bs : List Bool} (ha : EvL ta σ H (bs.map V.bl)) : Ev (tCB (fun vs H Q => rAll K vs H Q ∨ rAllT K vs H Q) (tCons ta tNil)) σ H (.bl (bs.all id)) := fun H1 e Q q =>
  ha H1 e _ fun p H2 _ e2 h2 => Or.inl ⟨p, bs, rfl, SqL.of h2, q H2 e2⟩
theorem ev_lenNU {xs : List V} (ha : EvU ta σ H xs) : Ev (tCB (rLenS K) (tCons ta tNil)) σ H (.int (xs.length : Int)) := fun H1 e Q q =>
  ha H1 e _ fun p H2 _ e2 h2 => ⟨p, xs, rfl, Or.inr (SqT.of h2), q H2 e2⟩
def SpU (sp : Sp) (vs : List V) (H : Hp) (xs : List V) : Prop := ∀ H1, Ex H H1 → ∀ Q : VK, (∀ p H2, H1 p = none → Ex H1 H2 → H2 p = some (.tup xs) → Q (.ref p) H2) → ∀ E : XK, sp vs H1 Q E
theorem eu_call {sp : Sp} {dvs vs xs : List V} {E : XK} {ta : TA} (h : EvA ta σ H vs) (hs : SpU sp (vs ++ dvs) H xs) : EvU (tCall sp dvs E ta) σ H xs := fun H1 e Q q =>
  h H1 e _ fun H2 e2 => hs H2 (e.trans e2) Q (fun p H3 hp e3 h3 => q p H3 (fresh_back e2 hp) (e2.trans e3) h3) E
/-- a call whose first argument is a new row of rows -/
theorem es_callS {sp : Sp} {dvs : List V} {E : XK} {ta : TA} {m1 m2 m3 m4 : List V → HO} {rows rows' : List (List V)} {vs : List V} (h : EvS m1 m2 te σ H rows) (ha : ∀ H1, Ex H H1 → EvA ta σ H1 vs) (hs : ∀ p H1, Ex H H1 → S2 m1 m2 H1 p rows → SpS sp ((.ref p :: vs) ++ dvs) H1 m3 m4 rows') : EvS m3 m4 (tCall sp dvs E (tCons te ta)) σ H rows' := fun H1 e Q q =>
  h H1 e _ fun p H2 hp e2 h2 => ha H2 (e.trans e2) H2 (Ex.refl H2) _ fun H3 e3 => hs p H3 ((e.trans e2).trans e3) (h2.ex e3) H3 (Ex.refl H3) Q (fun p' H4 hp' e4 h4 => q p' H4 (fresh_back (e2.trans e3) hp') ((e2.trans e3).trans e4) h4) E
end
end KM

/-! ## KD5: the defs of the lattice module: the class Lattice -/
namespace KM
open PySem PySem.Spec PyProof.Rows L2 Evl
/-- a class of the text, where it stands -/
structure HasC (P : Program) (w : World) (K : PySem.W.Frag) (mg : Str → Option Value) (base : Heap) (CX : CXT) (k : Nat) (x : Str) (ps : List Str) (sp : Sp) (C f : Addr) (fd : FuncData) : Prop where
  g : mg x = some (.ref C)
  mkc : Mk K C f
  b : Binds K fd ps []
  ok : FnOk P w K mg base CX k f fd ps sp
/-- a method of the class at C -/
structure HasM (P : Program) (w : World) (K : PySem.W.Frag) (mg : Str → Option Value) (base : Heap) (CX : CXT) (k : Nat) (C : Addr) (x : Str) (ps : List Str) (sp : Sp) (f : Addr) (fd : FuncData) : Prop where
  m : Meth K C x f
  b : Binds K fd ps []
  ok : FnOk P w K mg base CX k f fd ps sp
theorem rowB_map (L : Lt) (x : Nat) : rowB L x = ((List.range L.n).map (L.le x)).map V.bl := by
  unfold rowB
  rw [List.map_map]
  rfl
theorem head_at {l : List Nat} (h : l ≠ []) : (intsV l)[0]? = some (.int ((l.headD 0 : Nat) : Int)) := by
  cases l with
  | nil => exact absurd rfl h
  | cons a r => rfl
section
variable {P : Program} {w : World} {K : PySem.W.Frag} {mg : Str → Option Value} {base : Heap} {CX : CXT} {f C : Addr} {fd : FuncData}
/-! ## KD5: ### __init__ -/
abbrev nl_Lattice_init : List Str := ["self", "table", "numbers", "x", "row"]
theorem sc_Lattice_init : FnScope nl_Lattice_init ["self", "table"] (defScope s_Lattice_init) := ⟨rfl, rfl, rfl, by decide +kernel, rfl, by decide +kernel, by decide +kernel⟩
-- slots: 0:self 1:table 2:numbers 3:x 4:row
def spInit (C : Addr) : Sp := fun vs H Q _ => ∃ (x dx a : Addr) (L : Lt), vs = [.ref x, .ref a] ∧ Good L ∧ H x = some (.ins C dx []) ∧ S2 .lst .lst H a (tblV L) ∧ ∀ H2, Kx x H H2 → LI C H2 x L → Q .non H2
theorem ok_Lattice_init {f1 f2 f3 f4 f5 : Addr} {d1 d2 d3 d4 d5 : FuncData} (cC : LC K C) (h_checked_rows : Has P w K mg base CX0 1 "checked_rows" ["table"] spChecked f1 d1) (h_check_order : Has P w K mg base CX0 1 "check_order" ["table"] spOrder f2 d2)
    (h_bound_rows : Has P w K mg base CX0 2 "bound_rows" ["table", "what"] spBound f3 d3) (h_turned_rows : Has P w K mg base CX0 1 "turned_rows" ["table"] spTurned f4 d4) (h_lower_covers : Has P w K mg base CX0 1 "lower_covers" ["table", "worth"] spCovers f5 d5)
    (F : At K "__init__" "Lattice.__init__" s_Lattice_init f fd) (T : Tx K mg) : FnOk P w K mg base CX 3 f fd ["self", "table"] (spInit C) := by
  refine F.ok sc_Lattice_init (fun vs H Q E h => ?_) (fun cdv A outer s H vs Q E hr h => ?_)
  · obtain ⟨x, dx, a, L, rfl, _⟩ := h
    rfl
  obtain ⟨x, dx, a, L, rfl, g, hx, hT, q⟩ := h
  refine ⟨_, PSs.nox (pss_cons (ps_fld (pv 0) (pe_call h_checked_rows.ok (hr.mono (by decide)) rfl h_checked_rows.g h_checked_rows.kp h_checked_rows.b .nil pass0 (pa_cons (pv 1) pa_nil)) rfl)
    (pss_cons (ps_expr (pe_call h_check_order.ok (hr.mono (by decide)) rfl h_check_order.g h_check_order.kp h_check_order.b .nil pass0 (pa_cons (pfld (K := K) (pv 0) rfl) pa_nil)))
    (pss_cons (ps_fld (pv 0) (pe_callB (clen (K := K)) (by rfl) T.m_len (by decide +kernel) (pa_cons (pfld (K := K) (pv 0) rfl) pa_nil)) rfl)
    (pss_cons (ps_fld (pv 0) (pe_call h_bound_rows.ok (hr.mono (by decide)) rfl h_bound_rows.g h_bound_rows.kp h_bound_rows.b .nil pass0 (pa_cons (pfld (K := K) (pv 0) rfl) (pa_cons pe_str pa_nil))) rfl)
    (pss_cons (ps_fld (pv 0) (pe_call h_bound_rows.ok (hr.mono (by decide)) rfl h_bound_rows.g h_bound_rows.kp h_bound_rows.b .nil pass0 (pa_cons (pe_call h_turned_rows.ok (hr.mono (by decide)) rfl h_turned_rows.g h_turned_rows.kp h_turned_rows.b .nil pass0 (pa_cons (pfld (K := K) (pv 0) rfl) pa_nil)) (pa_cons pe_str pa_nil))) rfl)
    (pss_cons (ps_set (i := 2) sc_Lattice_init.nd rfl (by first | exact Or.inl rfl | exact Or.inr rfl) (pe_listRg rfl (by rfl) T.m_list (prg_1 (by rfl) T.m_range (pfld (K := K) (pv 0) rfl))))
    (pss_cons (ps_fld (pv 0) (pe_ix (ixq (K := K)) (pe_lc (own := [("x", 3)]) (g := gName 3) rfl sc_Lattice_init.nd (piL (K := K) (pv 2)) (blkOk_by (N := nl_Lattice_init) (sc := (defScope s_Lattice_init)) (by decide +kernel)) (fun _ _ _ _ _ => pg_name (i := 3) sc_Lattice_init.nd rfl (by first | exact Or.inl rfl | exact Or.inr rfl)) (by intro _ _ _ _ _; exact pts_one (pt_val (pe_callB (callAQ (K := K) rfl) (by rfl) T.m_all (by decide +kernel) (pa_cons (pe_ix (ixq (K := K)) (pfld (K := K) (pv 0) rfl) (pv 3) (fun _ _ => rfl)) pa_nil)))) (by intro _ _ _ _ _; exact (pv 3))) pe_int (fun _ _ => rfl)) rfl)
    (pss_cons (ps_fld (pv 0) (pe_ix (ixq (K := K)) (pe_lc (own := [("x", 3)]) (g := gName 3) rfl sc_Lattice_init.nd (piL (K := K) (pv 2)) (blkOk_by (N := nl_Lattice_init) (sc := (defScope s_Lattice_init)) (by decide +kernel)) (fun _ _ _ _ _ => pg_name (i := 3) sc_Lattice_init.nd rfl (by first | exact Or.inl rfl | exact Or.inr rfl)) (by intro _ _ _ _ _; exact pts_one (pt_val (pe_callB (callAQ (K := K) rfl) (by rfl) T.m_all (by decide +kernel) (pa_cons (pe_lc (own := [("row", 4)]) (g := gName 4) (tt := tYes) rfl sc_Lattice_init.nd (piT (K := K) (pfld (K := K) (pv 0) rfl)) (blkOk_by (N := nl_Lattice_init) (sc := (relS _ (defScope s_Lattice_init))) (by decide +kernel)) (fun _ _ _ _ _ => pg_name (i := 4) sc_Lattice_init.nd rfl (by first | exact Or.inl rfl | exact Or.inr rfl)) (fun _ _ _ _ _ => pts_nil) (by intro _ _ _ _ _; exact (pe_ix (ixq (K := K)) (pv 4) (pv 3) (fun _ _ => rfl)))) pa_nil)))) (by intro _ _ _ _ _; exact (pv 3))) pe_int (fun _ _ => rfl)) rfl)
    (pss_one (ps_fld (pv 0) (pe_callTy (ctup (K := K)) (by rfl) T.m_tuple (by decide +kernel) (pa_cons (pe_lc (own := [("x", 3)]) (g := gName 3) rfl sc_Lattice_init.nd (piL (K := K) (pv 2)) (blkOk_by (N := nl_Lattice_init) (sc := (defScope s_Lattice_init)) (by decide +kernel)) (fun _ _ _ _ _ => pg_name (i := 3) sc_Lattice_init.nd rfl (by first | exact Or.inl rfl | exact Or.inr rfl)) (by intro _ _ _ _ _; exact pts_one (pt_cmpR op_eq (pe_callB (clen (K := K)) (by rfl) T.m_len (by decide +kernel) (pa_cons (pe_call h_lower_covers.ok (hr.mono (by decide)) rfl h_lower_covers.g h_lower_covers.kp h_lower_covers.b .nil pass0 (pa_cons (pfld (K := K) (pv 0) rfl) (pa_cons (pv 3) pa_nil))) pa_nil)) pe_int (nomark _))) (by intro _ _ _ _ _; exact (pv 3))) pa_nil)) rfl)))))))))), ?_⟩
  have hn := g.small
  -- self.table
  refine q_fldS (m1 := .tup) (m2 := .tup) (rows := tblV L) (es_call (ea_cons (ev_var rfl) ea_nil) fun H1 e1 Q k E => ⟨a, L, rfl, g.pos, g.small, hT.ex e1, k⟩) (ev_var rfl) hx cC.cl cC.nT (by decide) fun t H1 e1 h1 => ?_
  have x1 : upd H1 x (.ins C dx (putF "table" (.ref t) [])) x = some (.ins C dx (putF "table" (.ref t) [])) := upd_same
  have k1 : Kx x H (upd H1 x (.ins C dx (putF "table" (.ref t) []))) := ((Kx.refl x H).ex e1).put
  have t1 := h1.kx ((Kx.refl x H1).put (o := .ins C dx (putF "table" (.ref t) []))) (e1 _ _ hx)
  have l1 : (putF "table" (.ref t) []).lookup ("table" : Str) = some (.ref t) := lkS
  have n1 : (putF "table" (V.ref t) []).length ≤ 1 := length_putF _ _ _
  have z1 : ∀ g : Str, ¬ g = "table" → (putF "table" (V.ref t) []).lookup g = none := fun g hg => lkO hg rfl
  generalize putF "table" (V.ref t) [] = fs1 at *
  generalize upd H1 x _ = G1 at *
  clear h1 e1 H1
  -- check_order(self.table)
  refine q_drop (v := .non) (ev_call (ea_cons (ev_fld (ev_var rfl) x1 cC.cl cC.nT l1) ea_nil) fun H1 e1 Q k E => ⟨t, L, rfl, g.small, g.ord, t1.ex e1, k⟩) fun H2 e2 => ?_
  have x2 := e2 _ _ x1
  have t2 := t1.ex e2
  have k2 := k1.ex e2
  -- self.size
  refine q_fld (y := .int (L.n : Int)) (ev_lenST (ea_cons (ev_fld (ev_var rfl) x2 cC.cl cC.nT l1) ea_nil) t2 (rowsTo_len _ _)) (ev_var rfl) x2 cC.cl cC.nS (by omega) fun H3 e3 => ?_
  have x3 : upd H3 x (.ins C dx (putF "size" (.int (L.n : Int)) fs1)) x = some (.ins C dx (putF "size" (.int (L.n : Int)) fs1)) := upd_same
  have k3 := (k2.ex e3).put (o := .ins C dx (putF "size" (.int (L.n : Int)) fs1))
  have t3 := (t2.ex e3).kx ((Kx.refl x H3).put (o := .ins C dx (putF "size" (.int (L.n : Int)) fs1))) (e3 _ _ x2)
  have l3 : (putF "size" (.int (L.n : Int)) fs1).lookup ("table" : Str) = some (.ref t) := lkO (by decide +kernel) l1
  have s3 : (putF "size" (.int (L.n : Int)) fs1).lookup ("size" : Str) = some (.int (L.n : Int)) := lkS
  have n3 : (putF "size" (V.int (L.n : Int)) fs1).length ≤ 2 := Nat.le_trans (length_putF _ _ _) (by omega)
  have z3 : ∀ g : Str, ¬ g = "size" → ¬ g = "table" → (putF "size" (V.int (L.n : Int)) fs1).lookup g = none := fun g h1 h2 => lkO h1 (z1 g h2)
  generalize putF "size" (V.int (L.n : Int)) fs1 = fs3 at *
  generalize upd H3 x _ = G3 at *
  clear x2 t2 k2 x1 t1 k1 l1 n1 z1 e2 e3 H3 H2 G1
  -- self.join_rows
  refine q_fldS (m1 := .tup) (m2 := .tup) (rows := jnsV L) (es_call (ea_cons (ev_fld (ev_var rfl) x3 cC.cl cC.nT l3) (ea_cons ev_c ea_nil)) fun H1 e1 Q k E => ⟨t, L, _, rfl, g.small, g.lub, fun x hx => g.jn_self hx, t3.ex e1, k⟩) (ev_var rfl) x3 cC.cl cC.nJ (by omega) fun j H4 e4 h4 => ?_
  have x4 : upd H4 x (.ins C dx (putF "join_rows" (.ref j) fs3)) x = some (.ins C dx (putF "join_rows" (.ref j) fs3)) := upd_same
  have kk := (Kx.refl x H4).put (o := .ins C dx (putF "join_rows" (.ref j) fs3))
  have k4 := (k3.ex e4).put (o := .ins C dx (putF "join_rows" (.ref j) fs3))
  have t4 := (t3.ex e4).kx kk (e4 _ _ x3)
  have j4 := h4.kx kk (e4 _ _ x3)
  have l4 : (putF "join_rows" (.ref j) fs3).lookup ("table" : Str) = some (.ref t) := lkO (by decide +kernel) l3
  have s4 : (putF "join_rows" (.ref j) fs3).lookup ("size" : Str) = some (.int (L.n : Int)) := lkO (by decide +kernel) s3
  have r4 : (putF "join_rows" (.ref j) fs3).lookup ("join_rows" : Str) = some (.ref j) := lkS
  have n4 : (putF "join_rows" (V.ref j) fs3).length ≤ 3 := Nat.le_trans (length_putF _ _ _) (by omega)
  have z4 : ∀ g : Str, ¬ g = "join_rows" → ¬ g = "size" → ¬ g = "table" → (putF "join_rows" (V.ref j) fs3).lookup g = none := fun g h1 h2 h3 => lkO h1 (z3 g h2 h3)
  generalize putF "join_rows" (V.ref j) fs3 = fs4 at *
  generalize upd H4 x _ = G4 at *
  clear x3 t3 k3 l3 n3 z3 s3 e4 h4 kk H4 G3
  -- self.meet_rows
  refine q_fldS (m1 := .tup) (m2 := .tup) (rows := jnsV L.dual) (es_callS (m1 := .tup) (m2 := .tup) (rows := tblV L.dual) (es_call (ea_cons (ev_fld (ev_var rfl) x4 cC.cl cC.nT l4) ea_nil) fun H1 e1 Q k E => ⟨t, L, rfl, g.small, t4.ex e1, k⟩) (fun H1 e1 => ea_cons ev_c ea_nil)
    fun p H1 e1 hp H2 e2 Q k E => ⟨p, L.dual, _, rfl, g.small, g.glb, fun x hx => g.dual.jn_self hx, hp.ex e2, k⟩) (ev_var rfl) x4 cC.cl cC.nM (by omega) fun m H5 e5 h5 => ?_
  have x5 : upd H5 x (.ins C dx (putF "meet_rows" (.ref m) fs4)) x = some (.ins C dx (putF "meet_rows" (.ref m) fs4)) := upd_same
  have kk := (Kx.refl x H5).put (o := .ins C dx (putF "meet_rows" (.ref m) fs4))
  have k5 := (k4.ex e5).put (o := .ins C dx (putF "meet_rows" (.ref m) fs4))
  have t5 := (t4.ex e5).kx kk (e5 _ _ x4)
  have j5 := (j4.ex e5).kx kk (e5 _ _ x4)
  have m5 := h5.kx kk (e5 _ _ x4)
  have l5 : (putF "meet_rows" (.ref m) fs4).lookup ("table" : Str) = some (.ref t) := lkO (by decide +kernel) l4
  have s5 : (putF "meet_rows" (.ref m) fs4).lookup ("size" : Str) = some (.int (L.n : Int)) := lkO (by decide +kernel) s4
  have r5 : (putF "meet_rows" (.ref m) fs4).lookup ("join_rows" : Str) = some (.ref j) := lkO (by decide +kernel) r4
  have u5 : (putF "meet_rows" (.ref m) fs4).lookup ("meet_rows" : Str) = some (.ref m) := lkS
  have n5 : (putF "meet_rows" (V.ref m) fs4).length ≤ 4 := Nat.le_trans (length_putF _ _ _) (by omega)
  have z5 : ∀ g : Str, ¬ g = "meet_rows" → ¬ g = "join_rows" → ¬ g = "size" → ¬ g = "table" → (putF "meet_rows" (V.ref m) fs4).lookup g = none := fun g h0 h1 h2 h3 => lkO h0 (z4 g h1 h2 h3)
  generalize putF "meet_rows" (V.ref m) fs4 = fs5 at *
  generalize upd H5 x _ = G5 at *
  clear x4 t4 k4 l4 n4 z4 s4 r4 j4 e5 h5 kk H5 G4
  -- numbers
  refine q_asgL (el_lrg (ev_fld (ev_var rfl) x5 cC.cl cC.nS s5) (by omega)) fun p H6 hp e6 h6 => ?_
  have x6 := e6 _ _ x5
  have t6 := t5.ex e6
  -- self.bottom
  refine q_fld (y := .int (L.bot : Int)) (ev_x0 (xs := intsV L.bots) ?_ (head_at g.hbot)) (ev_var rfl) x6 cC.cl cC.nB (by omega) fun H7 e7 => ?_
  · refine el_lcI (l := List.range L.n) (fun x => (List.range L.n).all fun y => L.le x y) (fun z => V.int ((z : Nat) : Int)) (ev_var (i := 2) rfl) h6 (by rw [List.length_range]; omega) (fun _ => rfl) (fun k H7 e7 hk => ?_) (fun k H7 e7 hk _ => ev_var rfl)
    have hk := List.mem_range.mp hk
    obtain ⟨as, a1, a2⟩ := t6
    obtain ⟨b, b1, b2⟩ := Paired.nth a2 (rowsTo_get (f := rowB L) hk)
    have b3 : (as.map V.ref)[k]? = some (.ref b) := by rw [List.getElem?_map, b1]; rfl
    refine et_B (ev_is (ev_allTQ (b := b) (bs := (List.range L.n).map (L.le k)) (ea_cons (ev_xT (ev_fld (ev_var rfl) (e7 _ _ x6) cC.cl cC.nT l5) (ev_var rfl) (e7 _ _ a1) b3) ea_nil) ?_) ?_)
    · rw [← rowB_map]
      exact e7 _ _ b2
    · rw [List.all_map]
      rfl
  have x7 : upd H7 x (.ins C dx (putF "bottom" (.int (L.bot : Int)) fs5)) x = some (.ins C dx (putF "bottom" (.int (L.bot : Int)) fs5)) := upd_same
  have kk := (Kx.refl x H7).put (o := .ins C dx (putF "bottom" (.int (L.bot : Int)) fs5))
  have k7 := (k5.ex (e6.trans e7)).put (o := .ins C dx (putF "bottom" (.int (L.bot : Int)) fs5))
  have t7 := (t6.ex e7).kx kk (e7 _ _ x6)
  have j7 := (j5.ex (e6.trans e7)).kx kk (e7 _ _ x6)
  have m7 := (m5.ex (e6.trans e7)).kx kk (e7 _ _ x6)
  have npx : p ≠ x := fun c => by
    rw [c, x6] at h6
    cases h6
  have h7 := kk _ _ npx (e7 _ _ h6)
  have l7 : (putF "bottom" (.int (L.bot : Int)) fs5).lookup ("table" : Str) = some (.ref t) := lkO (by decide +kernel) l5
  have s7 : (putF "bottom" (.int (L.bot : Int)) fs5).lookup ("size" : Str) = some (.int (L.n : Int)) := lkO (by decide +kernel) s5
  have r7 : (putF "bottom" (.int (L.bot : Int)) fs5).lookup ("join_rows" : Str) = some (.ref j) := lkO (by decide +kernel) r5
  have u7 : (putF "bottom" (.int (L.bot : Int)) fs5).lookup ("meet_rows" : Str) = some (.ref m) := lkO (by decide +kernel) u5
  have v7 : (putF "bottom" (.int (L.bot : Int)) fs5).lookup ("bottom" : Str) = some (.int (L.bot : Int)) := lkS
  have n7 : (putF "bottom" (V.int (L.bot : Int)) fs5).length ≤ 5 := Nat.le_trans (length_putF _ _ _) (by omega)
  have z7 : ∀ g : Str, ¬ g = "bottom" → ¬ g = "meet_rows" → ¬ g = "join_rows" → ¬ g = "size" → ¬ g = "table" → (putF "bottom" (V.int (L.bot : Int)) fs5).lookup g = none := fun g hb h0 h1 h2 h3 => lkO hb (z5 g h0 h1 h2 h3)
  generalize putF "bottom" (V.int (L.bot : Int)) fs5 = fs7 at *
  generalize upd H7 x _ = G7 at *
  clear x6 t6 k5 l5 n5 z5 s5 r5 j5 e6 h6 kk e7 H7 u5 m5 hp
  -- self.top
  refine q_fld (y := .int (L.top : Int)) (ev_x0 (xs := intsV L.dual.bots) ?_ (head_at g.htop)) (ev_var rfl) x7 cC.cl cC.nU (by omega) fun H8 e8 => ?_
  · refine el_lcI (l := List.range L.n) (fun x => (List.range L.n).all fun y => L.le y x) (fun z => V.int ((z : Nat) : Int)) (ev_var (i := 2) rfl) h7 (by rw [List.length_range]; omega) (fun _ => rfl) (fun k H9 e9 hk => ?_) (fun k H9 e9 hk _ => ev_var rfl)
    have hk := List.mem_range.mp hk
    obtain ⟨as, a1, a2⟩ := t7
    have hal : as.length = L.n := by
      rw [Paired.length a2]
      exact rowsTo_len _ _
    refine et_B (ev_is (ev_allNQ (bs := (List.range L.n).map fun y => L.le y k) ?_) ?_)
    · have main := el_lcT (K := K) (t := tYes) (te := tOp (rIx K) (tVar 4) (tVar 3)) (j := 4) (vs := [4]) (σ := (wipe ((L2.start nl_Lattice_init [V.ref x, V.ref a]).set 2 (some (V.ref p))) [3]).set 3 (some (V.int ((k : Nat) : Int)))) (H := H9) (tl := tFld K (tVar 0) "table")
        (fun _ => true) (fun i => V.bl (L.le i k)) (ev_fld (ev_var rfl) (e9 _ _ x7) cC.cl cC.nT l7) (e9 _ _ a1) (by rw [List.length_map]; omega) (fun _ => rfl) (fun i v H10 e10 hv => et_yes) (fun i v H10 e10 hv _ => ?_)
      · rw [given_all, List.length_map, hal] at main
        rw [List.map_map]
        exact main
      · have hi : i < L.n := by
          have := (List.getElem?_eq_some_iff.mp hv).1
          rw [List.length_map] at this
          omega
        obtain ⟨b, b1, b2⟩ := Paired.nth a2 (rowsTo_get (f := rowB L) hi)
        rw [List.getElem?_map, b1] at hv
        obtain rfl : V.ref b = v := Option.some.inj hv
        exact ev_xT (ev_var rfl) (ev_var rfl) (e10 _ _ (e9 _ _ b2)) (mapR_get hk)
    · rw [List.all_map]
      rfl
  have x8 : upd H8 x (.ins C dx (putF "top" (.int (L.top : Int)) fs7)) x = some (.ins C dx (putF "top" (.int (L.top : Int)) fs7)) := upd_same
  have kk := (Kx.refl x H8).put (o := .ins C dx (putF "top" (.int (L.top : Int)) fs7))
  have k8 := (k7.ex e8).put (o := .ins C dx (putF "top" (.int (L.top : Int)) fs7))
  have t8 := (t7.ex e8).kx kk (e8 _ _ x7)
  have j8 := (j7.ex e8).kx kk (e8 _ _ x7)
  have m8 := (m7.ex e8).kx kk (e8 _ _ x7)
  have h8 := kk _ _ npx (e8 _ _ h7)
  have l8 : (putF "top" (.int (L.top : Int)) fs7).lookup ("table" : Str) = some (.ref t) := lkO (by decide +kernel) l7
  have s8 : (putF "top" (.int (L.top : Int)) fs7).lookup ("size" : Str) = some (.int (L.n : Int)) := lkO (by decide +kernel) s7
  have r8 : (putF "top" (.int (L.top : Int)) fs7).lookup ("join_rows" : Str) = some (.ref j) := lkO (by decide +kernel) r7
  have u8 : (putF "top" (.int (L.top : Int)) fs7).lookup ("meet_rows" : Str) = some (.ref m) := lkO (by decide +kernel) u7
  have v8 : (putF "top" (.int (L.top : Int)) fs7).lookup ("bottom" : Str) = some (.int (L.bot : Int)) := lkO (by decide +kernel) v7
  have w8 : (putF "top" (.int (L.top : Int)) fs7).lookup ("top" : Str) = some (.int (L.top : Int)) := lkS
  have n8 : (putF "top" (V.int (L.top : Int)) fs7).length ≤ 6 := Nat.le_trans (length_putF _ _ _) (by omega)
  have z8 : ∀ g : Str, ¬ g = "top" → ¬ g = "bottom" → ¬ g = "meet_rows" → ¬ g = "join_rows" → ¬ g = "size" → ¬ g = "table" → (putF "top" (V.int (L.top : Int)) fs7).lookup g = none := fun g ht hb h0 h1 h2 h3 => lkO ht (z7 g hb h0 h1 h2 h3)
  generalize putF "top" (V.int (L.top : Int)) fs7 = fs8 at *
  generalize upd H8 x _ = G8 at *
  -- self.primes
  refine s_fldU (xs := intsV ((List.range L.n).filter fun x => decide ((coversOf L x).length = 1))) (eu_tupN ?_) (ev_var rfl) x8 cC.cl cC.nP (by omega) fun pr H9 e9 => ?_
  · refine el_lcI (l := List.range L.n) (fun x => decide ((coversOf L x).length = 1)) (fun z => V.int ((z : Nat) : Int)) (ev_var (i := 2) rfl) h8 (by rw [List.length_range]; omega) (fun _ => rfl) (fun k H9 e9 hk => ?_) (fun k H9 e9 hk _ => ev_var rfl)
    have hk := List.mem_range.mp hk
    have hh : Ev (tCB (rLenS K) (tCons (tCall spCovers [] E0 (tCons (tFld K (tVar 0) "table") (tCons (tVar 3) tNil))) tNil)) ((wipe ((L2.start nl_Lattice_init [V.ref x, V.ref a]).set 2 (some (V.ref p))) [3]).set 3 (some (V.int ((k : Nat) : Int)))) H9 (.int (((coversOf L k).length : Nat) : Int)) := by
      rw [← intsV_len]
      exact ev_lenNU (eu_call (ea_cons (ev_fld (ev_var rfl) (e9 _ _ x8) cC.cl cC.nT l8) (ea_cons (ev_var rfl) ea_nil)) fun H10 e10 Q k2 E => ⟨t, L, k, rfl, g.small, hk, (t8.ex e9).ex e10, k2⟩)
    exact et_test (ev_op hh ev_c (rv_eqN _ 1))
  refine q _ ((k8.ex e9).put) ⟨dx, _, upd_same, ?_⟩
  have kk := (Kx.refl x H9).put (o := .ins C dx (putF "primes" (.ref pr) fs8))
  exact ⟨lkO (by decide +kernel) s8, ⟨j, lkO (by decide +kernel) r8, (j8.ex e9).kx kk (e9 _ _ x8)⟩, ⟨m, lkO (by decide +kernel) u8, (m8.ex e9).kx kk (e9 _ _ x8)⟩, lkO (by decide +kernel) v8, lkO (by decide +kernel) w8,
    lkO (by decide +kernel) (z8 _ (by decide +kernel) (by decide +kernel) (by decide +kernel) (by decide +kernel) (by decide +kernel) (by decide +kernel)), lkO (by decide +kernel) (z8 _ (by decide +kernel) (by decide +kernel) (by decide +kernel) (by decide +kernel) (by decide +kernel) (by decide +kernel))⟩
/-! ## KD5: ### join_of, meet_of -/
abbrev nl_Lattice_join_of : List Str := ["self", "one", "other"]
theorem sc_Lattice_join_of : FnScope nl_Lattice_join_of ["self", "one", "other"] (defScope s_Lattice_join_of) := ⟨rfl, rfl, rfl, by decide +kernel, rfl, by decide +kernel, by decide +kernel⟩
-- slots: 0:self 1:one 2:other
def spJoin (C : Addr) : Sp := fun vs H Q _ => ∃ (a : Addr) (L : Lt) (x y : Nat), vs = [.ref a, .int (x : Int), .int (y : Int)] ∧ x < L.n ∧ y < L.n ∧ LI C H a L ∧ RetV (.int ((L.jn x y : Nat) : Int)) H Q
theorem ok_join_of (cC : LC K C) (F : At K "join_of" "Lattice.join_of" s_Lattice_join_of f fd) (T : Tx K mg) : FnOk P w K mg base CX 1 f fd ["self", "one", "other"] (spJoin C) := by
  refine F.ok sc_Lattice_join_of (fun vs H Q E h => ?_) (fun cdv A outer s H vs Q E hr h => ?_)
  · obtain ⟨a, L, x, y, rfl, _⟩ := h
    rfl
  obtain ⟨a, L, x, y, rfl, hx, hy, ⟨dx, fs, ha, lf⟩, q⟩ := h
  refine ⟨_, PSs.nox (pss_one (ps_ret (pe_ix (ixq (K := K)) (pe_ix (ixq (K := K)) (pfld (K := K) (pv 0) rfl) (pv 1) (fun _ _ => rfl)) (pv 2) (fun _ _ => rfl)))), ?_⟩
  obtain ⟨j, j1, j2⟩ := lf.jr
  exact s_ret (ev_jnT (ev_fld (ev_var rfl) ha cC.cl cC.nJ j1) (ev_var rfl) (ev_var rfl) j2 hx hy) q
abbrev nl_Lattice_meet_of : List Str := ["self", "one", "other"]
theorem sc_Lattice_meet_of : FnScope nl_Lattice_meet_of ["self", "one", "other"] (defScope s_Lattice_meet_of) := ⟨rfl, rfl, rfl, by decide +kernel, rfl, by decide +kernel, by decide +kernel⟩
-- slots: 0:self 1:one 2:other
def spMeet (C : Addr) : Sp := fun vs H Q _ => ∃ (a : Addr) (L : Lt) (x y : Nat), vs = [.ref a, .int (x : Int), .int (y : Int)] ∧ x < L.n ∧ y < L.n ∧ LI C H a L ∧ RetV (.int ((L.mt x y : Nat) : Int)) H Q
theorem ok_meet_of (cC : LC K C) (F : At K "meet_of" "Lattice.meet_of" s_Lattice_meet_of f fd) (T : Tx K mg) : FnOk P w K mg base CX 1 f fd ["self", "one", "other"] (spMeet C) := by
  refine F.ok sc_Lattice_meet_of (fun vs H Q E h => ?_) (fun cdv A outer s H vs Q E hr h => ?_)
  · obtain ⟨a, L, x, y, rfl, _⟩ := h
    rfl
  obtain ⟨a, L, x, y, rfl, hx, hy, ⟨dx, fs, ha, lf⟩, q⟩ := h
  refine ⟨_, PSs.nox (pss_one (ps_ret (pe_ix (ixq (K := K)) (pe_ix (ixq (K := K)) (pfld (K := K) (pv 0) rfl) (pv 1) (fun _ _ => rfl)) (pv 2) (fun _ _ => rfl)))), ?_⟩
  obtain ⟨j, j1, j2⟩ := lf.mr
  exact s_ret (ev_jnT (L := L.dual) (ev_fld (ev_var rfl) ha cC.cl cC.nM j1) (ev_var rfl) (ev_var rfl) j2 hx hy) q
end
end KM

/-! ## KExc: the text's own errors: made, raised, read -/
namespace KM
open PySem PySem.Spec PyProof.Rows L2 Evl
/-- WorthError as the top has made it: its __init__ is ValueError's -/
structure WoC (K : PySem.W.Frag) (mg : Str → Option Value) (C : Addr) : Prop where
  g : mg "WorthError" = some (.ref C)
  rd : PySem.W.readsIn K C (.type "type") = true
  sp : PySem.W.specialIn K (.ref C) "__getattribute__" = some (some (.builtin "type.__getattribute__"))
  fc : PySem.W.findCls K (.ref C) (.type "type") "__init__" = some (.val (.builtin "ValueError.__init__"))
/-- an error class x with the field f, its __init__ at fI -/
structure XC (K : PySem.W.Frag) (mg : Str → Option Value) (x f : Str) (C fI : Addr) : Prop where
  g : mg x = some (.ref C)
  ox : OexC K C
  ga : PySem.W.findIn K (.ref C) "__getattribute__" = some (some (.builtin "BaseException.__getattribute__"))
  gg : PySem.W.findIn K (.ref C) "__getattr__" = some none
  no : PySem.W.findIn K (.ref C) f = some none
  hd : PySem.W.hasDictIn K C = true
  ii : PySem.W.findIn K (.ref C) "__init__" = some (some (.ref fI))
  ti : PySem.W.typeIn K (.ref fI) = some (.type "function")
  te : PySem.W.exmOne K (.ref C) (.ref C) = some true
section
variable {X : Cx} {C fI : Addr} {e : Expr} {es : List Expr} {ta : TA} {te : TE} {p p1 p2 pos : Pos} {f x : Str}
/-- WorthError.__init__(self, ..) -/
theorem pe_woinit {pl : Sem Bool} (W : WoC X.K X.mg C) (hg : Gl X "WorthError") (ha : PA X (e :: es) ta)
    (hc : eval (.Call (.Attribute (.Name "WorthError" p1) "__init__" p2) (e :: es) [] pos) X.env = (do
      let ov ← eval (.Name "WorthError" p1) X.env
      standAt p2.atName
      let (f, first) ← holding [ov] (getMethod ov "__init__" pl)
      callWith pos f first (backTo pos (starEach (e :: es) X.env)) (backToKw pos (keywordEach [] X.env))) := by rfl)
    (he : starEach (e :: es) X.env = (false, eval e X.env) :: starEach es X.env := by rfl) (hpl : (backTo pos (starEach es X.env)).any (·.1) = false := by rfl) :
    PE X (.Call (.Attribute (.Name "WorthError" p1) "__init__" p2) (e :: es) [] pos) (tVeI X.K ta) := by
  refine ⟨fun pins s σ H Q I h => ?_⟩
  refine PySem.W.methodCall_KW (ld_glob I hg W.g ?_) hc
  refine PySem.W.method_cls I.kIn W.sp (PySem.W.cls_value I.kIn W.rd W.fc (by decide +kernel) ?_)
  show wpAny _ _ (callWith pos (Value.builtin "ValueError.__init__") [] (backTo pos (starEach (e :: es) X.env)) []) _ _ _
  refine PyProof.Rows.callWith_method1 (thn (ha.run pos pins _ σ H _ (I.tok _) h) fun us s1 ⟨vs, H1, I1, r1, a, C, ws, ev, hl, T, ea, q⟩ => ?_) he hpl
  subst ev
  cases r1 with
  | @cons _ u0 _ ur ra rw' =>
    obtain rfl : u0 = Value.ref a := ra
    have hlen : ur.length ≤ sizeLine := by
      rw [← Paired.length rw', sizeLine_eq]
      omega
    exact oinit_ok T I1 ea hlen fun s' J => ⟨.non, H1, J, rfl, q⟩
/-- e.f, e the exception that the suite holds at a (its class cls, its dict d) -/
def tByF (C a : Addr) (cls : Value) (d : Option Addr) (f : Str) (te : TE) : TE := fun σ H Q => te σ H fun x H1 => x = .ref a ∧ cls = .ref C ∧ ∃ (dd : Addr) (v : V), d = some dd ∧ H1 dd = some (.xd [(f, v)]) ∧ Q v H1
theorem pe_byF {mg : Str → Option Value} {a : Addr} {oe : Obj} {cls : Value} {d : Option Addr} {pn : List (Addr × Obj)} (T : XC X.K mg x f C fI) (hz : Zc cls d oe) (hf : ∃ vs, oe.data = .fields vs) (he : PE (X.suite a ((a, oe) :: pn)) e te)
    (hb : attributeBase e f X.env (eval e X.env) = eval e X.env := by rfl) :
    PE (X.suite a ((a, oe) :: pn)) (.Attribute e f pos) (tByF C a cls d f te) := by
  refine ⟨fun pins s σ H Q I h => ?_⟩
  refine attr_of hb (thn (he.run pins s σ H _ I h) fun u s1 hh => ?_)
  obtain ⟨x, H1, I1, rx, ex, ec, dd, v, ed, ea, q⟩ := hh
  subst ex
  obtain rfl : u = Value.ref a := rx
  subst ec
  subst ed
  obtain ⟨ha, _⟩ := I1.pin (a, oe) (List.mem_append_left _ List.mem_cons_self)
  obtain ⟨vs, hd⟩ := hf
  have hx : ObjOk X.prog X.w H1 s1.heap dd (.xd [(f, v)]) := I1.hok dd _ ea
  obtain ⟨mA, hns, hr⟩ := hx
  obtain ⟨od, ho, hl⟩ := lookIn_ns hns
  have l : List.lookup f [(f, v)] = some v := by simp [List.lookup]
  obtain ⟨u, hu, ru⟩ := RelO.some_of (v := v) (o := mA f) (by rw [← l]; exact hr f)
  have J : PySem.W.InstAt s1.heap a oe C (some od) := ⟨ha, hz.1, by unfold PySem.W.notCls; rw [hd] <;> rfl, by rw [hz.2]; exact ho⟩
  exact HandSPX.exc_get I1.kIn J T.ga T.gg T.ox.exC (PySem.W.findObj_own T.hd T.no rfl (by rw [hl, hu])) (handed_of ru) ⟨v, H1, I1.tok _, ru, q⟩
end
/-! ## KExc: ### __init__(self, v) of such a class: WorthError.__init__(self, text), self.f = v -/
def spExc (C : Addr) (f : Str) : Sp := fun vs H Q _ => ∃ (a : Addr) (v : V), vs = [.ref a, v] ∧ H a = some (exo a C none) ∧ ∀ dx, H dx = none → dx ≠ a → Q .non (upd (upd H dx (exd dx [(f, v)])) a (exo a C (some dx)))
/-- C(v), C such a class -/
theorem mkO_exc {C : Addr} {f : Str} {ta : TA} {σ : L2.St} {H : Hp} {v : V} {Q : XK} (h : EvA ta σ H [v]) (k : ∀ H1 d, Ex H H1 → H1 d = none → Q (.ref C) (some d) (upd H1 d (.xd [(f, v)]))) : tMkO C (spExc C f) [] ta σ H Q :=
  h H (Ex.refl H) _ fun H1 e1 => ⟨by show 1 ≤ 1000; decide, fun a ha => ⟨a, v, rfl, upd_same, fun dx hdx hne => ⟨rfl, dx, [(f, v)], upd_same, by rw [upd_ne hne, upd_same], by
    rw [upd_ne hne] at hdx
    exact hdx, by
    have hd1 : H1 dx = none := by
      rw [upd_ne hne] at hdx
      exact hdx
    have e2 : upd (del (upd (upd (upd H1 a (exo a C none)) dx (exd dx [(f, v)])) a (exo a C (some dx))) a) dx (.xd [(f, v)]) = upd H1 dx (.xd [(f, v)]) := by
      funext b
      by_cases hb : b = dx
      · rw [hb, upd_same, upd_same]
      · rw [upd_ne hb, upd_ne hb]
        by_cases hc : b = a
        · rw [hc, del_same, ha]
        · rw [del_ne hc, upd_ne hc, upd_ne hb, upd_ne hc]
    rw [e2]
    exact k H1 dx e1 hd1⟩⟩⟩
section
variable {P : Program} {w : World} {K : PySem.W.Frag} {mg : Str → Option Value} {base : Heap} {CX : CXT} {f C fI Cw : Addr} {fd : FuncData}
abbrev nl_BadMap_init : List Str := ["self", "index"]
theorem sc_BadMap_init : FnScope nl_BadMap_init ["self", "index"] (defScope s_BadMap_init) := ⟨rfl, rfl, rfl, by decide +kernel, rfl, by decide +kernel, by decide +kernel⟩
theorem ok_BadMap_init (W : WoC K mg Cw) (B : XC K mg "BadMap" "index" C f) (F : At K "__init__" "BadMap.__init__" s_BadMap_init f fd) : FnOk P w K mg base CX 1 f fd ["self", "index"] (spExc C "index") := by
  refine F.ok sc_BadMap_init (fun vs H Q E h => ?_) (fun cdv A outer s H vs Q E hr h => ?_)
  · obtain ⟨a, v, rfl, _⟩ := h
    rfl
  obtain ⟨a, v, rfl, ha, q⟩ := h
  refine ⟨_, PSs.nox (pss_cons (ps_expr (pe_woinit W (by rfl) (pa_cons (pv 0) (pa_cons pe_str pa_nil)))) (pss_one (ps_ost (pv 0) (pv 1)))), ?_⟩
  exact ⟨_, rfl, a, C, _, rfl, by show 1 ≤ 1000; decide, B.ox, ha, _, rfl, _, rfl, a, C, rfl, B.ox, B.no, Or.inl ⟨ha, fun dx hd hne => q dx hd hne⟩⟩
abbrev nl_TooMany_init : List Str := ["self", "most"]
theorem sc_TooMany_init : FnScope nl_TooMany_init ["self", "most"] (defScope s_TooMany_init) := ⟨rfl, rfl, rfl, by decide +kernel, rfl, by decide +kernel, by decide +kernel⟩
theorem ok_TooMany_init (W : WoC K mg Cw) (B : XC K mg "TooMany" "most" C f) (F : At K "__init__" "TooMany.__init__" s_TooMany_init f fd) : FnOk P w K mg base CX 1 f fd ["self", "most"] (spExc C "most") := by
  refine F.ok sc_TooMany_init (fun vs H Q E h => ?_) (fun cdv A outer s H vs Q E hr h => ?_)
  · obtain ⟨a, v, rfl, _⟩ := h
    rfl
  obtain ⟨a, v, rfl, ha, q⟩ := h
  refine ⟨_, PSs.nox (pss_cons (ps_expr (pe_woinit W (by rfl) (pa_cons (pv 0) (pa_cons pe_str pa_nil)))) (pss_one (ps_ost (pv 0) (pv 1)))), ?_⟩
  exact ⟨_, rfl, a, C, _, rfl, by show 1 ≤ 1000; decide, B.ox, ha, _, rfl, _, rfl, a, C, rfl, B.ox, B.no, Or.inl ⟨ha, fun dx hd hne => q dx hd hne⟩⟩
end
end KM

/-! ## KEv5: the values of a map: what check_map asks -/
namespace KM
open PySem PySem.Spec PyProof.Rows L2 Evl
def okI (m : Nat) : V → Bool
  | .int i => decide (0 ≤ i) && decide (i < (m : Int))
  | _ => false
def scI : V → Bool
  | .int _ => true
  | .bl _ => true
  | .non => true
  | .str _ => true
  | _ => false
def badAt (m : Nat) (xs : List V) : Option Nat := xs.findIdx? fun x => !okI m x
def faultOf (n m : Nat) : Option (List V) → Option Int
  | none => some (-1)
  | some xs => if xs.length = n then (badAt m xs).map fun (k : Nat) => (k : Int) else some (-1)
def RowOf (H : Hp) (v : V) : Option (List V) → Prop
  | none => v = .non ∨ ∃ s, v = .str s
  | some xs => ∃ (a : Addr) (m : List V → HO), v = .ref a ∧ (m = HO.lst ∨ m = HO.tup) ∧ H a = some (m xs)
theorem RowOf.ex {H H' : Hp} {v : V} {r : Option (List V)} (h : RowOf H v r) (e : Ex H H') : RowOf H' v r := by
  cases r with
  | none => exact h
  | some xs =>
    obtain ⟨a, m, h1, h2, h3⟩ := h
    exact ⟨a, m, h1, h2, e _ _ h3⟩
def ScR (r : Option (List V)) : Prop := ∀ xs x, r = some xs → x ∈ xs → scI x = true
theorem badAt_some {m i : Nat} {xs : List V} {x : V} (hx : xs[i]? = some x) (hb : okI m x = false) (ha : ∀ (j : Nat) (y : V), j < i → xs[j]? = some y → okI m y = true) : badAt m xs = some i := by
  unfold badAt
  rw [List.findIdx?_eq_some_iff_getElem]
  have hi := (List.getElem?_eq_some_iff.mp hx).1
  refine ⟨hi, ?_, fun j hj => ?_⟩
  · rw [(List.getElem?_eq_some_iff.mp hx).2, hb]
    rfl
  · rw [ha j xs[j] hj (List.getElem?_eq_getElem (by omega))]
    decide
theorem badAt_none {m : Nat} {xs : List V} (ha : ∀ (j : Nat) (y : V), xs[j]? = some y → okI m y = true) : badAt m xs = none := by
  unfold badAt
  rw [List.findIdx?_eq_none_iff]
  intro x hx
  obtain ⟨j, hj, e⟩ := List.mem_iff_getElem.mp hx
  rw [ha j x (by rw [List.getElem?_eq_getElem hj, e])]
  rfl
theorem okI_nat {m : Nat} {x : V} (h : okI m x = true) : ∃ k : Nat, x = .int (k : Int) ∧ k < m := by
  cases x with
  | int i =>
    have h2 : (decide (0 ≤ i) && decide (i < (m : Int))) = true := h
    obtain ⟨a, b⟩ := Bool.and_eq_true_iff.mp h2
    have a := of_decide_eq_true a
    have b := of_decide_eq_true b
    exact ⟨i.toNat, by rw [Int.toNat_of_nonneg a], by omega⟩
  | _ => cases h
theorem ints_of {m : Nat} : ∀ {xs : List V}, (∀ x, x ∈ xs → okI m x = true) → ∃ f : List Nat, xs = intsV f ∧ ∀ k, k ∈ f → k < m
  | [], _ => ⟨[], rfl, fun _ h => by cases h⟩
  | x :: r, h => by
    obtain ⟨k, rfl, hk⟩ := okI_nat (h x List.mem_cons_self)
    obtain ⟨f, rfl, hf⟩ := ints_of fun y hy => h y (List.mem_cons_of_mem _ hy)
    refine ⟨k :: f, rfl, fun j hj => ?_⟩
    rcases List.mem_cons.mp hj with e | e
    · rw [e]
      exact hk
    · exact hf j e
/-- a row without a fault is a map -/
theorem fault_none {n m : Nat} {r : Option (List V)} (h : faultOf n m r = none) : ∃ f : List Nat, r = some (intsV f) ∧ f.length = n ∧ ∀ k, k ∈ f → k < m := by
  cases r with
  | none => cases h
  | some xs =>
    have h2 : (if xs.length = n then (badAt m xs).map fun (k : Nat) => (k : Int) else some (-1)) = none := h
    by_cases c : xs.length = n
    · rw [if_pos c, Option.map_eq_none_iff] at h2
      unfold badAt at h2
      rw [List.findIdx?_eq_none_iff] at h2
      obtain ⟨f, rfl, hf⟩ := ints_of (m := m) fun x hx => by simpa using h2 x hx
      exact ⟨f, rfl, by rw [← c, intsV_len], hf⟩
    · rw [if_neg c] at h2
      cases h2
theorem fault_ints {n m : Nat} {f : List Nat} (hn : f.length = n) (hf : ∀ k, k ∈ f → k < m) : faultOf n m (some (intsV f)) = none := by
  show (if (intsV f).length = n then (badAt m (intsV f)).map fun (k : Nat) => (k : Int) else some (-1)) = none
  rw [if_pos (by rw [intsV_len]; exact hn), badAt_none]
  · rfl
  · intro j y hy
    obtain ⟨k, hk, rfl⟩ := intsV_get hy
    have := hf k (List.mem_of_getElem? hk)
    show (decide ((0 : Int) ≤ (k : Int)) && decide ((k : Int) < (m : Int))) = true
    rw [decide_eq_true (by omega), decide_eq_true (by omega)]
    rfl
theorem scI_ints {f : List Nat} : ScR (some (intsV f)) := fun xs x e hx => by
  cases e
  obtain ⟨k, _, rfl⟩ := List.mem_map.mp hx
  rfl
section
variable {K : PySem.W.Frag} {σ : L2.St} {H H' : Hp} {ta tb tc te tx tl tv : TE} {t u : TT} {x y z v : V} {tr : TA}
theorem ev_isRow {r : Option (List V)} (hx : Ev ta σ H v) (h : RowOf H v r) : Ev (tCB (rIsiT K) (tCons ta (tCons (tTup (tCons (tC (.ty "list")) (tCons (tC (.ty "tuple")) tNil))) tNil))) σ H (.bl r.isSome) := by
  cases r with
  | none =>
    rcases h with rfl | ⟨s, rfl⟩
    · exact ev_isLT (b1 := false) (b2 := false) hx ty_non (by decide +kernel) (by decide +kernel)
    · exact ev_isLT (b1 := false) (b2 := false) hx ty_str (by decide +kernel) (by decide +kernel)
  | some xs =>
    obtain ⟨a, m, rfl, hm, ha⟩ := h
    rcases hm with rfl | rfl
    · exact ev_isLT (b1 := true) (b2 := false) hx (ty_lst ha) (by decide +kernel) (by decide +kernel)
    · exact ev_isLT (b1 := false) (b2 := true) hx (ty_tup ha) (by decide +kernel) (by decide +kernel)
theorem ev_lenR {xs : List V} (hx : EvA tr σ H [v]) (h : RowOf H v (some xs)) : Ev (tCB (rLenS K) tr) σ H (.int (xs.length : Int)) := by
  obtain ⟨a, m, rfl, hm, ha⟩ := h
  rcases hm with rfl | rfl
  · exact ev_lenL hx ha
  · exact ev_lenT hx ha
/-- xs[i], xs a list or a tuple -/
theorem ev_xR {xs : List V} {i : Nat} (h1 : Ev ta σ H v) (h2 : Ev tb σ H (.int (i : Int))) (h : RowOf H v (some xs)) (ha : xs[i]? = some x) : Ev (tOp (rIx K) ta tb) σ H x := by
  obtain ⟨a, m, rfl, hm, hh⟩ := h
  rcases hm with rfl | rfl
  · exact ev_xL h1 h2 hh ha
  · exact ev_xT h1 h2 hh ha
/-- isinstance(x, int), isinstance(x, bool) of a scalar -/
def isI : V → Bool
  | .int _ => true
  | .bl _ => true
  | _ => false
def isB : V → Bool
  | .bl _ => true
  | _ => false
theorem ev_isI (hx : Ev ta σ H v) (h : scI v = true) : Ev (tCB (rIsi K) (tCons ta (tCons (tC (.ty "int")) tNil))) σ H (.bl (isI v)) := by
  cases v with
  | int i => exact ev_isi (b := true) hx ty_int (by decide +kernel)
  | bl i => exact ev_isi (b := true) hx ty_bl (by decide +kernel)
  | non => exact ev_isi (b := false) hx ty_non (by decide +kernel)
  | str s => exact ev_isi (b := false) hx ty_str (by decide +kernel)
  | _ => cases h
theorem ev_isB (hx : Ev ta σ H v) (h : scI v = true) : Ev (tCB (rIsi K) (tCons ta (tCons (tC (.ty "bool")) tNil))) σ H (.bl (isB v)) := by
  cases v with
  | int i => exact ev_isi (b := false) hx ty_int (by decide +kernel)
  | bl i => exact ev_isi (b := true) hx ty_bl (by decide +kernel)
  | non => exact ev_isi (b := false) hx ty_non (by decide +kernel)
  | str s => exact ev_isi (b := false) hx ty_str (by decide +kernel)
  | _ => cases h
/-- the value of an int, else nothing -/
def inR (m : Nat) : V → Bool
  | .int i => decide (0 ≤ i) && decide (i < (m : Int))
  | _ => true
theorem bad_eq (m : Nat) {v : V} (h : scI v = true) : (!isI v || (isB v || !inR m v)) = !okI m v := by
  cases v with
  | int i => rfl
  | bl i => rfl
  | non => rfl
  | str s => rfl
  | _ => cases h
theorem et_inR {m : Nat} (h0 : Ev ta σ H (.int 0)) (hx : Ev tb σ H v) (hm : Ev tc σ H (.int (m : Int))) (h : scI v = true) (h1 : isI v = true) (h2 : isB v = false) :
    EvT (tTest (tChain (rI0 fun i j => .bl (decide (i ≤ j))) (rI0 fun i j => .bl (decide (i < j))) ta tb tc)) σ H (inR m v) := by
  cases v with
  | int i => exact et_chI (f := fun i j => decide (i ≤ j)) (g := fun i j => decide (i < j)) h0 hx hm
  | bl i => cases h2
  | non => cases h1
  | str s => cases h1
  | _ => cases h
end
end KM

/-! ## KD6: the defs of the module of maps -/
namespace KM
open PySem PySem.Spec PyProof.Rows L2 Evl
/-- a method called by its class alone -/
structure Has0 (P : Program) (w : World) (K : PySem.W.Frag) (mg : Str → Option Value) (base : Heap) (k : Nat) (ps : List Str) (sp : Sp) (f : Addr) (fd : FuncData) : Prop where
  b : Binds K fd ps []
  ok : FnOk P w K mg base CX0 k f fd ps sp
theorem ev_tupT {K : PySem.W.Frag} {σ : L2.St} {H : Hp} {xs : List V} {p : Addr} {tr : TA} (ha : EvA tr σ H [.ref p]) (h : H p = some (.tup xs)) : Ev (tCB (rTupS K) tr) σ H (.ref p) := fun H1 e Q q =>
  ha H1 e _ fun H2 e2 => ⟨p, xs, rfl, Or.inr ⟨SqT.of (e2 _ _ (e _ _ h)), q H2 e2⟩⟩
section
variable {P : Program} {w : World} {K : PySem.W.Frag} {mg : Str → Option Value} {base : Heap} {CX : CXT} {f C CB fB : Addr} {fd fdB : FuncData}
/-! ## KD6: ### check_map -/
abbrev nl_check_map : List Str := ["one", "other", "values", "index", "worth"]
theorem sc_check_map : FnScope nl_check_map ["one", "other", "values"] (defScope s_check_map) := ⟨rfl, rfl, rfl, by decide +kernel, rfl, by decide +kernel, by decide +kernel⟩
-- slots: 0:one 1:other 2:values 3:index 4:worth
/-- the error's way out: BadMap with the index k -/
def BadX (CB : Addr) (k : Int) (H : Hp) (E : XK) : Prop := ∀ H1 d, Ex H H1 → H1 d = none → E (.ref CB) (some d) (upd H1 d (.xd [("index", .int k)]))
theorem BadX.ex {k : Int} {H H' : Hp} {E : XK} (h : BadX CB k H E) (e : Ex H H') : BadX CB k H' E := fun H1 d e1 hd => h H1 d (e.trans e1) hd
def spCheck (C CB : Addr) : Sp := fun vs H Q E => ∃ (a b : Addr) (v : V) (A B : Lt) (r : Option (List V)), vs = [.ref a, .ref b, v] ∧ LI C H a A ∧ LI C H b B ∧ RowOf H v r ∧ ScR r ∧ (∀ k, faultOf A.n B.n r = some k → BadX CB k H E) ∧
  (faultOf A.n B.n r = none → ∀ xs, r = some xs → ∀ p H2, Ex H H2 → H2 p = some (.tup xs) → Q (.ref p) H2)
theorem ok_check_map (cC : LC K C) (h_BadMap : XC K mg "BadMap" "index" CB fB) (i_BadMap : Has0 P w K mg base 1 ["self", "index"] (spExc CB "index") fB fdB) (F : At K "check_map" "check_map" s_check_map f fd) (T : Tx K mg) : FnOk P w K mg base (L2.CX P w) 3 f fd ["one", "other", "values"] (spCheck C CB) := by
  refine F.ok sc_check_map (fun vs H Q E h => ?_) (fun cdv A outer s H vs Q E hr h => ?_)
  · obtain ⟨a, b, v, A, B, r, rfl, _⟩ := h
    rfl
  obtain ⟨a, b, v, A, B, r, rfl, ⟨dxa, fsa, ha, la⟩, ⟨dxb, fsb, hb, lb⟩, hv, hs, kx, kq⟩ := h
  refine ⟨_, (pss_cons (ps_if (PW.pt (pw_or (pt_not (pt_val (pe_callB (cisiT (K := K)) (by rfl) T.m_isinstance (by decide +kernel) (pa_cons (pv 2) (pa_cons (pe_tup (pa_cons (pe_bltn (v := .ty "list") (by rfl) T.m_list (by decide +kernel) rfl) (pa_cons (pe_bltn (v := .ty "tuple") (by rfl) T.m_tuple (by decide +kernel) rfl) pa_nil))) pa_nil))))) (pw_or1 (pt_cmpR op_ne (pe_callB (clen (K := K)) (by rfl) T.m_len (by decide +kernel) (pa_cons (pv 2) pa_nil)) (pfld (K := K) (pv 0) rfl) (nomark _)))))
      (pss_one (ps_raise rfl (takes_of rfl rfl rfl rfl) (pmk_oex h_BadMap.ox h_BadMap.ii h_BadMap.ti i_BadMap.ok (hr.mono (by decide)) i_BadMap.b .nil pass0 (by rfl) h_BadMap.g (pa_cons (pe_un un_neg pe_int) pa_nil))))
      pss_nil)
    (pss_cons (ps_for (passes_of rfl) rfl (piEnum (K := K) (by rfl) T.m_enumerate (pa_cons (pv 2) pa_nil)) (pgT (K := K) rfl (pgs_cons (pg_name (i := 3) sc_check_map.nd rfl (by first | exact Or.inl rfl | exact Or.inr rfl)) (pgs_cons (pg_name (i := 4) sc_check_map.nd rfl (by first | exact Or.inl rfl | exact Or.inr rfl)) pgs_nil)))
      (pss_one (ps_if (PW.pt (pw_or (pt_not (pt_val (pe_callB (cisi (K := K)) (by rfl) T.m_isinstance (by decide +kernel) (pa_cons (pv 4) (pa_cons (pe_bltn (v := .ty "int") (by rfl) T.m_int (by decide +kernel) rfl) pa_nil))))) (pw_or (pt_val (pe_callB (cisi (K := K)) (by rfl) T.m_isinstance (by decide +kernel) (pa_cons (pv 4) (pa_cons (pe_bltn (v := .ty "bool") (by rfl) T.m_bool (by decide +kernel) rfl) pa_nil)))) (pw_or1 (pt_not (pt_chain op_le op_lt pe_int (pv 4) (pfld (K := K) (pv 1) rfl)))))))
        (pss_one (ps_raise rfl (takes_of rfl rfl rfl rfl) (pmk_oex h_BadMap.ox h_BadMap.ii h_BadMap.ti i_BadMap.ok (hr.mono (by decide)) i_BadMap.b .nil pass0 (by rfl) h_BadMap.g (pa_cons (pv 3) pa_nil))))
        pss_nil)))
    (pss_one (ps_ret (pe_callTy (ctup (K := K)) (by rfl) T.m_tuple (by decide +kernel) (pa_cons (pv 2) pa_nil)))))), ?_⟩
  cases r with
  | none =>
    refine q_when (b := !false || true) (et_or (et_not (et_B (ev_isRow (ev_var rfl) hv))) fun c => by cases c) (fun _ H1 e1 => ?_) (fun c => by cases c)
    exact mkO_exc (ea_cons (ev_un ev_c ru_neg) ea_nil) fun H2 d e2 hd => kx (-1) rfl H2 d (e1.trans e2) hd
  | some xs =>
    refine q_when (b := !true || !decide (xs.length = A.n)) (et_or (et_not (et_B (ev_isRow (ev_var rfl) hv))) fun _ => et_test (ev_op (ev_lenR (ea_cons (ev_var rfl) ea_nil) hv) (ev_fld (ev_var rfl) ha cC.cl cC.nS la.size) (rv_neN _ _))) (fun c H1 e1 => ?_) (fun c H1 e1 => ?_)
    · have hne : ¬ xs.length = A.n := by simpa using c
      refine mkO_exc (ea_cons (ev_un ev_c ru_neg) ea_nil) fun H2 d e2 hd => kx (-1) ?_ H2 d (e1.trans e2) hd
      exact if_neg hne
    have hlen : xs.length = A.n := by simpa using c
    obtain ⟨va, m, rfl, hm, hva⟩ := id hv
    refine q_forEn (a := va) (xs := xs) hm (ea_cons (ev_var rfl) ea_nil) (e1 _ _ hva) (fun i σ' H' => Ex H H' ∧ (∃ v3 v4, σ' = [some (.ref a), some (.ref b), some (.ref va), v3, v4]) ∧ ∀ j y, j < i → xs[j]? = some y → okI B.n y = true)
      (fun H2 e2 => ⟨e1.trans e2, ⟨none, none, rfl⟩, fun j y hj => absurd hj (Nat.not_lt_zero j)⟩) (fun i σ' H' _ h => h.1 _ _ hva) (fun i x σ' H' H2 hx hP e2 => ?_) (fun σ' H' hP => ?_)
    · obtain ⟨e3, ⟨v3, v4, rfl⟩, hg⟩ := hP
      have hsx : scI x = true := hs xs x rfl (List.mem_of_getElem? hx)
      have eb : Ev (tFld K (tVar 1) "size") (([some (.ref a), some (.ref b), some (.ref va), v3, v4].set 3 (some (.int ((i : Nat) : Int)))).set 4 (some x)) H2 (.int (B.n : Int)) := ev_fld (ev_var rfl) (e2 _ _ (e3 _ _ hb)) cC.cl cC.nS lb.size
      refine s_when (b := !okI B.n x) (et_is (et_or (et_not (et_B (ev_isI (ev_var rfl) hsx))) fun h1 => et_or (et_B (ev_isB (ev_var rfl) hsx)) fun h2 => et_not (et_inR (m := B.n) ev_c (ev_var rfl) eb hsx (by simpa using h1) h2)) (bad_eq _ hsx)) (fun c H3 e4 => ?_) (fun c H3 e4 => ⟨(e3.trans e2).trans e4, ⟨_, _, rfl⟩, fun j y hj hy => ?_⟩)
      · have hbad : okI B.n x = false := by simpa using c
        refine mkO_exc (ea_cons (ev_var rfl) ea_nil) fun H4 d e5 hd => kx (i : Int) ?_ H4 d (((e3.trans e2).trans e4).trans e5) hd
        show (if xs.length = A.n then (badAt B.n xs).map fun (k : Nat) => (k : Int) else some (-1)) = _
        rw [if_pos hlen, badAt_some hx hbad hg]
        rfl
      · by_cases cj : j < i
        · exact hg j y cj hy
        · have e7 : j = i := by omega
          subst e7
          rw [hx] at hy
          rw [← Option.some.inj hy]
          simpa using c
    · obtain ⟨e3, ⟨v3, v4, rfl⟩, hg⟩ := hP
      have hok : faultOf A.n B.n (some xs) = none := by
        show (if xs.length = A.n then (badAt B.n xs).map fun (k : Nat) => (k : Int) else some (-1)) = _
        rw [if_pos hlen, badAt_none fun j y hy => hg j y (List.getElem?_eq_some_iff.mp hy).1 hy]
        rfl
      rcases hm with rfl | rfl
      · exact s_retU (eu_tupL (ea_cons (ev_var rfl) ea_nil) (e3 _ _ hva)) fun p H4 hp e4 h4 => kq hok xs rfl p H4 (e3.trans e4) h4
      · exact s_ret (v := .ref va) (ev_tupT (ea_cons (ev_var rfl) ea_nil) (e3 _ _ hva)) fun H4 e4 => kq hok xs rfl va H4 (e3.trans e4) (e4 _ _ (e3 _ _ hva))
end
end KM

/-! ## KD7: the defs of the module of maps: spoilt_word, map_fault, keeps_ends -/
namespace KM
open PySem PySem.Spec PyProof.Rows L2 Evl
def wordS : Bool → Str
  | true => "join"
  | false => "meet"
def wordV : Option Bool → V
  | some w => .str (wordS w)
  | none => .non
theorem intsV_at {f : List Nat} {k : Nat} (h : k < f.length) : (intsV f)[k]? = some (.int ((at_ f k : Nat) : Int)) := by
  unfold intsV at_
  rw [List.getElem?_map, List.getD_eq_getElem?_getD, List.getElem?_eq_getElem h]
  rfl
theorem at_lt {f : List Nat} {m k : Nat} (hf : ∀ k, k ∈ f → k < m) (h : k < f.length) : at_ f k < m := by
  refine hf _ ?_
  unfold at_
  rw [List.getD_eq_getElem?_getD, List.getElem?_eq_getElem h]
  exact List.getElem_mem h
/-- what map_fault tells -/
def RetF (o : Option (Nat × Nat × Bool)) (H : Hp) (Q : VK) : Prop := match o with
  | none => RetV .non H Q
  | some (x, y, w) => ∀ p H2, H p = none → Ex H H2 → H2 p = some (.tup [.int (x : Int), .int (y : Int), .str (wordS w)]) → Q (.ref p) H2
section
variable {P : Program} {w : World} {K : PySem.W.Frag} {mg : Str → Option Value} {base : Heap} {CX : CXT} {f C CB : Addr} {fd : FuncData}
/-! ## KD7: ### spoilt_word -/
abbrev nl_spoilt_word : List Str := ["one", "other", "values", "x", "y"]
theorem sc_spoilt_word : FnScope nl_spoilt_word ["one", "other", "values", "x", "y"] (defScope s_spoilt_word) := ⟨rfl, rfl, rfl, by decide +kernel, rfl, by decide +kernel, by decide +kernel⟩
-- slots: 0:one 1:other 2:values 3:x 4:y
def spSpoilt (C : Addr) : Sp := fun vs H Q _ => ∃ (a b : Addr) (v : V) (A B : Lt) (g : List Nat) (x y : Nat), vs = [.ref a, .ref b, v, .int (x : Int), .int (y : Int)] ∧ LI C H a A ∧ LI C H b B ∧ Good A ∧ Good B ∧ RowOf H v (some (intsV g)) ∧ g.length = A.n ∧ (∀ k, k ∈ g → k < B.n) ∧ x < A.n ∧ y < A.n ∧ RetV (wordV (spoil A B g x y)) H Q
theorem ok_spoilt_word {fj fm : Addr} {dj dm : FuncData} (cC : LC K C) (h_join_of : HasM P w K mg base CX0 1 C "join_of" ["self", "one", "other"] (spJoin C) fj dj) (h_meet_of : HasM P w K mg base CX0 1 C "meet_of" ["self", "one", "other"] (spMeet C) fm dm)
    (F : At K "spoilt_word" "spoilt_word" s_spoilt_word f fd) (T : Tx K mg) : FnOk P w K mg base CX 2 f fd ["one", "other", "values", "x", "y"] (spSpoilt C) := by
  refine F.ok sc_spoilt_word (fun vs H Q E h => ?_) (fun cdv A outer s H vs Q E hr h => ?_)
  · obtain ⟨a, b, v, A, B, g, x, y, rfl, _⟩ := h
    rfl
  obtain ⟨a, b, v, A, B, g, x, y, rfl, hA, hB, gA, gB, hv, hl, hg, hx, hy, q⟩ := h
  refine ⟨_, PSs.nox (pss_cons (ps_if (pt_cmpR op_ne (pe_ix (ixq (K := K)) (pv 2) (pe_meth (pv 0) cC.cl h_join_of.m h_join_of.ok (hr.mono (by decide)) h_join_of.b .nil pass0 (pa_cons (pv 3) (pa_cons (pv 4) pa_nil))) (fun _ _ => rfl)) (pe_meth (pv 1) cC.cl h_join_of.m h_join_of.ok (hr.mono (by decide)) h_join_of.b .nil pass0 (pa_cons (pe_ix (ixq (K := K)) (pv 2) (pv 3) (fun _ _ => rfl)) (pa_cons (pe_ix (ixq (K := K)) (pv 2) (pv 4) (fun _ _ => rfl)) pa_nil))) (nomark _))
      (pss_one (ps_ret pe_str))
      pss_nil)
    (pss_cons (ps_if (pt_cmpR op_ne (pe_ix (ixq (K := K)) (pv 2) (pe_meth (pv 0) cC.cl h_meet_of.m h_meet_of.ok (hr.mono (by decide)) h_meet_of.b .nil pass0 (pa_cons (pv 3) (pa_cons (pv 4) pa_nil))) (fun _ _ => rfl)) (pe_meth (pv 1) cC.cl h_meet_of.m h_meet_of.ok (hr.mono (by decide)) h_meet_of.b .nil pass0 (pa_cons (pe_ix (ixq (K := K)) (pv 2) (pv 3) (fun _ _ => rfl)) (pa_cons (pe_ix (ixq (K := K)) (pv 2) (pv 4) (fun _ _ => rfl)) pa_nil))) (nomark _))
      (pss_one (ps_ret pe_str))
      pss_nil)
    (pss_one (ps_ret pe_non)))), ?_⟩
  have cA : ∀ {H1}, Ex H H1 → ∃ dx fs, H1 a = some (.ins C dx fs) ∧ LF H1 fs A := fun e => hA.ex e
  have cB : ∀ {H1}, Ex H H1 → ∃ dx fs, H1 b = some (.ins C dx fs) ∧ LF H1 fs B := fun e => hB.ex e
  have gx := at_lt hg (by omega : x < g.length)
  have gy := at_lt hg (by omega : y < g.length)
  have t1 : ∀ H1, Ex H H1 → EvT (tTest (tOp rNe (tOp (rIx K) (tVar 2) (tMeth C "join_of" (spJoin C) [] E0 (tVar 0) (tCons (tVar 3) (tCons (tVar 4) tNil)))) (tMeth C "join_of" (spJoin C) [] E0 (tVar 1) (tCons (tOp (rIx K) (tVar 2) (tVar 3)) (tCons (tOp (rIx K) (tVar 2) (tVar 4)) tNil)))))
      [some (.ref a), some (.ref b), some v, some (.int (x : Int)), some (.int (y : Int))] H1 (!decide (at_ g (A.jn x y) = B.jn (at_ g x) (at_ g y))) := fun H1 e1 => by
    obtain ⟨da, fa, ha, la⟩ := cA e1
    obtain ⟨db, fb, hb, lb⟩ := cB e1
    have hv1 := hv.ex e1
    refine et_test (ev_op (ev_xR (ev_var rfl) (ev_meth (ev_var rfl) ha la.nj (ea_cons (ev_var rfl) (ea_cons (ev_var rfl) ea_nil)) fun H2 e2 Q k E => ⟨a, A, x, y, rfl, hx, hy, hA.ex (e1.trans e2), fun H3 e3 => k H3 e3⟩) hv1 (intsV_at (by rw [hl]; exact gA.jn_lt hx hy)))
      (ev_meth (ev_var rfl) hb lb.nj (ea_cons (ev_xR (ev_var rfl) (ev_var rfl) hv1 (intsV_at (by omega))) (ea_cons (ev_xR (ev_var rfl) (ev_var rfl) hv1 (intsV_at (by omega))) ea_nil)) fun H2 e2 Q k E => ⟨b, B, _, _, rfl, gx, gy, hB.ex (e1.trans e2), fun H3 e3 => k H3 e3⟩) (rv_neN _ _))
  have t2 : ∀ H1, Ex H H1 → EvT (tTest (tOp rNe (tOp (rIx K) (tVar 2) (tMeth C "meet_of" (spMeet C) [] E0 (tVar 0) (tCons (tVar 3) (tCons (tVar 4) tNil)))) (tMeth C "meet_of" (spMeet C) [] E0 (tVar 1) (tCons (tOp (rIx K) (tVar 2) (tVar 3)) (tCons (tOp (rIx K) (tVar 2) (tVar 4)) tNil)))))
      [some (.ref a), some (.ref b), some v, some (.int (x : Int)), some (.int (y : Int))] H1 (!decide (at_ g (A.mt x y) = B.mt (at_ g x) (at_ g y))) := fun H1 e1 => by
    obtain ⟨da, fa, ha, la⟩ := cA e1
    obtain ⟨db, fb, hb, lb⟩ := cB e1
    have hv1 := hv.ex e1
    refine et_test (ev_op (ev_xR (ev_var rfl) (ev_meth (ev_var rfl) ha la.nm (ea_cons (ev_var rfl) (ea_cons (ev_var rfl) ea_nil)) fun H2 e2 Q k E => ⟨a, A, x, y, rfl, hx, hy, hA.ex (e1.trans e2), fun H3 e3 => k H3 e3⟩) hv1 (intsV_at (by rw [hl]; exact gA.mt_lt hx hy)))
      (ev_meth (ev_var rfl) hb lb.nm (ea_cons (ev_xR (ev_var rfl) (ev_var rfl) hv1 (intsV_at (by omega))) (ea_cons (ev_xR (ev_var rfl) (ev_var rfl) hv1 (intsV_at (by omega))) ea_nil)) fun H2 e2 Q k E => ⟨b, B, _, _, rfl, gx, gy, hB.ex (e1.trans e2), fun H3 e3 => k H3 e3⟩) (rv_neN _ _))
  refine q_when (t1 H (Ex.refl H)) (fun c H1 e1 => ?_) (fun c H1 e1 => ?_)
  · have c' : at_ g (A.jn x y) ≠ B.jn (at_ g x) (at_ g y) := by simpa using c
    have e : spoil A B g x y = some true := if_pos c'
    rw [e] at q
    exact s_ret ev_c fun H2 e2 => q H2 (e1.trans e2)
  have c' : ¬ at_ g (A.jn x y) ≠ B.jn (at_ g x) (at_ g y) := by simpa using c
  refine q_when (t2 H1 e1) (fun d H2 e2 => ?_) (fun d H2 e2 => ?_)
  · have d' : at_ g (A.mt x y) ≠ B.mt (at_ g x) (at_ g y) := by simpa using d
    have e : spoil A B g x y = some false := (if_neg c').trans (if_pos d')
    rw [e] at q
    exact s_ret ev_c fun H3 e3 => q H3 ((e1.trans e2).trans e3)
  · have d' : ¬ at_ g (A.mt x y) ≠ B.mt (at_ g x) (at_ g y) := by simpa using d
    have e : spoil A B g x y = none := (if_neg c').trans (if_neg d')
    rw [e] at q
    exact s_ret ev_c fun H3 e3 => q H3 ((e1.trans e2).trans e3)
/-! ## KD7: ### map_fault -/
abbrev nl_map_fault : List Str := ["one", "other", "values", "x", "y", "word"]
theorem sc_map_fault : FnScope nl_map_fault ["one", "other", "values"] (defScope s_map_fault) := ⟨rfl, rfl, rfl, by decide +kernel, rfl, by decide +kernel, by decide +kernel⟩
-- slots: 0:one 1:other 2:values 3:x 4:y 5:word
def spFault (C CB : Addr) : Sp := fun vs H Q E => ∃ (a b : Addr) (v : V) (A B : Lt) (r : Option (List V)), vs = [.ref a, .ref b, v] ∧ LI C H a A ∧ LI C H b B ∧ Good A ∧ Good B ∧ RowOf H v r ∧ ScR r ∧ (∀ k, faultOf A.n B.n r = some k → BadX CB k H E) ∧
  (∀ g, faultOf A.n B.n r = none → r = some (intsV g) → RetF (mfault A B g) H Q)
theorem ok_map_fault {f1 f2 : Addr} {d1 d2 : FuncData} (cC : LC K C) (h_check_map : Has P w K mg base (L2.CX P w) 3 "check_map" ["one", "other", "values"] (spCheck C CB) f1 d1) (h_spoilt_word : Has P w K mg base CX0 2 "spoilt_word" ["one", "other", "values", "x", "y"] (spSpoilt C) f2 d2)
    (F : At K "map_fault" "map_fault" s_map_fault f fd) (T : Tx K mg) : FnOk P w K mg base (L2.CX P w) 4 f fd ["one", "other", "values"] (spFault C CB) := by
  refine F.ok sc_map_fault (fun vs H Q E h => ?_) (fun cdv A outer s H vs Q E hr h => ?_)
  · obtain ⟨a, b, v, A, B, r, rfl, _⟩ := h
    rfl
  obtain ⟨a, b, v, A, B, r, rfl, hA, hB, gA, gB, hv, hs, kx, kq⟩ := h
  refine ⟨_, (pss_cons (ps_expr (pe_call h_check_map.ok (hr.mono (by decide)) rfl h_check_map.g h_check_map.kp h_check_map.b .nil (passes_call (takes_of rfl rfl rfl rfl) (fun _ _ _ _ q => q)) (pa_cons (pv 0) (pa_cons (pv 1) (pa_cons (pv 2) pa_nil)))))
    (pss_cons (ps_for (passes_of rfl) rfl (pi_range1 (by rfl) T.m_range (pa_cons (pfld (K := K) (pv 0) rfl) pa_nil)) (pg_name (i := 3) sc_map_fault.nd rfl (by first | exact Or.inl rfl | exact Or.inr rfl))
      (pss_one (ps_for (passes_of rfl) rfl (pi_range2 (by rfl) T.m_range (pa_cons (pe_op op_add (pv 3) pe_int) (pa_cons (pfld (K := K) (pv 0) rfl) pa_nil))) (pg_name (i := 4) sc_map_fault.nd rfl (by first | exact Or.inl rfl | exact Or.inr rfl))
        (pss_cons (ps_set (i := 5) sc_map_fault.nd rfl (by first | exact Or.inl rfl | exact Or.inr rfl) (pe_call h_spoilt_word.ok (hr.mono (by decide)) rfl h_spoilt_word.g h_spoilt_word.kp h_spoilt_word.b .nil pass0 (pa_cons (pv 0) (pa_cons (pv 1) (pa_cons (pv 2) (pa_cons (pv 3) (pa_cons (pv 4) pa_nil)))))))
        (pss_one (ps_if (pt_cmp (pc_notN (pv 5)))
          (pss_one (ps_ret (pe_tup (pa_cons (pv 3) (pa_cons (pv 4) (pa_cons (pv 5) pa_nil))))))
          pss_nil))))))
    (pss_one (ps_ret pe_non)))), ?_⟩
  have start : ∀ (D : Ends) (tz : TS), (∀ H1, Ex H H1 → faultOf A.n B.n r = none → tz D (start nl_map_fault [.ref a, .ref b, v]) H1) → tSeq (tDrop (tCall (spCheck C CB) [] E (tCons (tVar 0) (tCons (tVar 1) (tCons (tVar 2) tNil))))) tz D (start nl_map_fault [.ref a, .ref b, v]) H := fun D tz k =>
    ⟨_, rfl, _, rfl, _, rfl, a, b, v, A, B, r, rfl, hA, hB, hv, hs, kx, fun hn xs hx p H2 e2 h2 => k H2 e2 hn⟩
  refine start _ _ fun H1 e1 hn => ?_
  clear start
  obtain ⟨g, rfl, hl, hg⟩ := fault_none hn
  have q := kq g hn rfl
  obtain ⟨da, fa, ha, la⟩ := hA.ex e1
  have n16 := gA.small
  refine q_forR1 (n := (A.n : Int)) (ea_cons (ev_fld (ev_var rfl) ha cC.cl cC.nS la.size) ea_nil) (by omega) (fun i σ' H' => Ex H H' ∧ (∃ v3 v4 v5, σ' = [some (.ref a), some (.ref b), some v, v3, v4, v5]) ∧ mcol A B g i = none)
    (fun H2 e2 => ⟨e1.trans e2, ⟨none, none, none, rfl⟩, rfl⟩) (fun x σ' H' hx hP => ?_) (fun σ' H' hP => ?_)
  · obtain ⟨e2, ⟨v3, v4, v5, rfl⟩, hc⟩ := hP
    have hx : x < A.n := by omega
    obtain ⟨da, fa, ha, la⟩ := hA.ex e2
    refine s_forR2 (lo := (x : Int) + 1) (n := (A.n : Int)) (ea_cons (ev_op (ev_var rfl) ev_c rv_I0) (ea_cons (ev_fld (ev_var rfl) ha cC.cl cC.nS la.size) ea_nil)) (by omega) (fun i σ' H' => Ex H H' ∧ (∃ v4 v5, σ' = [some (.ref a), some (.ref b), some v, some (.int (x : Int)), v4, v5]) ∧ mrow A B g x i = none)
      (fun H2 e3 => ⟨e2.trans e3, ⟨_, _, rfl⟩, rfl⟩) (fun k σ' H' hk hP => ?_) (fun σ' H' hP => ?_)
    · obtain ⟨e3, ⟨v4, v5, rfl⟩, hm⟩ := hP
      have ek : (x : Int) + 1 + (k : Int) = ((x + 1 + k : Nat) : Int) := by omega
      have hy : x + 1 + k < A.n := by omega
      rw [ek]
      refine q_asg (v := wordV (spoil A B g x (x + 1 + k))) (ev_call (ea_cons (ev_var rfl) (ea_cons (ev_var rfl) (ea_cons (ev_var rfl) (ea_cons (ev_var rfl) (ea_cons (ev_var rfl) ea_nil))))) fun H4 e4 Q k2 E2 => ⟨a, b, v, A, B, g, x, x + 1 + k, rfl, hA.ex (e3.trans e4), hB.ex (e3.trans e4), gA, gB, hv.ex (e3.trans e4), hl, hg, hx, hy, fun H5 e5 => k2 H5 e5⟩) fun H4 e4 => ?_
      refine s_when (b := (spoil A B g x (x + 1 + k)).isSome) (et_B (ev_is (ev_notN (ev_var rfl)) ?_)) (fun c H5 e5 => ?_) (fun c H5 e5 => ⟨(e3.trans e4).trans e5, ⟨_, _, rfl⟩, ?_⟩)
      · cases spoil A B g x (x + 1 + k) <;> rfl
      · obtain ⟨w, hw⟩ := Option.isSome_iff_exists.mp c
        have hmr : mrow A B g x (k + 1) = some (x, x + 1 + k, w) := by rw [mrow_succ, hm, hw]; rfl
        have hmf := mfault_some hx hc (by omega) hmr
        rw [hmf] at q
        rw [hw]
        exact s_retU (eu_tup (ea_cons (ev_var rfl) (ea_cons (ev_var rfl) (ea_cons (ev_var rfl) ea_nil))) (by show 3 ≤ 100000; decide)) fun p H6 hp e6 h6 => q p H6 (fresh_back ((e3.trans e4).trans e5) hp) (((e3.trans e4).trans e5).trans e6) h6
      · have hw : spoil A B g x (x + 1 + k) = none := by simpa using c
        rw [mrow_succ, hm, hw]
        rfl
    · obtain ⟨e3, ⟨v4, v5, rfl⟩, hm⟩ := hP
      refine ⟨e3, ⟨_, _, _, rfl⟩, ?_⟩
      rw [mcol_succ, hc, show A.n - (x + 1) = ((A.n : Int) - ((x : Int) + 1)).toNat by omega, hm]
      rfl
  · obtain ⟨e2, ⟨v3, v4, v5, rfl⟩, hc⟩ := hP
    have hmf : mfault A B g = none := by
      have e : ((A.n : Int)).toNat = A.n := by omega
      rw [e] at hc
      exact hc
    rw [hmf] at q
    exact s_ret ev_c fun H3 e3 => q H3 (e2.trans e3)
/-! ## KD7: ### keeps_ends -/
abbrev nl_keeps_ends : List Str := ["one", "other", "values"]
theorem sc_keeps_ends : FnScope nl_keeps_ends ["one", "other", "values"] (defScope s_keeps_ends) := ⟨rfl, rfl, rfl, by decide +kernel, rfl, by decide +kernel, by decide +kernel⟩
-- slots: 0:one 1:other 2:values
def endsB (A B : Lt) (g : List Nat) : Bool := decide (at_ g A.bot = B.bot) && decide (at_ g A.top = B.top)
def spEnds (C CB : Addr) : Sp := fun vs H Q E => ∃ (a b : Addr) (v : V) (A B : Lt) (r : Option (List V)), vs = [.ref a, .ref b, v] ∧ LI C H a A ∧ LI C H b B ∧ Good A ∧ Good B ∧ RowOf H v r ∧ ScR r ∧ (∀ k, faultOf A.n B.n r = some k → BadX CB k H E) ∧
  (∀ g, faultOf A.n B.n r = none → r = some (intsV g) → RetV (.bl (endsB A B g)) H Q)
theorem ok_keeps_ends {f1 : Addr} {d1 : FuncData} (cC : LC K C) (h_check_map : Has P w K mg base (L2.CX P w) 3 "check_map" ["one", "other", "values"] (spCheck C CB) f1 d1)
    (F : At K "keeps_ends" "keeps_ends" s_keeps_ends f fd) (T : Tx K mg) : FnOk P w K mg base (L2.CX P w) 4 f fd ["one", "other", "values"] (spEnds C CB) := by
  refine F.ok sc_keeps_ends (fun vs H Q E h => ?_) (fun cdv A outer s H vs Q E hr h => ?_)
  · obtain ⟨a, b, v, A, B, r, rfl, _⟩ := h
    rfl
  obtain ⟨a, b, v, A, B, r, rfl, hA, hB, gA, gB, hv, hs, kx, kq⟩ := h
  refine ⟨_, (pss_cons (ps_expr (pe_call h_check_map.ok (hr.mono (by decide)) rfl h_check_map.g h_check_map.kp h_check_map.b .nil (passes_call (takes_of rfl rfl rfl rfl) (fun _ _ _ _ q => q)) (pa_cons (pv 0) (pa_cons (pv 1) (pa_cons (pv 2) pa_nil)))))
    (pss_one (ps_ret (pe_and (pe_cmpR op_eq (pe_ix (ixq (K := K)) (pv 2) (pfld (K := K) (pv 0) rfl) (fun _ _ => rfl)) (pfld (K := K) (pv 1) rfl) (nomark _)) (pe_one (pe_cmpR op_eq (pe_ix (ixq (K := K)) (pv 2) (pfld (K := K) (pv 0) rfl) (fun _ _ => rfl)) (pfld (K := K) (pv 1) rfl) (nomark _))))))), ?_⟩
  have start : ∀ (D : Ends) (tz : TS), (∀ H1, Ex H H1 → faultOf A.n B.n r = none → tz D (start nl_keeps_ends [.ref a, .ref b, v]) H1) → tSeq (tDrop (tCall (spCheck C CB) [] E (tCons (tVar 0) (tCons (tVar 1) (tCons (tVar 2) tNil))))) tz D (start nl_keeps_ends [.ref a, .ref b, v]) H := fun D tz k =>
    ⟨_, rfl, _, rfl, _, rfl, a, b, v, A, B, r, rfl, hA, hB, hv, hs, kx, fun hn xs hx p H2 e2 h2 => k H2 e2 hn⟩
  refine start _ _ fun H1 e1 hn => ?_
  clear start
  obtain ⟨g, rfl, hl, hg⟩ := fault_none hn
  have q := kq g hn rfl
  obtain ⟨da, fa, ha, la⟩ := hA.ex e1
  obtain ⟨db, fb, hb, lb⟩ := hB.ex e1
  have hv1 := hv.ex e1
  exact s_ret (ev_andV (ev_op (ev_xR (ev_var rfl) (ev_fld (ev_var rfl) ha cC.cl cC.nB la.bot) hv1 (intsV_at (by rw [hl]; exact gA.bot_lt))) (ev_fld (ev_var rfl) hb cC.cl cC.nB lb.bot) (rv_eqN _ _))
    fun _ => ev_op (ev_xR (ev_var rfl) (ev_fld (ev_var rfl) ha cC.cl cC.nU la.top) hv1 (intsV_at (by rw [hl]; exact gA.top_lt))) (ev_fld (ev_var rfl) hb cC.cl cC.nU lb.top) (rv_eqN _ _)) fun H2 e2 => q H2 (e1.trans e2)
end
end KM

/-! ## KGen: a generator's if; list of a generator in a try's body -/
namespace KM
open PySem PySem.Spec PyProof.Rows L2 Evl GenW
section
variable {X : Cx} {c : Expr} {a b : List Stmt} {pos : Pos} {tc : TT} {t u : TGn}
def tGIf (tc : TT) (t u : TGn) : TGn := fun D ys σ H => tc σ H fun d H1 => if d = true then t D ys σ H1 else u D ys σ H1
theorem gs_if (hc : PT X c tc) (ha : GSs X a t) (hb : GSs X b u) : GS X (.If c a b pos) (tGIf tc t u) := by
  refine ⟨fun A S ip R n ys s₀ cc fs K J gd lv s σ H D g hn k hI ht => ?_⟩
  rw [exec_If]
  refine seg_bind_wrap (wpAny_standAt ?_)
  refine seg_bind_wrap ?_
  rw [g.over]
  obtain ⟨acc, c0, r, I⟩ := hI
  refine wpAny_mono (hc.run _ s σ H _ I ht) (fun d s' hd => ?_) fun x s' hx => k.exc n s₀ x s' hx
  obtain ⟨H2, I2, q2⟩ := hd
  cases d with
  | true => exact ha.run A S ip R n ys s₀ cc fs K J gd lv s' σ H2 D g hn k ⟨acc, c0, r, I2⟩ q2
  | false => exact hb.run A S ip R n ys s₀ cc fs K J gd lv s' σ H2 D g hn k ⟨acc, c0, r, I2⟩ q2
end
end KM

/-! ## KD8: the generator of the module of maps -/
namespace KM
open PySem PySem.Spec PyProof.Rows L2 Evl
section
variable {K : PySem.W.Frag} {σ : L2.St} {H H' : Hp} {to ti te : TE} {D : Ends}
/-- xs[j] += e -/
theorem s_augL {l : Addr} {xs : List V} {j : Nat} {a b : Int} (hl : H l = some (.lst xs)) (ho : Ev to σ H (.ref l)) (hi : Ev ti σ H (.int (j : Int))) (hj : xs[j]? = some (.int a)) (he : Ev te σ H (.int b)) (k : ∀ H1, Ex H H1 → D.nx σ (upd H1 l (.lst (xs.set j (.int (a + b)))))) :
    tAugS to ti te (rGetL K) (ipI fun i j => i + j) rSetL D σ H := ho H (Ex.refl H) _ fun H1 e1 => hi H1 e1 _ fun H2 e2 =>
  ⟨l, xs, (j : Int), .int a, rfl, rfl, SqL.of ((e1.trans e2) _ _ hl), atI_nat hj, he H2 (e1.trans e2) _ fun H3 e3 => ⟨a, b, rfl, rfl, l, xs, (j : Int), j, rfl, rfl, ((e1.trans e2).trans e3) _ _ hl, ixN_nat (List.getElem?_eq_some_iff.mp hj).1, k H3 ((e1.trans e2).trans e3)⟩⟩
section
variable {u : TGn} {D : GEnds} {ys : List V} {tc : TT} {tu : TS} {v : V}
abbrev gEnd (u : TGn) (D : GEnds) (ys : List V) : Ends := { nx := fun σ' H' => u D ys σ' H', rt := D.rt ys, bk := D.bk ys, ct := D.ct ys }
theorem g_when {b : Bool} (h : EvT tc σ H b) (h1 : b = true → ∀ H1, Ex H H1 → tu (gEnd u D ys) σ H1) (h2 : b = false → ∀ H1, Ex H H1 → u D ys σ H1) : tGThen (tPlain (tIfS tc tu tNext)) u D ys σ H := s_when (D := gEnd u D ys) h h1 h2
theorem g_asg {i : Nat} (h : Ev te σ H v) (k : ∀ H1, Ex H H1 → u D ys (σ.set i (some v)) H1) : tGThen (tPlain (tAsg te (gName i))) u D ys σ H := s_asg (D := gEnd u D ys) h k
theorem g_asgL {i : Nat} {xs : List V} (h : EvL te σ H xs) (k : ∀ p H1, H p = none → Ex H H1 → H1 p = some (.lst xs) → u D ys (σ.set i (some (.ref p))) H1) : tGThen (tPlain (tAsg te (gName i))) u D ys σ H := s_asgL (D := gEnd u D ys) h k
theorem g_augL {l : Addr} {xs : List V} {j : Nat} {a b : Int} (hl : H l = some (.lst xs)) (ho : Ev to σ H (.ref l)) (hi : Ev ti σ H (.int (j : Int))) (hj : xs[j]? = some (.int a)) (he : Ev te σ H (.int b)) (k : ∀ H1, Ex H H1 → u D ys σ (upd H1 l (.lst (xs.set j (.int (a + b)))))) :
    tGThen (tPlain (tAugS to ti te (rGetL K) (ipI fun i j => i + j) rSetL)) u D ys σ H := s_augL (D := gEnd u D ys) hl ho hi hj he k
theorem g_ifYield {b : Bool} {xs : List V} (h : EvT tc σ H b) (hn : ys.length < 100000) (h1 : b = true → ∀ H1, Ex H H1 → EvU te σ H1 xs) (Pm : List V → Hp → Prop) (k1 : b = true → ∀ p H1, H p = none → Ex H H1 → H1 p = some (.tup xs) → Pm (ys ++ [.ref p]) H1)
    (k2 : b = false → ∀ H1, Ex H H1 → Pm ys H1) (k : ∀ ys' H1, Pm ys' H1 → u D ys' σ H1) : tGThen (tGIf tc (tGThen (tGYield te) tG0) tG0) u D ys σ H := h H (Ex.refl H) _ fun H1 e1 => by
  cases b with
  | true => exact ⟨sz_lt hn, h1 rfl H1 e1 H1 (Ex.refl H1) _ fun p H2 hp e2 h2 => k _ _ (k1 rfl p H2 (fresh_back e1 hp) (e1.trans e2) h2)⟩
  | false => exact k _ _ (k2 rfl H1 e1)
theorem g_while (W : Nat → L2.St → Hp → Prop) (m0 : Nat) (h0 : W m0 σ H)
    (hs : ∀ m σ' H', W m σ' H' → ∃ b, EvT tc σ' H' b ∧ (b = true → ∀ H1, Ex H' H1 → ∃ N : L2.St → Hp → Prop, (∀ σ2 H2, N σ2 H2 → ∃ m', m' < m ∧ W m' σ2 H2) ∧ tu { gEnd u D ys with nx := N, ct := N, bk := fun σ' H' => u D ys σ' H' } σ' H1) ∧ (b = false → ∀ H1, Ex H' H1 → u D ys σ' H1)) : tGThen (tPlain (tWhile tc tu)) u D ys σ H :=
  s_while (D := gEnd u D ys) W m0 h0 hs
end
end
theorem intsV_inj : ∀ {x y : List Nat}, intsV x = intsV y → x = y
  | [], [], _ => rfl
  | [], _ :: _, h => by cases h
  | _ :: _, [], h => by cases h
  | a :: r, b :: t, h => by
    have h2 := List.cons.inj h
    have h3 := V.int.inj h2.1
    rw [intsV_inj h2.2, show a = b by omega]
theorem intsV_rev_set {r : List Nat} {z : List Nat} {d e : Nat} : (intsV (r.reverse ++ d :: z)).set r.length (.int (e : Int)) = intsV (r.reverse ++ e :: z) := by
  unfold intsV
  rw [List.map_append, List.map_append, List.set_append_right _ _ (by rw [List.length_map, List.length_reverse]; omega), List.length_map, List.length_reverse, Nat.sub_self]
  rfl
theorem intsV_rev_get {r : List Nat} {z : List Nat} {d : Nat} : (intsV (r.reverse ++ d :: z))[r.length]? = some (.int (d : Int)) := by
  unfold intsV
  rw [List.map_append, List.getElem?_append_right (by rw [List.length_map, List.length_reverse]; omega), List.length_map, List.length_reverse, Nat.sub_self]
  rfl
theorem rep_snoc (j : Nat) (X : List Nat) : List.replicate j 0 ++ (0 :: X) = List.replicate (j + 1) 0 ++ X := by
  rw [List.replicate_succ', List.append_assoc]
  rfl
/-- what is handed out: a tuple for each -/
def OutT (H : Hp) (ys : List V) (fs : List (List Nat)) : Prop := Paired (fun v g => ∃ p, v = V.ref p ∧ H p = some (.tup (intsV g))) ys fs
theorem OutT.ex {H H' : Hp} {ys : List V} {fs : List (List Nat)} (h : OutT H ys fs) (e : Ex H H') : OutT H' ys fs := Paired.imp2 h fun v g _ ⟨p, h1, h2⟩ => ⟨p, h1, e _ _ h2⟩
theorem OutT.upd {H : Hp} {ys : List V} {fs : List (List Nat)} {l : Addr} {xs zs : List V} (h : OutT H ys fs) (hl : H l = some (.lst xs)) : OutT (L2.upd H l (.lst zs)) ys fs := Paired.imp2 h fun v g _ ⟨p, h1, h2⟩ => ⟨p, h1, by
  have n : p ≠ l := fun c => by
    rw [c, hl] at h2
    cases h2
  rw [upd_ne n]
  exact h2⟩
section
variable {P : Program} {w : World} {K : PySem.W.Frag} {mg : Str → Option Value} {base : Heap} {CX : CXT} {f C CB CT fT : Addr} {fd fdT : FuncData}
/-! ## KD8: ### all_maps -/
abbrev nl_all_maps : List Str := ["one", "other", "values", "at", "worth"]
theorem sc_all_maps : GScope nl_all_maps ["one", "other"] (defScope s_all_maps) := ⟨rfl, rfl, rfl, by decide +kernel, rfl, by decide +kernel, by decide +kernel⟩
-- slots: 0:one 1:other 2:values 3:at 4:worth
def MostX (CT : Addr) (H : Hp) (E : XK) : Prop := ∀ H1 d, Ex H H1 → H1 d = none → E (.ref CT) (some d) (upd H1 d (.xd [("most", .int 5)]))
def spMaps (C CT : Addr) : SpG := fun vs H Q E => ∃ (a b : Addr) (A B : Lt), vs = [.ref a, .ref b] ∧ LI C H a A ∧ LI C H b B ∧ Good A ∧ Good B ∧ ((5 < A.n ∨ 5 < B.n) → MostX CT H E) ∧ (A.n ≤ 5 → B.n ≤ 5 → ∀ out H2, Ex H H2 → OutT H2 out (allMaps A B) → Q out H2)
theorem ok_all_maps {f1 : Addr} {d1 : FuncData} (cC : LC K C) (h_map_fault : Has P w K mg base (L2.CX P w) 4 "map_fault" ["one", "other", "values"] (spFault C CB) f1 d1) (h_TooMany : XC K mg "TooMany" "most" CT fT) (i_TooMany : Has0 P w K mg base 1 ["self", "most"] (spExc CT "most") fT fdT)
    (F : At K "all_maps" "all_maps" s_all_maps f fd) (T : Tx K mg) : GFn P w K mg base 5 f fd ["one", "other"] (spMaps C CT) := by
  obtain ⟨oc, od, dV, kV, doc, pm, an, cdv, ct, osl, rfl, lk, hcd, _, _⟩ := F.ex
  refine gfn_of lk hcd sc_all_maps (fun vs H Q E h => ?_) (fun A outer s H vs Q E pn hr h => ?_)
  · obtain ⟨a, b, A, B, rfl, _⟩ := h
    rfl
  obtain ⟨a, b, A, B, rfl, hA, hB, gA, gB, kx, kq⟩ := h
  refine ⟨_, (gss_cons (gs_ps (ps_if (PW.pt (pw_or (pt_cmpR op_gt (pfld (K := K) (pv 0) rfl) pe_int (nomark _)) (pw_or1 (pt_cmpR op_gt (pfld (K := K) (pv 1) rfl) pe_int (nomark _)))))
      (pss_one (ps_raise rfl (takes_gcx) (pmk_oex h_TooMany.ox h_TooMany.ii h_TooMany.ti i_TooMany.ok (hr.mono (by decide)) i_TooMany.b .nil pass0 (by rfl) h_TooMany.g (pa_cons pe_int pa_nil))))
      pss_nil))
    (gss_cons (gs_ps (ps_setLc (i := 2) (own := [("worth", 4)]) (g := gName 4) (tt := tYes) rfl sc_all_maps.nd rfl rfl (sw_true rfl rfl rfl (by decide +kernel)) (pi_range1 (by rfl) T.m_range (pa_cons (pfld (K := K) (pv 0) rfl) pa_nil)) (blkOk_by (N := nl_all_maps) (sc := (defScope s_all_maps)) (by decide +kernel)) (fun _ _ _ _ _ => pg_name (i := 4) sc_all_maps.nd rfl (by first | exact Or.inl rfl | exact Or.inr rfl)) (fun _ _ _ _ _ => pts_nil) (by intro _ _ _ _ _; exact pe_int)))
    (gss_cons (gs_while owns_gcx (pt_cmpR op_lt (pe_ix (ixq (K := K)) (pv 2) pe_int (fun _ _ => rfl)) (pfld (K := K) (pv 1) rfl) (nomark _))
      (gss_cons (gs_if (pt_cmp (pc_isN (pe_call h_map_fault.ok (hr.mono (by decide)) rfl h_map_fault.g h_map_fault.kp h_map_fault.b .nil (passes_call (E := fun _ _ _ => False) takes_gcx (fun _ _ _ _ q => q.elim)) (pa_cons (pv 0) (pa_cons (pv 1) (pa_cons (pv 2) pa_nil))))))
        (gss_cons (gs_yield (pe_callTy (ctup (K := K)) (by rfl) T.m_tuple (by decide +kernel) (pa_cons (pv 2) pa_nil)))
        gss_nil)
        gss_nil)
      (gss_cons (gs_ps (ps_set (i := 3) sc_all_maps.nd rfl (by first | exact Or.inl rfl | exact Or.inr rfl) (pe_op op_sub (pfld (K := K) (pv 0) rfl) pe_int)))
      (gss_cons (gs_ps (ps_augS (pv 2) (pv 3) (get_list (K := K)) pe_int ip_add set_list))
      (gss_cons (gs_ps (ps_while owns_gcx (PW.pt (pw_and (pt_cmpR op_gt (pv 3) pe_int (nomark _)) (pw_and1 (pt_cmpR op_eq (pe_ix (ixq (K := K)) (pv 2) (pv 3) (fun _ _ => rfl)) (pfld (K := K) (pv 1) rfl) (nomark _)))))
        (pss_cons (ps_asg pe_int (pg_sub (pv 2) (pv 3) set_list))
        (pss_cons (ps_aug (i := 3) sc_all_maps.nd rfl (by first | exact Or.inl rfl | exact Or.inr rfl) pe_int ip_sub)
        (pss_one (ps_augS (pv 2) (pv 3) (get_list (K := K)) pe_int ip_add set_list))))))
      gss_nil)))))
    gss_nil))), ?_⟩
  obtain ⟨dxa, fsa, ha, la⟩ := id hA
  obtain ⟨dxb, fsb, hb, lb⟩ := id hB
  refine g_when (b := decide ((5 : Int) < (A.n : Int)) || decide ((5 : Int) < (B.n : Int))) (et_or (et_test (ev_op (ev_fld (ev_var rfl) ha cC.cl cC.nS la.size) ev_c rv_I0)) fun _ => et_test (ev_op (ev_fld (ev_var rfl) hb cC.cl cC.nS lb.size) ev_c rv_I0)) (fun c H1 e1 => ?_) (fun c H1 e1 => ?_)
  · have c' : 5 < A.n ∨ 5 < B.n := by
      rcases Bool.or_eq_true_iff.mp c with q | q
      · left
        have := of_decide_eq_true q
        omega
      · right
        have := of_decide_eq_true q
        omega
    exact mkO_exc (ea_cons ev_c ea_nil) fun H2 d e2 hd => kx c' H2 d (e1.trans e2) hd
  have nA : A.n ≤ 5 := by
    have := of_decide_eq_false (Bool.or_eq_false_iff.mp c).1
    omega
  have nB : B.n ≤ 5 := by
    have := of_decide_eq_false (Bool.or_eq_false_iff.mp c).2
    omega
  clear c kx
  have q := kq nA nB
  have pA := gA.pos
  have pB : 0 < B.n := gB.pos
  obtain ⟨k, hk⟩ : ∃ k, A.n = k + 1 := ⟨A.n - 1, by omega⟩
  -- values
  refine g_asgL (xs := (List.range A.n).map fun _ => V.int 0) (el_lcRy (fun _ => V.int 0) (ea_cons (ev_fld (ev_var rfl) (e1 _ _ ha) cC.cl cC.nS la.size) ea_nil) (by omega) (fun _ => rfl) fun k H2 e2 hk => ev_c) fun p H2 hp e2 h2 => ?_
  have hp0 : H p = none := fresh_back e1 hp
  have z0 : ((List.range A.n).map fun _ => V.int 0) = intsV (dlo k B.n 0).reverse := by
    rw [dlo_zero, hk, List.reverse_replicate]
    unfold intsV
    rw [List.map_const', List.length_range, List.map_replicate]
    rfl
  rw [z0] at h2
  -- the odometer
  refine ⟨fun m ys σ' H' => ∃ N, N ≤ B.n ^ (k + 1) ∧ m = B.n ^ (k + 1) - N ∧ Ex H H' ∧ H' p = some (.lst (intsV (dlo k B.n N).reverse)) ∧ OutT H' ys (mapsTo A B N) ∧ ∃ v3 v4, σ' = [some (.ref a), some (.ref b), some (.ref p), v3, v4],
    ⟨B.n ^ (k + 1), 0, Nat.zero_le _, rfl, e1.trans e2, h2, .nil, none, none, rfl⟩, fun m ys σ' H' hW => ?_⟩
  obtain ⟨N, hN, rfl, eH, hv, hout, v3, v4, rfl⟩ := hW
  have e3125 : B.n ^ (k + 1) ≤ 3125 := by
    rw [← hk]
    exact pow_small nA nB
  have hout_len : ys.length ≤ N := by
    rw [Paired.length hout]
    exact mapsTo_len A B N
  have hb' := eH _ _ hb
  have ha' := eH _ _ ha
  have tt : EvT (tTest (tOp (rI0 fun i j => V.bl (decide (i < j))) (tOp (rIx K) (tVar 2) (tC (.int 0))) (tFld K (tVar 1) "size"))) [some (.ref a), some (.ref b), some (.ref p), v3, v4] H' (decide (((N / B.n ^ k : Nat) : Int) < (B.n : Int))) := by
    refine et_test (ev_op (ev_xL (i := 0) (ev_var rfl) ev_c hv ?_) (ev_fld (ev_var rfl) hb' cC.cl cC.nS lb.size) rv_I0)
    unfold intsV
    rw [List.getElem?_map, List.getElem?_reverse (by rw [dlo_len]; omega), dlo_len, show k + 1 - 1 - 0 = k by omega, dlo_top pB]
    rfl
  refine tt H' (Ex.refl H') _ fun H3 e3 => ?_
  by_cases c : N < B.n ^ (k + 1)
  · rw [decide_eq_true (show ((N / B.n ^ k : Nat) : Int) < (B.n : Int) by have := (top_lt (k := k) (N := N) pB).mpr c; omega), if_pos rfl]
    refine ⟨fun ys' σ' H' => ∃ m', m' < B.n ^ (k + 1) - N ∧ ∃ N, N ≤ B.n ^ (k + 1) ∧ m' = B.n ^ (k + 1) - N ∧ Ex H H' ∧ H' p = some (.lst (intsV (dlo k B.n N).reverse)) ∧ OutT H' ys' (mapsTo A B N) ∧ ∃ v3 v4, σ' = [some (.ref a), some (.ref b), some (.ref p), v3, v4], fun _ _ _ h => h, ?_⟩
    have eD : (dlo k B.n N).reverse = dg A.n B.n N := by
      rw [dlo_dle pB c, hk]
      rfl
    have eH3 := eH.trans e3
    have hv3 := e3 _ _ hv
    have fo : faultOf A.n B.n (some (intsV (dg A.n B.n N))) = none := fault_ints (dg_len _ _ _) fun d hd => dg_lt pB hd
    have t2 : EvT (tB (tIsN (tCall (spFault C CB) [] (fun _ _ _ => False) (tCons (tVar 0) (tCons (tVar 1) (tCons (tVar 2) tNil)))))) [some (.ref a), some (.ref b), some (.ref p), v3, v4] H3 (mfault A B (dg A.n B.n N)).isNone := fun H4 e4 Q2 k2 =>
      ⟨_, rfl, _, rfl, _, rfl, a, b, .ref p, A, B, some (intsV (dg A.n B.n N)), rfl, hA.ex (eH3.trans e4), hB.ex (eH3.trans e4), gA, gB, ⟨p, HO.lst, rfl, Or.inl rfl, by rw [← eD]; exact e4 _ _ hv3⟩, scI_ints, fun k hk => (by rw [fo] at hk; cases hk), fun g _ hg => by
        obtain rfl : dg A.n B.n N = g := intsV_inj (Option.some.inj hg)
        cases hm : mfault A B (dg A.n B.n N) with
        | none =>
          rw [hm] at k2
          exact fun H5 e5 => ⟨_, rfl, k2 H5 e5⟩
        | some o =>
          rw [hm] at k2
          exact fun p5 H5 hp5 e5 h5 => ⟨_, rfl, k2 H5 e5⟩⟩
    refine g_ifYield (xs := intsV (dg A.n B.n N)) t2 (by omega) (fun _ H4 e4 => eu_tupL (ea_cons (ev_var rfl) ea_nil) (by rw [← eD]; exact e4 _ _ hv3))
      (fun ys' H5 => Ex H H5 ∧ H5 p = some (.lst (intsV (dlo k B.n N).reverse)) ∧ OutT H5 ys' (mapsTo A B (N + 1))) (fun c2 z H5 hz e5 h5 => ⟨eH3.trans e5, e5 _ _ hv3, ?_⟩) (fun c2 H5 e5 => ⟨eH3.trans e5, e5 _ _ hv3, ?_⟩) fun ys' H5 hP => ?_
    · have hm : mfault A B (dg A.n B.n N) = none := by simpa using c2
      rw [mapsTo_yes hm]
      exact Paired.snoc (hout.ex (e3.trans e5)) ⟨z, rfl, h5⟩
    · have hm : mfault A B (dg A.n B.n N) ≠ none := fun c3 => by
        rw [c3] at c2
        cases c2
      rw [mapsTo_no hm]
      exact hout.ex (e3.trans e5)
    · obtain ⟨e5, h5, o5⟩ := hP
      obtain ⟨d, r, hd, hrl⟩ := dlo_cons k B.n N
      have hnr := nrm_succ pB hd
      rw [hd, List.reverse_cons] at h5
      refine g_asg (v := .int (r.length : Int)) (ev_is (ev_op (ev_fld (ev_var rfl) (e5 _ _ ha) cC.cl cC.nS la.size) ev_c rv_I0) (by rw [hk, hrl]; exact congrArg V.int (by omega))) fun H6 e6 => ?_
      refine g_augL (xs := intsV (r.reverse ++ d :: [])) (j := r.length) (a := (d : Int)) (b := 1) (e6 _ _ h5) (ev_var rfl) (ev_var rfl) intsV_rev_get ev_c fun H7 e7 => ?_
      have s7 : ((intsV (r.reverse ++ d :: [])).set r.length (.int ((d : Int) + 1))) = intsV (r.reverse ++ (d + 1) :: []) := intsV_rev_set (e := d + 1)
      rw [s7]
      have hl7 : H7 p = some (.lst (intsV (r.reverse ++ d :: []))) := e7 _ _ (e6 _ _ h5)
      refine g_while (fun m σ' H' => ∃ (rest : List Nat) (d' j : Nat), m = rest.length ∧ Ex H H' ∧ OutT H' ys' (mapsTo A B (N + 1)) ∧ H' p = some (.lst (intsV (rest.reverse ++ d' :: List.replicate j 0))) ∧ List.replicate j 0 ++ nrm B.n d' rest = dlo k B.n (N + 1) ∧ ∃ v4, σ' = [some (.ref a), some (.ref b), some (.ref p), some (.int (rest.length : Int)), v4])
        r.length ⟨r, d + 1, 0, rfl, Ex.mut ((e5.trans e6).trans e7) hp0, (o5.ex (e6.trans e7)).upd hl7, upd_same, hnr, v4, rfl⟩ fun m σ' H8 hW => ?_
      obtain ⟨rest, d', j, rfl, e8, o8, h8, hnr8, v4', rfl⟩ := hW
      refine ⟨decide ((0 : Int) < (rest.length : Int)) && decide (d' = B.n), et_and (et_test (ev_op (ev_var rfl) ev_c rv_I0)) (fun _ => et_test (ev_op (ev_xL (ev_var rfl) (ev_var rfl) h8 intsV_rev_get) (ev_fld (ev_var rfl) (e8 _ _ hb) cC.cl cC.nS lb.size) (rv_eqN _ _))), fun cc H9 e9 => ?_, fun cc H9 e9 => ?_⟩
      · obtain ⟨c1, c2⟩ := Bool.and_eq_true_iff.mp cc
        have c1 := of_decide_eq_true c1
        have c2 := of_decide_eq_true c2
        cases rest with
        | nil => exact absurd c1 (by decide)
        | cons e r' =>
          refine ⟨fun σ2 H2 => ∃ m', m' < (e :: r').length ∧ ∃ (rest : List Nat) (d' j : Nat), m' = rest.length ∧ Ex H H2 ∧ OutT H2 ys' (mapsTo A B (N + 1)) ∧ H2 p = some (.lst (intsV (rest.reverse ++ d' :: List.replicate j 0))) ∧ List.replicate j 0 ++ nrm B.n d' rest = dlo k B.n (N + 1) ∧ ∃ v4, σ2 = [some (.ref a), some (.ref b), some (.ref p), some (.int (rest.length : Int)), v4], fun _ _ h => h, ?_⟩
          have l8 : (e :: r').length < (intsV ((e :: r').reverse ++ d' :: List.replicate j 0)).length := by
            rw [intsV_len, List.length_append, List.length_reverse, List.length_cons (a := d')]
            omega
          refine q_setL (v := .int ((0 : Nat) : Int)) (e9 _ _ h8) ev_c (ev_var rfl) (ev_var rfl) l8 fun H10 e10 => ?_
          rw [intsV_rev_set]
          have E10 := Ex.mut (o := .lst (intsV ((e :: r').reverse ++ 0 :: List.replicate j 0))) ((e8.trans e9).trans e10) hp0
          have O10 := (o8.ex (e9.trans e10)).upd (zs := intsV ((e :: r').reverse ++ 0 :: List.replicate j 0)) (e10 _ _ (e9 _ _ h8))
          refine q_aug (a := ((e :: r').length : Int)) (b := 1) rfl ev_c fun H11 e11 => ?_
          have e12 : (((e :: r').length : Nat) : Int) - 1 = ((r'.length : Nat) : Int) := by
            rw [List.length_cons]
            omega
          have l12 : ∀ x : Nat, (e :: r').reverse ++ x :: List.replicate j 0 = r'.reverse ++ e :: (x :: List.replicate j 0) := fun x => by
            rw [List.reverse_cons, List.append_assoc]
            rfl
          have h11 : H11 p = some (.lst (intsV (r'.reverse ++ e :: (0 :: List.replicate j 0)))) := by
            rw [← l12]
            exact e11 _ _ upd_same
          refine s_augL (xs := intsV (r'.reverse ++ e :: (0 :: List.replicate j 0))) (j := r'.length) (a := (e : Int)) (b := 1) h11 (ev_var rfl) (ev_var (by show some (some (V.int ((((e :: r').length : Nat) : Int) - 1))) = _; rw [e12])) intsV_rev_get ev_c fun H13 e13 => ?_
          refine ⟨r'.length, by rw [List.length_cons]; omega, r', e + 1, j + 1, rfl, Ex.mut ((E10.trans e11).trans e13) hp0, (O10.ex (e11.trans e13)).upd (e13 _ _ h11), ?_, ?_, v4', ?_⟩
          · rw [upd_same, show ((e : Int) + 1) = ((e + 1 : Nat) : Int) by omega, intsV_rev_set]
            rfl
          · rw [← hnr8, c2]
            show _ = List.replicate j 0 ++ (if B.n = B.n then 0 :: nrm B.n (e + 1) r' else _)
            rw [if_pos rfl, rep_snoc]
          · show [some (.ref a), some (.ref b), some (.ref p), some (V.int ((((e :: r').length : Nat) : Int) - 1)), v4'] = _
            rw [e12]
      · refine ⟨B.n ^ (k + 1) - (N + 1), by omega, N + 1, by omega, rfl, e8.trans e9, ?_, o8.ex e9, _, _, rfl⟩
        rw [← hnr8]
        have hh := e9 _ _ h8
        cases rest with
        | nil =>
          rw [show nrm B.n d' [] = [d'] from rfl, List.reverse_append, List.reverse_replicate]
          exact hh
        | cons e r' =>
          have hne : ¬ d' = B.n := fun c2 => by
            rw [decide_eq_true c2, Bool.and_true] at cc
            have := of_decide_eq_false cc
            rw [List.length_cons] at this
            omega
          rw [show nrm B.n d' (e :: r') = d' :: e :: r' from if_neg hne, List.reverse_append, List.reverse_replicate, List.reverse_cons (a := d'), List.append_assoc]
          exact hh
  · have eN : N = B.n ^ (k + 1) := by omega
    rw [decide_eq_false (show ¬ ((N / B.n ^ k : Nat) : Int) < (B.n : Int) by
      intro c2
      exact c ((top_lt (k := k) (N := N) pB).mp (by omega))), if_neg Bool.false_ne_true]
    refine q ys H3 (eH.trans e3) ?_
    have := hout.ex e3
    rw [eN, ← hk] at this
    exact this
end
end KM

/-! ## KKp: the hand: what is kept beside it -/
namespace KM
open PySem PySem.Spec PyProof.Rows L2 Evl
def isHand (o : HO) : Prop := ∃ (c : Addr) (p g m : Int), o = .lst [.ref c, .int p, .int g, .int m]
/-- all that is not of the hand's shape is kept, what is there stays there -/
structure Kp (H H' : Hp) : Prop where
  kp : ∀ b o, H b = some o → ¬ isHand o → H' b = some o
  dom : ∀ b, H' b = none → H b = none
theorem Kp.refl (H : Hp) : Kp H H := ⟨fun _ _ h _ => h, fun _ h => h⟩
theorem Kp.trans {H H1 H2 : Hp} (a : Kp H H1) (b : Kp H1 H2) : Kp H H2 := ⟨fun x o h n => b.kp x o (a.kp x o h n) n, fun x h => a.dom x (b.dom x h)⟩
theorem Kp.of {H H' : Hp} (e : Ex H H') : Kp H H' := ⟨fun b o h _ => e b o h, fun _ h => fresh_back e h⟩
theorem Kp.ex {H H1 H2 : Hp} (a : Kp H H1) (e : Ex H1 H2) : Kp H H2 := a.trans (.of e)
theorem Kp.pre {H H1 H2 : Hp} (e : Ex H H1) (a : Kp H1 H2) : Kp H H2 := (Kp.of e).trans a
/-- the hand at h, its cells at c -/
structure Hd (H : Hp) (h c : Addr) (cs : List Int) : Prop where
  hand : ∃ (p : Nat) (g m : Int), H h = some (.lst [.ref c, .int (p : Int), .int g, .int m])
  cells : H c = some (.lst (cs.map V.int))
theorem not_tup {xs : List V} : ¬ isHand (.tup xs) := fun ⟨_, _, _, _, h⟩ => by cases h
theorem not_ins {C dx : Addr} {fs : List (Str × V)} : ¬ isHand (.ins C dx fs) := fun ⟨_, _, _, _, h⟩ => by cases h
theorem not_ints {cs : List Int} : ¬ isHand (.lst (cs.map V.int)) := fun ⟨_, _, _, _, h⟩ => by
  cases cs with
  | nil => cases h
  | cons a r => cases h
theorem not_intsV {l : List Nat} : ¬ isHand (.lst (intsV l)) := fun ⟨_, _, _, _, h⟩ => by
  cases l with
  | nil => cases h
  | cons a r => cases h
theorem not_refs {as : List Addr} : ¬ isHand (.lst (as.map V.ref)) := fun ⟨_, _, _, _, h⟩ => by
  match as, h with
  | [], h => cases h
  | [_], h => cases h
  | _ :: _ :: _, h => cases h
theorem not_bls {bs : List Bool} : ¬ isHand (.lst (bs.map V.bl)) := fun ⟨_, _, _, _, h⟩ => by
  cases bs with
  | nil => cases h
  | cons a r => cases h
theorem not_int1 {i : Int} {r : List V} : ¬ isHand (.lst (.int i :: r)) := fun ⟨_, _, _, _, h⟩ => by cases h
theorem Hd.ex {H H' : Hp} {h c : Addr} {cs : List Int} (d : Hd H h c cs) (e : Ex H H') : Hd H' h c cs := by
  obtain ⟨⟨p, g, m, h1⟩, h2⟩ := d
  exact ⟨⟨p, g, m, e _ _ h1⟩, e _ _ h2⟩
/-- something else changes that H0 did not know -/
theorem Hd.mut {H0 H : Hp} {h c D : Addr} {cs : List Int} {o : HO} (d0 : Hd H0 h c cs) (hD : H0 D = none) (d : Hd H h c cs) : Hd (upd H D o) h c cs := by
  obtain ⟨⟨p0, g0, m0, h0⟩, c0⟩ := d0
  obtain ⟨⟨p, g, m, h1⟩, h2⟩ := d
  exact ⟨⟨p, g, m, by rw [upd_ne (ne_of_none h0 hD)]; exact h1⟩, by rw [upd_ne (ne_of_none c0 hD)]; exact h2⟩
theorem Kp.mut {H0 H : Hp} {D : Addr} {o : HO} (hD : H0 D = none) (k : Kp H0 H) : Kp H0 (upd H D o) := ⟨fun b u hb no => by
  rw [upd_ne (ne_of_none hb hD)]
  exact k.kp b u hb no, fun b hb => by
  by_cases c : b = D
  · rw [c, upd_same] at hb
    cases hb
  · rw [upd_ne c] at hb
    exact k.dom b hb⟩
/-- a row of rows of things that are no hands -/
theorem S2.kp {m1 m2 : List V → HO} {H H' : Hp} {a : Addr} {rows : List (List V)} (h : S2 m1 m2 H a rows) (k : Kp H H') (h1 : ∀ as : List Addr, ¬ isHand (m1 (as.map V.ref))) (h2 : ∀ r, r ∈ rows → ¬ isHand (m2 r)) : S2 m1 m2 H' a rows := by
  obtain ⟨as, q1, q2⟩ := h
  exact ⟨as, k.kp _ _ q1 (h1 as), Paired.imp2 q2 fun b r hr z => k.kp _ _ z (h2 r hr)⟩
theorem S2.kpT {H H' : Hp} {a : Addr} {rows : List (List V)} (h : S2 .tup .tup H a rows) (k : Kp H H') : S2 .tup .tup H' a rows := h.kp k (fun _ => not_tup) fun _ _ => not_tup
theorem tblV_no {L : Lt} {r : List V} (h : r ∈ tblV L) : ¬ isHand (.lst r) := by
  obtain ⟨i, _, rfl⟩ := List.mem_map.mp h
  have : rowB L i = ((List.range L.n).map (L.le i)).map V.bl := by
    unfold rowB
    rw [List.map_map]
    rfl
  rw [this]
  exact not_bls
theorem jnsV_no {L : Lt} {r : List V} (h : r ∈ jnsV L) : ¬ isHand (.lst r) := by
  obtain ⟨i, _, rfl⟩ := List.mem_map.mp h
  have : rowJ L i = ((List.range L.n).map fun j => ((L.jn i j : Nat) : Int)).map V.int := by
    unfold rowJ
    rw [List.map_map]
    rfl
  rw [this]
  exact not_ints
/-- the text's own lattice: [size, table, joins, meets, bottom, top] -/
def PL (H : Hp) (p : Addr) (L : Lt) : Prop := ∃ t j m : Addr, H p = some (.lst [.int (L.n : Int), .ref t, .ref j, .ref m, .int (L.bot : Int), .int (L.top : Int)]) ∧ S2 .lst .lst H t (tblV L) ∧ S2 .lst .lst H j (jnsV L) ∧ S2 .lst .lst H m (jnsV L.dual)
theorem PL.ex {H H' : Hp} {p : Addr} {L : Lt} (h : PL H p L) (e : Ex H H') : PL H' p L := by
  obtain ⟨t, j, m, h1, h2, h3, h4⟩ := h
  exact ⟨t, j, m, e _ _ h1, h2.ex e, h3.ex e, h4.ex e⟩
theorem PL.kp {H H' : Hp} {p : Addr} {L : Lt} (h : PL H p L) (k : Kp H H') : PL H' p L := by
  obtain ⟨t, j, m, h1, h2, h3, h4⟩ := h
  exact ⟨t, j, m, k.kp _ _ h1 not_int1, h2.kp k (fun _ => not_refs) fun _ => tblV_no, h3.kp k (fun _ => not_refs) fun _ => jnsV_no, h4.kp k (fun _ => not_refs) fun _ => jnsV_no⟩
theorem LI.kp {C : Addr} {H H' : Hp} {a : Addr} {L : Lt} (h : LI C H a L) (k : Kp H H') : LI C H' a L := by
  obtain ⟨dx, fs, h1, f⟩ := h
  obtain ⟨j, j1, j2⟩ := f.jr
  obtain ⟨m, m1, m2⟩ := f.mr
  exact ⟨dx, fs, k.kp _ _ h1 not_ins, f.size, ⟨j, j1, j2.kpT k⟩, ⟨m, m1, m2.kpT k⟩, f.bot, f.top, f.nj, f.nm⟩
/-- a family of sets: a list of tuples of points, by masks -/
def FamH (H : Hp) (p : Addr) (F : List Nat) : Prop := S2 .lst .tup H p (F.map fun m => intsV (bits m))
theorem FamH.ex {H H' : Hp} {p : Addr} {F : List Nat} (h : FamH H p F) (e : Ex H H') : FamH H' p F := S2.ex e h
theorem FamH.kp {H H' : Hp} {p : Addr} {F : List Nat} (h : FamH H p F) (k : Kp H H') : FamH H' p F := S2.kp h k (fun _ => not_refs) fun _ _ => not_tup
end KM

/-! ## KL1: the law's helpers: the small ones -/
namespace KM
open PySem PySem.Spec PyProof.Rows L2 Evl
section
variable {K : PySem.W.Frag} {σ : L2.St} {H H' : Hp} {ta tb tc te : TE} {x y z v : V} {tr : TA}
theorem ev_mulC {i : Int} {c : Int} (h : Ev ta σ H (.int i)) (hb : Ev tb σ H (.int c)) (hc : -(2 ^ 64) < c ∧ c < 2 ^ 64) : Ev (tOp (rI CMul fun i j => .int (i * j)) ta tb) σ H (.int (i * c)) := ev_op h hb (rv_I (Or.inr hc))
theorem ev_divC {i : Int} {c : Int} (h : Ev ta σ H (.int i)) (hb : Ev tb σ H (.int c)) (hc : 0 < c ∧ c < 1073741824) : Ev (tOp (rI CDiv fun i j => .int (i / j)) ta tb) σ H (.int (i / c)) := ev_op h hb (rv_I hc)
theorem ev_modC {i : Int} {c : Int} (h : Ev ta σ H (.int i)) (hb : Ev tb σ H (.int c)) (hc : 0 < c) : Ev (tOp (rI (fun _ j => 0 < j) fun i j => .int (i % j)) ta tb) σ H (.int (i % c)) := ev_op h hb (rv_I hc)
theorem ev_addI {i j : Int} (h : Ev ta σ H (.int i)) (hb : Ev tb σ H (.int j)) : Ev (tOp (rI0 fun i j => .int (i + j)) ta tb) σ H (.int (i + j)) := ev_op h hb rv_I0
theorem ev_subI {i j : Int} (h : Ev ta σ H (.int i)) (hb : Ev tb σ H (.int j)) : Ev (tOp (rI0 fun i j => .int (i - j)) ta tb) σ H (.int (i - j)) := ev_op h hb rv_I0
end
section
variable {P : Program} {w : World} {K : PySem.W.Frag} {mg : Str → Option Value} {base : Heap} {CX : CXT} {f : Addr} {fd : FuncData}
/-! ## KL1: ### _law_mixed -/
abbrev nl_l_mixed : List Str := ["_law_number", "_law_turn", "_law_once", "_law_twice"]
theorem sc_l_mixed : FnScope nl_l_mixed ["_law_number", "_law_turn"] (defScope s_l_mixed) := ⟨rfl, rfl, rfl, by decide +kernel, rfl, by decide +kernel, by decide +kernel⟩
-- slots: 0:~number 1:~turn 2:~once 3:~twice
def mixA (a b : Int) : Int := (a * 40014 + b * 7907 + 60013) % 2147483399
def mixB (a b : Int) : Int := (mixA a b * mixA a b + b * 90031 + mixA a b / 139) % 2147483629
def mixF (a b : Int) : Int := (mixB a b * 68111 + mixA a b / 13) % 2147483587 / 64
def spMixed : Sp := fun vs H Q _ => ∃ a b : Int, vs = [.int a, .int b] ∧ RetV (.int (mixF a b)) H Q
theorem ok_l_mixed (F : At K "_law_mixed" "_law_mixed" s_l_mixed f fd) (T : Tx K mg) : FnOk P w K mg base CX 1 f fd ["_law_number", "_law_turn"] spMixed := by
  refine F.ok sc_l_mixed (fun vs H Q E h => ?_) (fun cdv A outer s H vs Q E hr h => ?_)
  · obtain ⟨a, b, rfl, _⟩ := h
    rfl
  obtain ⟨a, b, rfl, q⟩ := h
  refine ⟨_, PSs.nox (pss_cons (ps_set (i := 2) sc_l_mixed.nd rfl (by first | exact Or.inl rfl | exact Or.inr rfl) (pe_op op_mod (pe_callTy call_int1 (by rfl) T.m_int (by decide +kernel) (pa_cons (pe_op op_add (pe_op op_add (pe_op op_mul (pv 0) pe_int) (pe_op op_mul (pv 1) pe_int)) pe_int) pa_nil)) pe_int))
    (pss_cons (ps_set (i := 3) sc_l_mixed.nd rfl (by first | exact Or.inl rfl | exact Or.inr rfl) (pe_op op_mod (pe_callTy call_int1 (by rfl) T.m_int (by decide +kernel) (pa_cons (pe_op op_add (pe_op op_add (pe_op op_mul (pv 2) (pv 2)) (pe_op op_mul (pv 1) pe_int)) (pe_op op_fdiv (pv 2) pe_int)) pa_nil)) pe_int))
    (pss_one (ps_ret (pe_op op_fdiv (pe_callTy call_int1 (by rfl) T.m_int (by decide +kernel) (pa_cons (pe_op op_mod (pe_callTy call_int1 (by rfl) T.m_int (by decide +kernel) (pa_cons (pe_op op_add (pe_op op_mul (pv 3) pe_int) (pe_op op_fdiv (pv 2) pe_int)) pa_nil)) pe_int) pa_nil)) pe_int))))), ?_⟩
  have hA : -(2 ^ 64 : Int) < mixA a b ∧ mixA a b < 2 ^ 64 := by
    unfold mixA
    constructor <;> omega
  refine q_asg (v := .int (mixA a b)) (ev_modC (ev_int (ea_cons (ev_addI (ev_addI (ev_mulC (ev_var rfl) ev_c (by decide)) (ev_mulC (ev_var rfl) ev_c (by decide))) ev_c) ea_nil)) ev_c (by decide)) fun H1 e1 => ?_
  refine q_asg (v := .int (mixB a b)) (ev_modC (ev_int (ea_cons (ev_addI (ev_addI (ev_mulC (ev_var rfl) (ev_var rfl) hA) (ev_mulC (ev_var rfl) ev_c (by decide))) (ev_divC (ev_var rfl) ev_c (by decide))) ea_nil)) ev_c (by decide)) fun H2 e2 => ?_
  exact s_ret (v := .int (mixF a b)) (ev_divC (ev_int (ea_cons (ev_modC (ev_int (ea_cons (ev_addI (ev_mulC (ev_var rfl) ev_c (by decide)) (ev_divC (ev_var rfl) ev_c (by decide))) ea_nil)) ev_c (by decide)) ea_nil)) ev_c (by decide)) fun H3 e3 => q H3 ((e1.trans e2).trans e3)
/-! ## KL1: ### _law_whole -/
abbrev nl_l_whole : List Str := ["_law_thing"]
theorem sc_l_whole : FnScope nl_l_whole ["_law_thing"] (defScope s_l_whole) := ⟨rfl, rfl, rfl, by decide +kernel, rfl, by decide +kernel, by decide +kernel⟩
-- slots: 0:~thing
def spWhole : Sp := fun vs H Q _ => ∃ v : V, vs = [v] ∧ scI v = true ∧ RetV (.bl (isI v && !isB v)) H Q
theorem ok_l_whole (F : At K "_law_whole" "_law_whole" s_l_whole f fd) (T : Tx K mg) : FnOk P w K mg base CX 1 f fd ["_law_thing"] spWhole := by
  refine F.ok sc_l_whole (fun vs H Q E h => ?_) (fun cdv A outer s H vs Q E hr h => ?_)
  · obtain ⟨v, rfl, _⟩ := h
    rfl
  obtain ⟨v, rfl, hs, q⟩ := h
  refine ⟨_, PSs.nox (pss_one (ps_ret (pe_and (pe_callB (cisi (K := K)) (by rfl) T.m_isinstance (by decide +kernel) (pa_cons (pv 0) (pa_cons (pe_bltn (v := .ty "int") (by rfl) T.m_int (by decide +kernel) rfl) pa_nil))) (pe_one (pe_not (pe_callB (cisi (K := K)) (by rfl) T.m_isinstance (by decide +kernel) (pa_cons (pv 0) (pa_cons (pe_bltn (v := .ty "bool") (by rfl) T.m_bool (by decide +kernel) rfl) pa_nil)))))))), ?_⟩
  exact s_ret (ev_andV (ev_isI (ev_var rfl) hs) fun _ => ev_notV (ev_isB (ev_var rfl) hs)) q
/-! ## KL1: ### _law_power -/
abbrev nl_l_power : List Str := ["_law_base", "_law_exponent", "_law_total", "_law_k"]
theorem sc_l_power : FnScope nl_l_power ["_law_base", "_law_exponent"] (defScope s_l_power) := ⟨rfl, rfl, rfl, by decide +kernel, rfl, by decide +kernel, by decide +kernel⟩
-- slots: 0:~base 1:~exponent 2:~total 3:~k
def spPower : Sp := fun vs H Q _ => ∃ b e : Nat, vs = [.int (b : Int), .int (e : Int)] ∧ b ≤ 1000 ∧ e ≤ 1000 ∧ RetV (.int ((b ^ e : Nat) : Int)) H Q
theorem ok_l_power (F : At K "_law_power" "_law_power" s_l_power f fd) (T : Tx K mg) : FnOk P w K mg base CX 1 f fd ["_law_base", "_law_exponent"] spPower := by
  refine F.ok sc_l_power (fun vs H Q E h => ?_) (fun cdv A outer s H vs Q E hr h => ?_)
  · obtain ⟨b, e, rfl, _⟩ := h
    rfl
  obtain ⟨b, e, rfl, hb, he, q⟩ := h
  refine ⟨_, PSs.nox (pss_cons (ps_set (i := 2) sc_l_power.nd rfl (by first | exact Or.inl rfl | exact Or.inr rfl) pe_int)
    (pss_cons (ps_for PassesOwn.never rfl (pi_range1 (by rfl) T.m_range (pa_cons (pv 1) pa_nil)) (pg_name (i := 3) sc_l_power.nd rfl (by first | exact Or.inl rfl | exact Or.inr rfl))
      (pss_one (ps_set (i := 2) sc_l_power.nd rfl (by first | exact Or.inl rfl | exact Or.inr rfl) (pe_op op_mul (pv 2) (pv 0)))))
    (pss_one (ps_ret (pv 2))))), ?_⟩
  refine q_asg (v := .int 1) ev_c fun H1 e1 => ?_
  refine q_forR1 (n := (e : Int)) (ea_cons (ev_var rfl) ea_nil) (by omega) (fun i σ' H' => Ex H H' ∧ ∃ v, σ' = [some (.int (b : Int)), some (.int (e : Int)), some (.int ((b ^ i : Nat) : Int)), v]) (fun H2 e2 => ⟨e1.trans e2, none, rfl⟩) (fun i σ' H' hi hP => ?_) (fun σ' H' hP => ?_)
  · obtain ⟨e2, v, rfl⟩ := hP
    refine s_asg (v := .int ((b ^ (i + 1) : Nat) : Int)) (ev_is (ev_mulC (ev_var rfl) (ev_var rfl) (by constructor <;> omega)) ?_) fun H3 e3 => ⟨e2.trans e3, _, rfl⟩
    rw [Nat.pow_succ]
    exact congrArg V.int (by rw [Int.natCast_mul])
  · obtain ⟨e2, v, rfl⟩ := hP
    have h1 : ((e : Int)).toNat = e := by omega
    rw [h1]
    exact s_ret (ev_var rfl) fun H3 e3 => q H3 (e2.trans e3)
/-! ## KL1: ### _law_of_mask -/
abbrev nl_l_of_mask : List Str := ["_law_mask", "_law_points", "_law_p"]
theorem sc_l_of_mask : FnScope nl_l_of_mask ["_law_mask", "_law_points"] (defScope s_l_of_mask) := ⟨rfl, rfl, rfl, by decide +kernel, rfl, by decide +kernel, by decide +kernel⟩
-- slots: 0:~mask 1:~points 2:~p
def spMask : Sp := fun vs H Q _ => ∃ (m pts : Nat), vs = [.int (m : Int), .int (pts : Int)] ∧ pts ≤ 4 ∧ m < 2 ^ pts ∧ (∀ p H2, H p = none → Ex H H2 → H2 p = some (.tup (intsV (bits m))) → Q (.ref p) H2)
theorem ok_l_of_mask {f1 : Addr} {d1 : FuncData} (h_l_power : Has P w K mg base CX0 1 "_law_power" ["_law_base", "_law_exponent"] spPower f1 d1) (F : At K "_law_of_mask" "_law_of_mask" s_l_of_mask f fd) (T : Tx K mg) : FnOk P w K mg base CX 2 f fd ["_law_mask", "_law_points"] spMask := by
  refine F.ok sc_l_of_mask (fun vs H Q E h => ?_) (fun cdv A outer s H vs Q E hr h => ?_)
  · obtain ⟨m, pts, rfl, _⟩ := h
    rfl
  obtain ⟨m, pts, rfl, hp, hm, q⟩ := h
  refine ⟨_, PSs.nox (pss_one (ps_ret (pe_callTy (ctup (K := K)) (by rfl) T.m_tuple (by decide +kernel) (pa_cons (pe_lc (own := [("_law_p", 2)]) (g := gName 2) rfl sc_l_of_mask.nd (pi_range1 (by rfl) T.m_range (pa_cons (pv 1) pa_nil)) (blkOk_by (N := nl_l_of_mask) (sc := (defScope s_l_of_mask)) (by decide +kernel)) (fun _ _ _ _ _ => pg_name (i := 2) sc_l_of_mask.nd rfl (by first | exact Or.inl rfl | exact Or.inr rfl)) (by intro _ _ _ _ _; exact pts_one (pt_cmpR op_eq (pe_op op_mod (pe_callTy call_int1 (by rfl) T.m_int (by decide +kernel) (pa_cons (pe_op op_fdiv (pe_callTy call_int1 (by rfl) T.m_int (by decide +kernel) (pa_cons (pv 0) pa_nil)) (pe_call h_l_power.ok (hr.mono (by decide)) rfl h_l_power.g h_l_power.kp h_l_power.b .nil pass0 (pa_cons pe_int (pa_cons (pv 2) pa_nil)))) pa_nil)) pe_int) pe_int (nomark _))) (by intro _ _ _ _ _; exact (pv 2))) pa_nil)))), ?_⟩
  refine s_retU (xs := intsV (bits m)) (eu_tupN ?_) q
  rw [← bits_of hp hm]
  refine el_lcR (fun p => m / 2 ^ p % 2 == 1) (fun z => V.int ((z : Nat) : Int)) (ea_cons (ev_var rfl) ea_nil) (by omega) (fun _ => rfl) (fun k H1 e1 hk => et_test ?_) fun k H1 e1 hk _ => ev_var rfl
  have hpow : (2 ^ k : Nat) ≤ 16 := Nat.le_trans (Nat.pow_le_pow_right (n := 2) (j := 4) (by decide) (by omega)) (by decide)
  have hpos : 0 < (2 ^ k : Nat) := Nat.pow_pos (by decide)
  have h1 := ev_modC (i := (m : Int) / ((2 ^ k : Nat) : Int)) (c := 2) (σ := ((wipe (start nl_l_of_mask [V.int (m : Int), V.int (pts : Int)]) [2]).set 2 (some (V.int (k : Int))))) (H := H1)
    (ev_int (ea_cons (ev_divC (ev_int (ea_cons (ev_var (i := 0) rfl) ea_nil)) (ev_call (sp := spPower) (dvs := []) (E := E0) (ea_cons (ev_c (v := .int 2)) (ea_cons (ev_var (i := 2) rfl) ea_nil)) fun H2 e2 Q k2 E => ⟨2, k, rfl, by decide, by omega, fun H3 e3 => k2 H3 e3⟩) (by constructor <;> omega)) ea_nil)) (ev_c (v := .int 2)) (by decide)
  have e : (m : Int) / ((2 ^ k : Nat) : Int) % 2 = ((m / 2 ^ k % 2 : Nat) : Int) := by
    rw [← Int.natCast_ediv]
    omega
  rw [e] at h1
  exact ev_op h1 ev_c (by
    have h2 := rv_eqN (H := H1) (m / 2 ^ k % 2) 1
    rwa [show decide (m / 2 ^ k % 2 = 1) = (m / 2 ^ k % 2 == 1) from rfl] at h2)
/-! ## KL1: ### _law_take -/
abbrev nl_l_take : List Str := ["_law_hand_here", "_law_many", "_law_cell", "_law_rest"]
theorem sc_l_take : FnScope nl_l_take ["_law_hand_here", "_law_many"] (defScope s_l_take) := ⟨rfl, rfl, rfl, by decide +kernel, rfl, by decide +kernel, by decide +kernel⟩
-- slots: 0:~hand_here 1:~many 2:~cell 3:~rest
def spTake : Sp := fun vs H Q _ => ∃ (h c : Addr) (cs : List Int) (n : Nat), vs = [.ref h, .int (n : Int)] ∧ 1 ≤ n ∧ n < 1073741824 ∧ Hd H h c cs ∧ ∀ (r : Nat) H2, r < n → Kp H H2 → Hd H2 h c cs → Q (.int (r : Int)) H2
theorem hand_put {H : Hp} {h c : Addr} {cs : List Int} {p p' : Nat} {g m g' m' : Int} (h1 : H h = some (.lst [.ref c, .int (p : Int), .int g, .int m])) (h2 : H c = some (.lst (cs.map V.int))) :
    Kp H (upd H h (.lst [.ref c, .int (p' : Int), .int g', .int m'])) ∧ Hd (upd H h (.lst [.ref c, .int (p' : Int), .int g', .int m'])) h c cs := by
  have nc : c ≠ h := fun e => by
    rw [e, h1] at h2
    exact not_ints (cs := cs) ⟨c, p, g, m, by rw [← Option.some.inj h2, e]⟩
  refine ⟨⟨fun b o hb no => ?_, fun b hb => ?_⟩, ⟨p', g', m', upd_same⟩, by rw [upd_ne nc]; exact h2⟩
  rotate_left
  · by_cases e : b = h
    · rw [e, upd_same] at hb
      cases hb
    · rw [upd_ne e] at hb
      exact hb
  have nb : b ≠ h := fun e => by
    rw [e, h1] at hb
    exact no ⟨c, p, g, m, (Option.some.inj hb).symm⟩
  rw [upd_ne nb]
  exact hb
theorem mod_nat {i : Int} {n : Nat} (hn : 1 ≤ n) : ∃ r : Nat, r < n ∧ i % (n : Int) = (r : Int) := by
  have h1 := Int.emod_nonneg i (show (n : Int) ≠ 0 by omega)
  have h2 := Int.emod_lt_of_pos i (show (0 : Int) < (n : Int) by omega)
  exact ⟨(i % (n : Int)).toNat, by omega, by omega⟩
theorem ok_l_take {f1 : Addr} {d1 : FuncData} (h_l_mixed : Has P w K mg base CX0 1 "_law_mixed" ["_law_number", "_law_turn"] spMixed f1 d1) (F : At K "_law_take" "_law_take" s_l_take f fd) (T : Tx K mg) : FnOk P w K mg base CX 2 f fd ["_law_hand_here", "_law_many"] spTake := by
  refine F.ok sc_l_take (fun vs H Q E h => ?_) (fun cdv A outer s H vs Q E hr h => ?_)
  · obtain ⟨h, c, cs, n, rfl, _⟩ := h
    rfl
  obtain ⟨h, c, cs, n, rfl, hn1, hn2, ⟨⟨p, g, m, hh⟩, hc⟩, q⟩ := h
  refine ⟨_, PSs.nox (pss_cut (ps_if (PW.pt (pw_and (pt_cmpR op_eq (pe_ix (ixq (K := K)) (pv 0) pe_int (fun _ _ => rfl)) pe_int (nomark _)) (pw_and1 (pt_cmpR op_lt (pe_ix (ixq (K := K)) (pv 0) pe_int (fun _ _ => rfl)) (pe_callB (clen (K := K)) (by rfl) T.m_len (by decide +kernel) (pa_cons (pe_ix (ixq (K := K)) (pv 0) pe_int (fun _ _ => rfl)) pa_nil)) (nomark _)))))
      (pss_cons (ps_set (i := 2) sc_l_take.nd rfl (by first | exact Or.inl rfl | exact Or.inr rfl) (pe_ix (ixq (K := K)) (pe_ix (ixq (K := K)) (pv 0) pe_int (fun _ _ => rfl)) (pe_ix (ixq (K := K)) (pv 0) pe_int (fun _ _ => rfl)) (fun _ _ => rfl)))
      (pss_cons (ps_asg (pe_op op_add (pe_ix (ixq (K := K)) (pv 0) pe_int (fun _ _ => rfl)) pe_int) (pg_sub (pv 0) pe_int set_list))
      (pss_cons (ps_if (pt_cmpR op_lt (pv 2) (pe_op op_pow pe_int pe_int) (nomark _))
        (pss_one (ps_ret (pe_op op_mod (pe_callTy call_int1 (by rfl) T.m_int (by decide +kernel) (pa_cons (pe_call h_l_mixed.ok (hr.mono (by decide)) rfl h_l_mixed.g h_l_mixed.kp h_l_mixed.b .nil pass0 (pa_cons (pe_op op_mod (pe_callTy call_int1 (by rfl) T.m_int (by decide +kernel) (pa_cons (pv 2) pa_nil)) pe_int) (pa_cons (pe_ix (ixq (K := K)) (pv 0) pe_int (fun _ _ => rfl)) pa_nil))) pa_nil)) (pv 1))))
        pss_nil)
      (pss_one (ps_asg (pv 2) (pg_sub (pv 0) pe_int set_list))))))
      pss_nil)
    (pss_cons (ps_if (pt_cmpR op_gt (pe_ix (ixq (K := K)) (pv 0) pe_int (fun _ _ => rfl)) pe_int (nomark _))
      (pss_cons (ps_set (i := 3) sc_l_take.nd rfl (by first | exact Or.inl rfl | exact Or.inr rfl) (pe_ix (ixq (K := K)) (pv 0) pe_int (fun _ _ => rfl)))
      (pss_cons (ps_asg (pe_op op_fdiv (pe_callTy call_int1 (by rfl) T.m_int (by decide +kernel) (pa_cons (pv 3) pa_nil)) (pv 1)) (pg_sub (pv 0) pe_int set_list))
      (pss_one (ps_ret (pe_op op_mod (pe_callTy call_int1 (by rfl) T.m_int (by decide +kernel) (pa_cons (pv 3) pa_nil)) (pv 1))))))
      pss_nil)
    (pss_cons (ps_asg (pe_op op_mod (pe_callTy call_int1 (by rfl) T.m_int (by decide +kernel) (pa_cons (pe_op op_add (pe_ix (ixq (K := K)) (pv 0) pe_int (fun _ _ => rfl)) pe_int) pa_nil)) pe_int) (pg_sub (pv 0) pe_int set_list))
    (pss_one (ps_ret (pe_op op_mod (pe_callTy call_int1 (by rfl) T.m_int (by decide +kernel) (pa_cons (pe_call h_l_mixed.ok (hr.mono (by decide)) rfl h_l_mixed.g h_l_mixed.kp h_l_mixed.b .nil pass0 (pa_cons (pe_ix (ixq (K := K)) (pv 0) pe_int (fun _ _ => rfl)) (pa_cons (pe_ix (ixq (K := K)) (pv 0) pe_int (fun _ _ => rfl)) pa_nil))) pa_nil)) (pv 1))))))), ?_⟩
  refine q_cut (M := fun σ' H' => (∃ v2 v3, σ' = [some (.ref h), some (.int (n : Int)), v2, v3]) ∧ Kp H H' ∧ ∃ (p : Nat) (g m : Int), H' h = some (.lst [.ref c, .int (p : Int), .int g, .int m]) ∧ H' c = some (.lst (cs.map V.int))) ?_ (fun σ' H' hM => ?_)
  · refine s_when (b := decide (V.int g = V.int 0) && decide ((p : Int) < ((cs.map V.int).length : Int))) (et_and (et_test (ev_op (ev_xL (i := 2) (ev_var rfl) ev_c hh rfl) ev_c (rv_eq rfl))) fun _ => et_test (ev_op (ev_xL (i := 1) (ev_var rfl) ev_c hh rfl) (ev_lenL (ea_cons (ev_xL (i := 0) (ev_var rfl) ev_c hh rfl) ea_nil) hc) rv_I0)) (fun cc H1 e1 => ?_) (fun cc H1 e1 => ⟨⟨_, _, rfl⟩, .of e1, p, g, m, e1 _ _ hh, e1 _ _ hc⟩)
    have hp : p < cs.length := by
      have := of_decide_eq_true (Bool.and_eq_true_iff.mp cc).2
      rw [List.length_map] at this
      omega
    have hcell : (cs.map V.int)[p]? = some (.int (cs[p])) := by rw [List.getElem?_map, List.getElem?_eq_getElem hp]; rfl
    have hh1 := e1 _ _ hh
    have hc1 := e1 _ _ hc
    refine q_asg (v := .int (cs[p])) (ev_xL (ev_xL (i := 0) (ev_var rfl) ev_c hh1 rfl) (ev_xL (i := 1) (ev_var rfl) ev_c hh1 rfl) hc1 hcell) fun H2 e2 => ?_
    have hh2 := e2 _ _ hh1
    have hc2 := e2 _ _ hc1
    refine q_setL (j := 1) (v := .int ((p + 1 : Nat) : Int)) hh2 (ev_addI (ev_xL (i := 1) (ev_var rfl) ev_c hh2 rfl) ev_c) (ev_var rfl) ev_c (by simp) fun H3 e3 => ?_
    obtain ⟨k3, hd3⟩ := hand_put (p' := p + 1) (g' := g) (m' := m) (e3 _ _ hh2) (e3 _ _ hc2)
    have K3 : Kp H (upd H3 h (.lst [.ref c, .int ((p + 1 : Nat) : Int), .int g, .int m])) := (Kp.of ((e1.trans e2).trans e3)).trans k3
    have hh3 : upd H3 h (.lst [.ref c, .int ((p + 1 : Nat) : Int), .int g, .int m]) h = some (.lst [.ref c, .int ((p + 1 : Nat) : Int), .int g, .int m]) := upd_same
    have hc3 := k3.kp _ _ (e3 _ _ hc2) not_ints
    show tSeq _ _ _ _ (upd H3 h (.lst [.ref c, .int ((p + 1 : Nat) : Int), .int g, .int m]))
    generalize upd H3 h (.lst [.ref c, .int ((p + 1 : Nat) : Int), .int g, .int m]) = G3 at *
    refine q_when (b := decide (cs[p] < 10 ^ (18 : Int).toNat)) (et_test (ev_op (ev_var rfl) (ev_op ev_c ev_c (rv_I ⟨by decide, by decide, by decide⟩)) rv_I0)) (fun _ H4 e4 => ?_) (fun _ H4 e4 => ?_)
    · obtain ⟨r, hr1, hr2⟩ := mod_nat (i := mixF (cs[p] % 2147483399) ((p + 1 : Nat) : Int)) hn1
      refine s_ret (v := .int (r : Int)) (ev_is (ev_modC (ev_int (ea_cons (ev_call (ea_cons (ev_modC (ev_int (ea_cons (ev_var rfl) ea_nil)) ev_c (by decide)) (ea_cons (ev_xL (i := 1) (ev_var rfl) ev_c (e4 _ _ hh3) rfl) ea_nil)) fun H5 e5 Q k E => ⟨_, _, rfl, fun H6 e6 => k H6 e6⟩) ea_nil)) (ev_var rfl) (by omega)) (congrArg V.int hr2)) fun H5 e5 => ?_
      exact q r H5 hr1 (K3.ex (e4.trans e5)) (hd3.ex (e4.trans e5))
    · refine s_setL (j := 2) (v := .int cs[p]) (e4 _ _ hh3) (ev_var rfl) (ev_var rfl) ev_c (by simp) fun H5 e5 => ?_
      obtain ⟨k5, hd5⟩ := hand_put (p' := p + 1) (g' := cs[p]) (m' := m) (e5 _ _ (e4 _ _ hh3)) (e5 _ _ (e4 _ _ hc3))
      exact ⟨⟨_, _, rfl⟩, (K3.ex (e4.trans e5)).trans k5, p + 1, cs[p], m, upd_same, k5.kp _ _ (e5 _ _ (e4 _ _ hc3)) not_ints⟩
  obtain ⟨⟨v2, v3, rfl⟩, k0, p, g, m, hh, hc⟩ := hM
  refine q_when (b := decide (0 < g)) (et_test (ev_op (ev_xL (i := 2) (ev_var rfl) ev_c hh rfl) ev_c rv_I0)) (fun _ H1 e1 => ?_) (fun _ H1 e1 => ?_)
  · have hh1 := e1 _ _ hh
    have hc1 := e1 _ _ hc
    refine q_asg (v := .int g) (ev_xL (i := 2) (ev_var rfl) ev_c hh1 rfl) fun H2 e2 => ?_
    refine q_setL (j := 2) (v := .int (g / (n : Int))) (e2 _ _ hh1) (ev_divC (ev_int (ea_cons (ev_var rfl) ea_nil)) (ev_var rfl) (by constructor <;> omega)) (ev_var rfl) ev_c (by simp) fun H3 e3 => ?_
    obtain ⟨k3, hd3⟩ := hand_put (p' := p) (g' := g / (n : Int)) (m' := m) (e3 _ _ (e2 _ _ hh1)) (e3 _ _ (e2 _ _ hc1))
    obtain ⟨r, hr1, hr2⟩ := mod_nat (i := g) hn1
    refine s_ret (v := .int (r : Int)) (ev_is (ev_modC (ev_int (ea_cons (ev_var rfl) ea_nil)) (ev_var rfl) (by omega)) (congrArg V.int hr2)) fun H4 e4 => ?_
    exact q r H4 hr1 (((k0.ex ((e1.trans e2).trans e3)).trans k3).ex e4) (Hd.ex hd3 e4)
  · have hh1 := e1 _ _ hh
    have hc1 := e1 _ _ hc
    refine q_setL (j := 3) (v := .int ((m + 1) % 2147483549)) hh1 (ev_modC (ev_int (ea_cons (ev_addI (ev_xL (i := 3) (ev_var rfl) ev_c hh1 rfl) ev_c) ea_nil)) ev_c (by decide)) (ev_var rfl) ev_c (by simp) fun H3 e3 => ?_
    obtain ⟨k3, hd3⟩ := hand_put (p' := p) (g' := g) (m' := (m + 1) % 2147483549) (e3 _ _ hh1) (e3 _ _ hc1)
    have hh3 : upd H3 h (.lst [.ref c, .int (p : Int), .int g, .int ((m + 1) % 2147483549)]) h = some (.lst [.ref c, .int (p : Int), .int g, .int ((m + 1) % 2147483549)]) := upd_same
    obtain ⟨r, hr1, hr2⟩ := mod_nat (i := mixF ((m + 1) % 2147483549) (p : Int)) hn1
    refine s_ret (v := .int (r : Int)) (ev_is (ev_modC (ev_int (ea_cons (ev_call (ea_cons (ev_xL (i := 3) (ev_var rfl) ev_c hh3 rfl) (ea_cons (ev_xL (i := 1) (ev_var rfl) ev_c hh3 rfl) ea_nil)) fun H5 e5 Q k E => ⟨_, _, rfl, fun H6 e6 => k H6 e6⟩) ea_nil)) (ev_var rfl) (by omega)) (congrArg V.int hr2)) fun H4 e4 => ?_
    exact q r H4 hr1 (((k0.ex (e1.trans e3)).trans k3).ex e4) (Hd.ex hd3 e4)
end
end KM

/-! ## KAcc: lists of new objects that grow; in, not in of ints; a + b of tuples and of lists -/
namespace KM
open PySem PySem.Spec PyProof.Rows L2 Evl
/-- the list at D, new since H0, holds new objects of the kind m with these contents -/
def Acc (m : List V → HO) (H0 : Hp) (D : Addr) (rows : List (List V)) (H : Hp) : Prop := H0 D = none ∧ Ex H0 H ∧ ∃ as : List Addr, as.length = rows.length ∧ H D = some (.lst (as.map V.ref)) ∧ Paired (fun b r => b ≠ D ∧ H b = some (m r)) as rows
theorem Acc.nil {m : List V → HO} {H0 H : Hp} {D : Addr} (h0 : H0 D = none) (e : Ex H0 H) (h : H D = some (.lst [])) : Acc m H0 D [] H := ⟨h0, e, [], rfl, h, .nil⟩
theorem Acc.ex {m : List V → HO} {H0 H H' : Hp} {D : Addr} {rows : List (List V)} (c : Acc m H0 D rows H) (e : Ex H H') : Acc m H0 D rows H' := by
  obtain ⟨c1, c2, as, c3, c4, c5⟩ := c
  exact ⟨c1, c2.trans e, as, c3, e _ _ c4, Paired.imp2 c5 fun b r _ z => ⟨z.1, e _ _ z.2⟩⟩
theorem Acc.s2 {m : List V → HO} {H0 H : Hp} {D : Addr} {rows : List (List V)} (c : Acc m H0 D rows H) : S2 .lst m H D rows := by
  obtain ⟨_, _, as, _, c4, c5⟩ := c
  exact ⟨as, c4, Paired.imp2 c5 fun _ _ _ z => z.2⟩
/-- another object changes, one that no row is -/
theorem Acc.kx {m : List V → HO} {H0 H H' : Hp} {D x : Addr} {rows : List (List V)} (c : Acc m H0 D rows H) (e : Ex H0 H') (k : Kx x H H') (hD : D ≠ x) (hr : ∀ r, r ∈ rows → H x ≠ some (m r)) : Acc m H0 D rows H' := by
  obtain ⟨c1, c2, as, c3, c4, c5⟩ := c
  exact ⟨c1, e, as, c3, k _ _ hD c4, Paired.imp2 c5 fun b r hr' z => ⟨z.1, k _ _ (fun q => hr r hr' (by rw [← q]; exact z.2)) z.2⟩⟩
section
variable {K : PySem.W.Frag} {σ : L2.St} {H H' H0 : Hp} {ta tb tc te tx tl tv : TE} {t u : TT} {x y z v : V} {tr : TA} {D : Ends} {tu tz : TS} {m : List V → HO} {Dl : Addr} {rows rows' : List (List V)} {r : List V}
/-- D.append(a new object) -/
theorem s_appA (c : Acc m H0 Dl rows H) (hz : rows.length < 100000) (ha : Ev ta σ H (.ref Dl)) (h : EvN m te σ H r) (k : ∀ H1, Acc m H0 Dl (rows ++ [r]) H1 → Kx Dl H H1 → D.nx σ H1) : tDrop (tBM K "list" rAppend ta (tCons te tNil)) D σ H := by
  obtain ⟨c1, c2, as, c3, c4, c5⟩ := c
  refine ha H (Ex.refl H) _ fun H1 e1 => ⟨Or.inl ⟨rfl, _, sq_of (e1 _ _ c4)⟩, h H1 e1 _ fun p H2 hp e2 h2 => ⟨Dl, _, .ref p, rfl, rfl, e2 _ _ (e1 _ _ c4), sz_lt (by rw [List.length_map]; omega), k _ ?_ ?_⟩⟩
  · have np : p ≠ Dl := fun q => by
      rw [q, e1 _ _ c4] at hp
      cases hp
    refine ⟨c1, Ex.mut (c2.trans (e1.trans e2)) c1, as ++ [p], by rw [List.length_append, List.length_append, c3]; rfl, by rw [upd_same, List.map_append]; rfl, Paired.snoc (Paired.imp2 c5 fun b r _ z => ⟨z.1, ?_⟩) ⟨np, ?_⟩⟩
    · rw [upd_ne z.1]
      exact e2 _ _ (e1 _ _ z.2)
    · rw [upd_ne np]
      exact h2
  · exact fun b o hb ho => by
      rw [upd_ne hb]
      exact e2 _ _ (e1 _ _ ho)
theorem q_appA (c : Acc m H0 Dl rows H) (hz : rows.length < 100000) (ha : Ev ta σ H (.ref Dl)) (h : EvN m te σ H r) (k : ∀ H1, Acc m H0 Dl (rows ++ [r]) H1 → Kx Dl H H1 → tz D σ H1) : tSeq (tDrop (tBM K "list" rAppend ta (tCons te tNil))) tz D σ H :=
  s_appA (D := { D with nx := tz D }) c hz ha h k
/-! ## KAcc: ### in, not in of ints -/
theorem inV_ints (q : Nat) (l : List Nat) : inV (.int (q : Int)) (intsV l) = l.contains q := by
  unfold inV intsV
  rw [List.any_map]
  induction l with
  | nil => rfl
  | cons a r ih =>
    rw [List.any_cons, ih, List.contains_cons]
    congr 1
    show decide ((a : Int) = (q : Int)) = (q == a)
    by_cases c : q = a
    · subst c
      rw [decide_eq_true rfl, beq_self_eq_true]
    · rw [decide_eq_false (by omega)]
      exact (beq_eq_false_iff_ne.mpr c).symm
theorem flat_ints (l : List Nat) : (intsV l).all flatV = true := by
  unfold intsV
  rw [List.all_map]
  exact List.all_eq_true.mpr fun _ _ => rfl
theorem ev_niT {a : Addr} {l : List Nat} {q : Nat} (h1 : Ev ta σ H (.int (q : Int))) (h2 : Ev tb σ H (.ref a)) (h : H a = some (.tup (intsV l))) : Ev (tOp (rIn K true) ta tb) σ H (.bl (!l.contains q)) := by
  rw [← inV_ints]
  exact ev_op h1 h2 (rv_niT (SqT.of h) rfl (flat_ints l))
theorem ev_inT {a : Addr} {l : List Nat} {q : Nat} (h1 : Ev ta σ H (.int (q : Int))) (h2 : Ev tb σ H (.ref a)) (h : H a = some (.tup (intsV l))) : Ev (tOp (rIn K false) ta tb) σ H (.bl (l.contains q)) := by
  rw [← inV_ints]
  exact ev_op h1 h2 (rv_isT (SqT.of h) rfl (flat_ints l))
/-- t + (e,), the second tuple made on the way -/
theorem eu_cat1 {a : Addr} {xs : List V} (h1 : Ev ta σ H (.ref a)) (h : H a = some (.tup xs)) (hz : xs.length < 10000) (h2 : EvA tr σ H [v]) : EvN .tup (tOp (rCatA K) ta (tTup tr)) σ H (xs ++ [v]) := fun H1 e Q q =>
  h1 H1 e _ fun H2 e2 => h2 H2 (e.trans e2) _ fun H3 e3 => ⟨by show 1 ≤ sizeLine; decide, fun p hp => ⟨a, p, xs, [v], rfl, rfl, SqT.of (by
      rw [upd_ne (ne_of_none (((e.trans e2).trans e3) _ _ h) hp)]
      exact ((e.trans e2).trans e3) _ _ h), SqT.of upd_same, sz_of (by rw [List.length_singleton]; omega), fun hx => by
        subst hx
        exact q p _ (fresh_back (e2.trans e3) hp) ((e2.trans e3).trans (Ex.new hp)) upd_same, fun _ c => (by cases c), fun _ _ p2 hp2 => q p2 _ (fresh_back ((e2.trans e3).trans (Ex.new hp)) hp2) (((e2.trans e3).trans (Ex.new hp)).trans (Ex.new hp2)) upd_same⟩⟩
theorem Paired.app {α β : Type} {R : α → β → Prop} : ∀ {xs xs' : List α} {ys ys' : List β}, Paired R xs ys → Paired R xs' ys' → Paired R (xs ++ xs') (ys ++ ys')
  | _, _, _, _, .nil, h => h
  | _, _, _, _, .cons a t, h => .cons a (Paired.app t h)
/-- a + b of lists of objects -/
theorem es_cat {a b : Addr} (h1 : Ev ta σ H (.ref a)) (h2 : Ev tb σ H (.ref b)) (s1 : S2 .lst m H a rows) (s2 : S2 .lst m H b rows') (hz : rows.length + rows'.length ≤ 10000) : EvS .lst m (tOp rCat ta tb) σ H (rows ++ rows') := fun H1 e Q q =>
  h1 H1 e _ fun H2 e2 => h2 H2 (e.trans e2) _ fun H3 e3 => by
    obtain ⟨as, p1, p2⟩ := s1.ex ((e.trans e2).trans e3)
    obtain ⟨bs, q1, q2⟩ := s2.ex ((e.trans e2).trans e3)
    have l1 := Paired.length p2
    have l2 := Paired.length q2
    refine ⟨a, b, _, _, rfl, rfl, p1, q1, sz_of (by rw [List.length_map, List.length_map]; omega), fun p hp => q p _ (fresh_back (e2.trans e3) hp) ((e2.trans e3).trans (Ex.new hp)) ⟨as ++ bs, by rw [upd_same, List.map_append], Paired.app (Paired.imp2 p2 fun c r _ z => ?_) (Paired.imp2 q2 fun c r _ z => ?_)⟩⟩
    · rw [upd_ne (ne_of_none z hp)]
      exact z
    · rw [upd_ne (ne_of_none z hp)]
      exact z
end
end KM

/-! ## KL2: the law's helpers: bounds, lattices, lower sets -/
namespace KM
open PySem PySem.Spec PyProof.Rows L2 Evl
section
variable {P : Program} {w : World} {K : PySem.W.Frag} {mg : Str → Option Value} {base : Heap} {CX : CXT} {f : Addr} {fd : FuncData}
/-! ## KL2: ### _law_bound -/
abbrev nl_l_bound : List Str := ["_law_table", "_law_size", "_law_x", "_law_y", "_law_up", "_law_both", "_law_z", "_law_w"]
theorem sc_l_bound : FnScope nl_l_bound ["_law_table", "_law_size", "_law_x", "_law_y", "_law_up"] (defScope s_l_bound) := ⟨rfl, rfl, rfl, by decide +kernel, rfl, by decide +kernel, by decide +kernel⟩
-- slots: 0:~table 1:~size 2:~x 3:~y 4:~up 5:~both 6:~z 7:~w
def spLBound : Sp := fun vs H Q _ => ∃ (a : Addr) (L : Lt) (x y : Nat) (up : Bool), vs = [.ref a, .int (L.n : Int), .int (x : Int), .int (y : Int), .bl up] ∧ L.n ≤ 16 ∧ S2 .lst .lst H a (tblV L) ∧ x < L.n ∧ y < L.n ∧ L.lubs x y ≠ [] ∧ L.dual.lubs x y ≠ [] ∧ RetV (.int (((if up then L.jn x y else L.mt x y) : Nat) : Int)) H Q
theorem ups_len {L : Lt} {x y : Nat} (h : L.n ≤ 16) : (L.ups x y).length ≤ 16 := Nat.le_trans (List.length_filter_le _ _) (by rw [List.length_range]; exact h)
theorem ok_l_bound (F : At K "_law_bound" "_law_bound" s_l_bound f fd) (T : Tx K mg) : FnOk P w K mg base CX 1 f fd ["_law_table", "_law_size", "_law_x", "_law_y", "_law_up"] spLBound := by
  refine F.ok sc_l_bound (fun vs H Q E h => ?_) (fun cdv A outer s H vs Q E hr h => ?_)
  · obtain ⟨a, L, x, y, up, rfl, _⟩ := h
    rfl
  obtain ⟨a, L, x, y, up, rfl, hn, hT, hx, hy, h1, h2, q⟩ := h
  refine ⟨_, PSs.nox (pss_cons (ps_if (pt_val (pv 4))
      (pss_cons (ps_set (i := 5) sc_l_bound.nd rfl (by first | exact Or.inl rfl | exact Or.inr rfl) (pe_lc (own := [("_law_z", 6)]) (g := gName 6) rfl sc_l_bound.nd (pi_range1 (by rfl) T.m_range (pa_cons (pv 1) pa_nil)) (blkOk_by (N := nl_l_bound) (sc := (defScope s_l_bound)) (by decide +kernel)) (fun _ _ _ _ _ => pg_name (i := 6) sc_l_bound.nd rfl (by first | exact Or.inl rfl | exact Or.inr rfl)) (by intro _ _ _ _ _; exact pts_one (PW.pt (pw_and (pt_val (pe_ix (ixq (K := K)) (pe_ix (ixq (K := K)) (pv 0) (pv 2) (fun _ _ => rfl)) (pv 6) (fun _ _ => rfl))) (pw_and1 (pt_val (pe_ix (ixq (K := K)) (pe_ix (ixq (K := K)) (pv 0) (pv 3) (fun _ _ => rfl)) (pv 6) (fun _ _ => rfl))))))) (by intro _ _ _ _ _; exact (pv 6))))
      (pss_one (ps_ret (pe_ix (ixq (K := K)) (pe_lc (own := [("_law_z", 6)]) (g := gName 6) rfl sc_l_bound.nd (piL (K := K) (pv 5)) (blkOk_by (N := nl_l_bound) (sc := (defScope s_l_bound)) (by decide +kernel)) (fun _ _ _ _ _ => pg_name (i := 6) sc_l_bound.nd rfl (by first | exact Or.inl rfl | exact Or.inr rfl)) (by intro _ _ _ _ _; exact pts_one (pt_cmpR op_eq (pe_callB (clen (K := K)) (by rfl) T.m_len (by decide +kernel) (pa_cons (pe_lc (own := [("_law_w", 7)]) (g := gName 7) rfl sc_l_bound.nd (piL (K := K) (pv 5)) (blkOk_by (N := nl_l_bound) (sc := (relS _ (defScope s_l_bound))) (by decide +kernel)) (fun _ _ _ _ _ => pg_name (i := 7) sc_l_bound.nd rfl (by first | exact Or.inl rfl | exact Or.inr rfl)) (by intro _ _ _ _ _; exact pts_one (pt_val (pe_ix (ixq (K := K)) (pe_ix (ixq (K := K)) (pv 0) (pv 6) (fun _ _ => rfl)) (pv 7) (fun _ _ => rfl)))) (by intro _ _ _ _ _; exact (pv 7))) pa_nil)) (pe_callB (clen (K := K)) (by rfl) T.m_len (by decide +kernel) (pa_cons (pv 5) pa_nil)) (nomark _))) (by intro _ _ _ _ _; exact (pv 6))) pe_int (fun _ _ => rfl)))))
      pss_nil)
    (pss_cons (ps_set (i := 5) sc_l_bound.nd rfl (by first | exact Or.inl rfl | exact Or.inr rfl) (pe_lc (own := [("_law_z", 6)]) (g := gName 6) rfl sc_l_bound.nd (pi_range1 (by rfl) T.m_range (pa_cons (pv 1) pa_nil)) (blkOk_by (N := nl_l_bound) (sc := (defScope s_l_bound)) (by decide +kernel)) (fun _ _ _ _ _ => pg_name (i := 6) sc_l_bound.nd rfl (by first | exact Or.inl rfl | exact Or.inr rfl)) (by intro _ _ _ _ _; exact pts_one (PW.pt (pw_and (pt_val (pe_ix (ixq (K := K)) (pe_ix (ixq (K := K)) (pv 0) (pv 6) (fun _ _ => rfl)) (pv 2) (fun _ _ => rfl))) (pw_and1 (pt_val (pe_ix (ixq (K := K)) (pe_ix (ixq (K := K)) (pv 0) (pv 6) (fun _ _ => rfl)) (pv 3) (fun _ _ => rfl))))))) (by intro _ _ _ _ _; exact (pv 6))))
    (pss_one (ps_ret (pe_ix (ixq (K := K)) (pe_lc (own := [("_law_z", 6)]) (g := gName 6) rfl sc_l_bound.nd (piL (K := K) (pv 5)) (blkOk_by (N := nl_l_bound) (sc := (defScope s_l_bound)) (by decide +kernel)) (fun _ _ _ _ _ => pg_name (i := 6) sc_l_bound.nd rfl (by first | exact Or.inl rfl | exact Or.inr rfl)) (by intro _ _ _ _ _; exact pts_one (pt_cmpR op_eq (pe_callB (clen (K := K)) (by rfl) T.m_len (by decide +kernel) (pa_cons (pe_lc (own := [("_law_w", 7)]) (g := gName 7) rfl sc_l_bound.nd (piL (K := K) (pv 5)) (blkOk_by (N := nl_l_bound) (sc := (relS _ (defScope s_l_bound))) (by decide +kernel)) (fun _ _ _ _ _ => pg_name (i := 7) sc_l_bound.nd rfl (by first | exact Or.inl rfl | exact Or.inr rfl)) (by intro _ _ _ _ _; exact pts_one (pt_val (pe_ix (ixq (K := K)) (pe_ix (ixq (K := K)) (pv 0) (pv 7) (fun _ _ => rfl)) (pv 6) (fun _ _ => rfl)))) (by intro _ _ _ _ _; exact (pv 7))) pa_nil)) (pe_callB (clen (K := K)) (by rfl) T.m_len (by decide +kernel) (pa_cons (pv 5) pa_nil)) (nomark _))) (by intro _ _ _ _ _; exact (pv 6))) pe_int (fun _ _ => rfl)))))), ?_⟩
  refine q_when (b := up) (et_B (ev_var rfl)) (fun hu H1 e1 => ?_) (fun hu H1 e1 => ?_)
  · subst hu
    have hT1 := hT.ex e1
    refine q_asgL (xs := intsV (L.ups x y)) (el_lcR (fun z => L.le x z && L.le y z) (fun z => V.int ((z : Nat) : Int)) (ea_cons (ev_var rfl) ea_nil) (by omega) (fun _ => rfl)
      (fun k H2 e2 hk => et_and (et_B (ev_tblL (ev_var rfl) (ev_var rfl) (ev_var rfl) (hT1.ex e2) hx hk)) fun _ => et_B (ev_tblL (ev_var rfl) (ev_var rfl) (ev_var rfl) (hT1.ex e2) hy hk)) fun k H2 e2 hk _ => ev_var rfl) fun p H2 hp e2 h2 => ?_
    have hlen := ups_len (x := x) (y := y) hn
    refine s_ret (v := .int ((L.jn x y : Nat) : Int)) (ev_x0 (xs := intsV (L.lubs x y)) ?_ (head_at h1)) fun H3 e3 => q H3 ((e1.trans e2).trans e3)
    refine el_lcI (l := L.ups x y) (fun z => (L.ups x y).all fun w => L.le z w) (fun z => V.int ((z : Nat) : Int)) (ev_var (i := 5) rfl) h2 (by omega) (fun _ => rfl) (fun k H3 e3 hk => ?_) fun k H3 e3 hk _ => ev_var rfl
    have hkn := (mem_ups.mp hk).1
    have hh := el_lcI (K := K) (l := L.ups x y) (j := 7) (vs := [7]) (σ := ((wipe ((start nl_l_bound [V.ref a, V.int (L.n : Int), V.int (x : Int), V.int (y : Int), V.bl true]).set 5 (some (V.ref p))) [6]).set 6 (some (V.int (k : Int))))) (H := H3) (t := tB (tOp (rIx K) (tOp (rIx K) (tVar 0) (tVar 6)) (tVar 7))) (te := tVar 7) (tl := tVar 5)
      (fun w => L.le k w) (fun z => V.int ((z : Nat) : Int)) (ev_var (i := 5) rfl) (e3 _ _ h2) (by omega) (fun _ => rfl) (fun w H4 e4 hw => et_B (ev_tblL (ev_var rfl) (ev_var rfl) (ev_var rfl) (((hT1.ex e2).ex e3).ex e4) hkn (mem_ups.mp hw).1)) fun w H4 e4 hw _ => ev_var rfl
    refine et_is (et_test (ev_op (ev_lenN hh) (ev_lenL (ea_cons (ev_var rfl) ea_nil) (e3 _ _ h2)) (rv_eqN _ _))) ?_
    rw [List.length_map, intsV_len, ← filter_len_all]
    exact decide_eq_decide.mpr (by omega)
  · subst hu
    have hT1 := hT.ex e1
    refine q_asgL (xs := intsV (L.dual.ups x y)) (el_lcR (fun z => L.le z x && L.le z y) (fun z => V.int ((z : Nat) : Int)) (ea_cons (ev_var rfl) ea_nil) (by show L.n ≤ 10000; omega) (fun _ => rfl)
      (fun k H2 e2 hk => et_and (et_B (ev_tblL (ev_var rfl) (ev_var rfl) (ev_var rfl) (hT1.ex e2) hk hx)) fun _ => et_B (ev_tblL (ev_var rfl) (ev_var rfl) (ev_var rfl) (hT1.ex e2) hk hy)) fun k H2 e2 hk _ => ev_var rfl) fun p H2 hp e2 h2' => ?_
    have hlen := ups_len (L := L.dual) (x := x) (y := y) hn
    refine s_ret (v := .int ((L.mt x y : Nat) : Int)) (ev_x0 (xs := intsV (L.dual.lubs x y)) ?_ (head_at h2)) fun H3 e3 => q H3 ((e1.trans e2).trans e3)
    refine el_lcI (l := L.dual.ups x y) (fun z => (L.dual.ups x y).all fun w => L.le w z) (fun z => V.int ((z : Nat) : Int)) (ev_var (i := 5) rfl) h2' (by omega) (fun _ => rfl) (fun k H3 e3 hk => ?_) fun k H3 e3 hk _ => ev_var rfl
    have hkn : k < L.n := (mem_ups.mp hk).1
    have hh := el_lcI (K := K) (l := L.dual.ups x y) (j := 7) (vs := [7]) (σ := ((wipe ((start nl_l_bound [V.ref a, V.int (L.n : Int), V.int (x : Int), V.int (y : Int), V.bl false]).set 5 (some (V.ref p))) [6]).set 6 (some (V.int (k : Int))))) (H := H3) (t := tB (tOp (rIx K) (tOp (rIx K) (tVar 0) (tVar 7)) (tVar 6))) (te := tVar 7) (tl := tVar 5)
      (fun w => L.le w k) (fun z => V.int ((z : Nat) : Int)) (ev_var (i := 5) rfl) (e3 _ _ h2') (by omega) (fun _ => rfl) (fun w H4 e4 hw => et_B (ev_tblL (ev_var rfl) (ev_var rfl) (ev_var rfl) (((hT1.ex e2).ex e3).ex e4) (mem_ups.mp hw).1 hkn)) fun w H4 e4 hw _ => ev_var rfl
    refine et_is (et_test (ev_op (ev_lenN hh) (ev_lenL (ea_cons (ev_var rfl) ea_nil) (e3 _ _ h2')) (rv_eqN _ _))) ?_
    rw [List.length_map, intsV_len, ← filter_len_all]
    exact decide_eq_decide.mpr (by omega)
/-! ## KL2: ### _law_lattice -/
abbrev nl_l_lattice : List Str := ["_law_sets", "_law_size", "_law_table", "_law_one", "_law_joins", "_law_meets", "_law_x", "_law_bottom", "_law_top", "_law_other", "_law_y"]
theorem sc_l_lattice : FnScope nl_l_lattice ["_law_sets"] (defScope s_l_lattice) := ⟨rfl, rfl, rfl, by decide +kernel, rfl, by decide +kernel, by decide +kernel⟩
-- slots: 0:~sets 1:~size 2:~table 3:~one 4:~joins 5:~meets 6:~x 7:~bottom 8:~top 9:~other 10:~y
def spLattice : Sp := fun vs H Q _ => ∃ (p : Addr) (F : List Nat), vs = [.ref p] ∧ Fam F ∧ F.length ≤ 16 ∧ FamH H p F ∧ ∀ q H2, H q = none → Ex H H2 → PL H2 q (latOf F) → Q (.ref q) H2
theorem fam_row {F : List Nat} {H : Hp} {p : Addr} (h : FamH H p F) : ∃ as : List Addr, H p = some (.lst (as.map V.ref)) ∧ as.length = F.length ∧ ∀ i, i < F.length → ∃ b, as[i]? = some b ∧ (as.map V.ref)[i]? = some (.ref b) ∧ H b = some (.tup (intsV (bits (at_ F i)))) := by
  obtain ⟨as, h1, h2⟩ := h
  refine ⟨as, h1, by rw [Paired.length h2, List.length_map], fun i hi => ?_⟩
  have hg : (F.map fun m => intsV (bits m))[i]? = some (intsV (bits (at_ F i))) := by
    unfold at_
    rw [List.getElem?_map, List.getD_eq_getElem?_getD, List.getElem?_eq_getElem hi]
    rfl
  obtain ⟨b, b1, b2⟩ := Paired.nth h2 hg
  exact ⟨b, b1, by rw [List.getElem?_map, b1]; rfl, b2⟩
theorem ok_l_lattice {f1 : Addr} {d1 : FuncData} (h_l_bound : Has P w K mg base CX0 1 "_law_bound" ["_law_table", "_law_size", "_law_x", "_law_y", "_law_up"] spLBound f1 d1) (F : At K "_law_lattice" "_law_lattice" s_l_lattice f fd) (T : Tx K mg) : FnOk P w K mg base CX 2 f fd ["_law_sets"] spLattice := by
  refine F.ok sc_l_lattice (fun vs H Q E h => ?_) (fun cdv A outer s H vs Q E hr h => ?_)
  · obtain ⟨p, G, rfl, _⟩ := h
    rfl
  obtain ⟨p, G, rfl, fam, h16, hF, q⟩ := h
  refine ⟨_, PSs.nox (pss_cons (ps_set (i := 1) sc_l_lattice.nd rfl (by first | exact Or.inl rfl | exact Or.inr rfl) (pe_callB (clen (K := K)) (by rfl) T.m_len (by decide +kernel) (pa_cons (pv 0) pa_nil)))
    (pss_cons (ps_set (i := 2) sc_l_lattice.nd rfl (by first | exact Or.inl rfl | exact Or.inr rfl) (pe_lst pa_nil))
    (pss_cons (ps_for PassesOwn.never rfl (piL (K := K) (pv 0)) (pg_name (i := 3) sc_l_lattice.nd rfl (by first | exact Or.inl rfl | exact Or.inr rfl))
      (pss_one (ps_expr (pe_bm PySem.F.plainAttrs_list PySem.F.slot_list_append PySem.F.type_list_append mt_append (pv 2) (pa_cons (pe_lc (own := [("_law_other", 9)]) (g := gName 9) (tt := tYes) rfl sc_l_lattice.nd (piL (K := K) (pv 0)) (blkOk_by (N := nl_l_lattice) (sc := (defScope s_l_lattice)) (by decide +kernel)) (fun _ _ _ _ _ => pg_name (i := 9) sc_l_lattice.nd rfl (by first | exact Or.inl rfl | exact Or.inr rfl)) (fun _ _ _ _ _ => pts_nil) (by intro _ _ _ _ _; exact (pe_cmpR op_eq (pe_callB (clen (K := K)) (by rfl) T.m_len (by decide +kernel) (pa_cons (pe_lc (own := [("_law_x", 6)]) (g := gName 6) rfl sc_l_lattice.nd (piT (K := K) (pv 3)) (blkOk_by (N := nl_l_lattice) (sc := (relS _ (defScope s_l_lattice))) (by decide +kernel)) (fun _ _ _ _ _ => pg_name (i := 6) sc_l_lattice.nd rfl (by first | exact Or.inl rfl | exact Or.inr rfl)) (by intro _ _ _ _ _; exact pts_one (pt_cmpR (onin (K := K)) (pv 6) (pv 9) (by with_unfolding_all rfl))) (by intro _ _ _ _ _; exact (pv 6))) pa_nil)) pe_int (nomark _)))) pa_nil)))))
    (pss_cons (ps_set (i := 4) sc_l_lattice.nd rfl (by first | exact Or.inl rfl | exact Or.inr rfl) (pe_lst pa_nil))
    (pss_cons (ps_set (i := 5) sc_l_lattice.nd rfl (by first | exact Or.inl rfl | exact Or.inr rfl) (pe_lst pa_nil))
    (pss_cons (ps_for PassesOwn.never rfl (pi_range1 (by rfl) T.m_range (pa_cons (pv 1) pa_nil)) (pg_name (i := 6) sc_l_lattice.nd rfl (by first | exact Or.inl rfl | exact Or.inr rfl))
      (pss_cons (ps_expr (pe_bm PySem.F.plainAttrs_list PySem.F.slot_list_append PySem.F.type_list_append mt_append (pv 4) (pa_cons (pe_lc (own := [("_law_y", 10)]) (g := gName 10) (tt := tYes) rfl sc_l_lattice.nd (pi_range1 (by rfl) T.m_range (pa_cons (pv 1) pa_nil)) (blkOk_by (N := nl_l_lattice) (sc := (defScope s_l_lattice)) (by decide +kernel)) (fun _ _ _ _ _ => pg_name (i := 10) sc_l_lattice.nd rfl (by first | exact Or.inl rfl | exact Or.inr rfl)) (fun _ _ _ _ _ => pts_nil) (by intro _ _ _ _ _; exact (pe_call h_l_bound.ok (hr.mono (by decide)) rfl h_l_bound.g h_l_bound.kp h_l_bound.b .nil pass0 (pa_cons (pv 2) (pa_cons (pv 1) (pa_cons (pv 6) (pa_cons (pv 10) (pa_cons pe_bl pa_nil)))))))) pa_nil)))
      (pss_one (ps_expr (pe_bm PySem.F.plainAttrs_list PySem.F.slot_list_append PySem.F.type_list_append mt_append (pv 5) (pa_cons (pe_lc (own := [("_law_y", 10)]) (g := gName 10) (tt := tYes) rfl sc_l_lattice.nd (pi_range1 (by rfl) T.m_range (pa_cons (pv 1) pa_nil)) (blkOk_by (N := nl_l_lattice) (sc := (defScope s_l_lattice)) (by decide +kernel)) (fun _ _ _ _ _ => pg_name (i := 10) sc_l_lattice.nd rfl (by first | exact Or.inl rfl | exact Or.inr rfl)) (fun _ _ _ _ _ => pts_nil) (by intro _ _ _ _ _; exact (pe_call h_l_bound.ok (hr.mono (by decide)) rfl h_l_bound.g h_l_bound.kp h_l_bound.b .nil pass0 (pa_cons (pv 2) (pa_cons (pv 1) (pa_cons (pv 6) (pa_cons (pv 10) (pa_cons pe_bl pa_nil)))))))) pa_nil))))))
    (pss_cons (ps_set (i := 7) sc_l_lattice.nd rfl (by first | exact Or.inl rfl | exact Or.inr rfl) (pe_ix (ixq (K := K)) (pe_lc (own := [("_law_x", 6)]) (g := gName 6) rfl sc_l_lattice.nd (pi_range1 (by rfl) T.m_range (pa_cons (pv 1) pa_nil)) (blkOk_by (N := nl_l_lattice) (sc := (defScope s_l_lattice)) (by decide +kernel)) (fun _ _ _ _ _ => pg_name (i := 6) sc_l_lattice.nd rfl (by first | exact Or.inl rfl | exact Or.inr rfl)) (by intro _ _ _ _ _; exact pts_one (pt_cmpR op_eq (pe_callB (clen (K := K)) (by rfl) T.m_len (by decide +kernel) (pa_cons (pe_lc (own := [("_law_y", 10)]) (g := gName 10) rfl sc_l_lattice.nd (pi_range1 (by rfl) T.m_range (pa_cons (pv 1) pa_nil)) (blkOk_by (N := nl_l_lattice) (sc := (relS _ (defScope s_l_lattice))) (by decide +kernel)) (fun _ _ _ _ _ => pg_name (i := 10) sc_l_lattice.nd rfl (by first | exact Or.inl rfl | exact Or.inr rfl)) (by intro _ _ _ _ _; exact pts_one (pt_val (pe_ix (ixq (K := K)) (pe_ix (ixq (K := K)) (pv 2) (pv 6) (fun _ _ => rfl)) (pv 10) (fun _ _ => rfl)))) (by intro _ _ _ _ _; exact (pv 10))) pa_nil)) (pv 1) (nomark _))) (by intro _ _ _ _ _; exact (pv 6))) pe_int (fun _ _ => rfl)))
    (pss_cons (ps_set (i := 8) sc_l_lattice.nd rfl (by first | exact Or.inl rfl | exact Or.inr rfl) (pe_ix (ixq (K := K)) (pe_lc (own := [("_law_x", 6)]) (g := gName 6) rfl sc_l_lattice.nd (pi_range1 (by rfl) T.m_range (pa_cons (pv 1) pa_nil)) (blkOk_by (N := nl_l_lattice) (sc := (defScope s_l_lattice)) (by decide +kernel)) (fun _ _ _ _ _ => pg_name (i := 6) sc_l_lattice.nd rfl (by first | exact Or.inl rfl | exact Or.inr rfl)) (by intro _ _ _ _ _; exact pts_one (pt_cmpR op_eq (pe_callB (clen (K := K)) (by rfl) T.m_len (by decide +kernel) (pa_cons (pe_lc (own := [("_law_y", 10)]) (g := gName 10) rfl sc_l_lattice.nd (pi_range1 (by rfl) T.m_range (pa_cons (pv 1) pa_nil)) (blkOk_by (N := nl_l_lattice) (sc := (relS _ (defScope s_l_lattice))) (by decide +kernel)) (fun _ _ _ _ _ => pg_name (i := 10) sc_l_lattice.nd rfl (by first | exact Or.inl rfl | exact Or.inr rfl)) (by intro _ _ _ _ _; exact pts_one (pt_val (pe_ix (ixq (K := K)) (pe_ix (ixq (K := K)) (pv 2) (pv 10) (fun _ _ => rfl)) (pv 6) (fun _ _ => rfl)))) (by intro _ _ _ _ _; exact (pv 10))) pa_nil)) (pv 1) (nomark _))) (by intro _ _ _ _ _; exact (pv 6))) pe_int (fun _ _ => rfl)))
    (pss_one (ps_ret (pe_lst (pa_cons (pv 1) (pa_cons (pv 2) (pa_cons (pv 4) (pa_cons (pv 5) (pa_cons (pv 7) (pa_cons (pv 8) pa_nil))))))))))))))))), ?_⟩
  have g := fam_good fam h16
  obtain ⟨as, a1, a2, a3⟩ := fam_row hF
  have hm16 : ∀ i, i < G.length → at_ G i < 16 := fun i hi => fam.lt _ (at_mem hi)
  have ha2 : (as.map V.ref).length = G.length := by rw [List.length_map]; exact a2
  have hLn : (latOf G).n = G.length := rfl
  refine q_asg (v := .int (G.length : Int)) (ev_is (ev_lenL (ea_cons (ev_var rfl) ea_nil) a1) (by rw [ha2])) fun H1 e1 => ?_
  refine q_asgL (el_lst ea_nil (by decide)) fun t H2 ht e2 h2 => ?_
  have e02 := e1.trans e2
  -- the table
  refine q_forLn (a := p) (xs := as.map V.ref) (ev_var rfl) (SqL.of (e02 _ _ a1)) (fun i σ' H' => Acc .lst H1 t (rowsTo i (rowB (latOf G))) H' ∧ ∃ v3, σ' = [some (.ref p), some (.int (G.length : Int)), some (.ref t), v3, none, none, none, none, none, none, none])
    (fun H3 e3 => ⟨Acc.nil ht (e2.trans e3) (e3 _ _ h2), none, rfl⟩) (fun i σ' H' _ h => SqL.of (h.1.2.1 _ _ (e1 _ _ a1))) (fun i x σ' H' hx hP => ?_) (fun σ' H' hP => ?_)
  · obtain ⟨c, v3, rfl⟩ := hP
    have hi : i < G.length := by
      have := (List.getElem?_eq_some_iff.mp hx).1
      omega
    obtain ⟨b, b1, b2, b3⟩ := a3 i hi
    rw [b2] at hx
    obtain rfl := Option.some.inj hx
    have eH : Ex H H' := e1.trans c.2.1
    refine s_appA c (by rw [rowsTo_len]; omega) (ev_var rfl) (r := rowB (latOf G) i) ?_ fun H3 c3 _ => ⟨by rw [rowsTo_succ]; exact c3, _, rfl⟩
    have main := el_lcL (K := K) (t := tYes) (j := 9) (vs := [9]) (σ := [some (V.ref p), some (.int (G.length : Int)), some (.ref t), some (.ref b), none, none, none, none, none, none, none]) (H := H') (tl := tVar 0)
      (te := tOp rEq (tCB (rLenS K) (tCons (tLc (iTup K (tVar 3)) (gName 6) (tTest (tOp (rIn K true) (tVar 6) (tVar 9))) (tVar 6) [6]) tNil)) (tC (.int 0)))
      (fun _ => true) (fun j => V.bl ((latOf G).le i j)) (ev_var (i := 0) rfl) (SqL.of (eH _ _ a1)) (by omega) (fun _ => rfl) (fun j x H3 e3 hx => et_yes) (fun j x H3 e3 hx _ => ?_)
    · rw [given_all, ha2] at main
      exact main
    · have hj : j < G.length := by
        have := (List.getElem?_eq_some_iff.mp hx).1
        omega
      obtain ⟨d, d1, d2, d3⟩ := a3 j hj
      rw [d2] at hx
      obtain rfl := Option.some.inj hx
      have inner := el_lcTI (K := K) (l := bits (at_ G i)) (j := 6) (vs := [6]) (σ := (wipe [some (V.ref p), some (.int (G.length : Int)), some (.ref t), some (.ref b), none, none, none, none, none, none, none] [9]).set 9 (some (.ref d))) (H := H3) (t := tTest (tOp (rIn K true) (tVar 6) (tVar 9))) (te := tVar 6) (tl := tVar 3)
        (fun q => !(bits (at_ G j)).contains q) (fun z => V.int ((z : Nat) : Int)) (ev_var (i := 3) rfl) ((eH.trans e3) _ _ b3) (Nat.le_trans (bits_len (hm16 i hi)) (by decide)) (fun _ => rfl)
        (fun k H4 e4 hk => et_test (ev_niT (ev_var rfl) (ev_var rfl) (((eH.trans e3).trans e4) _ _ d3))) fun k H4 e4 hk _ => ev_var rfl
      refine ev_is (ev_op (ev_lenN inner) ev_c (rv_eqN _ 0)) ?_
      rw [List.length_map]
      show V.bl (decide _) = V.bl (at_ G i &&& at_ G j == at_ G i)
      rw [← bits_sub (hm16 i hi) (hm16 j hj)]
      exact congrArg V.bl (decide_eq_decide.mpr (by omega))
  obtain ⟨c, v3, rfl⟩ := hP
  rw [ha2] at c
  have hT : S2 .lst .lst H' t (tblV (latOf G)) := c.s2
  have eH : Ex H H' := e1.trans c.2.1
  clear c h2 ht e2 e02
  refine q_asgL (el_lst ea_nil (by decide)) fun dj H3 hj e3 h3 => ?_
  refine q_asgL (el_lst ea_nil (by decide)) fun dm H4 hm e4 h4 => ?_
  have ndm : dm ≠ dj := fun c => by
    rw [c, h3] at hm
    cases hm
  have hT4 := hT.ex (e3.trans e4)
  -- joins and meets
  refine q_forR1 (n := (G.length : Int)) (ea_cons (ev_var rfl) ea_nil) (by omega) (fun i σ' H5 => Acc .lst H' dj (rowsTo i (rowJ (latOf G))) H5 ∧ Acc .lst H' dm (rowsTo i (rowJ (latOf G).dual)) H5 ∧ ∃ v6, σ' = [some (.ref p), some (.int (G.length : Int)), some (.ref t), v3, some (.ref dj), some (.ref dm), v6, none, none, none, none])
    (fun H5 e5 => ⟨Acc.nil hj ((e3.trans e4).trans e5) ((e4.trans e5) _ _ h3), Acc.nil (fresh_back e3 hm) ((e3.trans e4).trans e5) (e5 _ _ h4), none, rfl⟩) (fun i σ' H5 hi hP => ?_) (fun σ' H5 hP => ?_)
  · obtain ⟨cj, cm, v6, rfl⟩ := hP
    have hi : i < G.length := by omega
    have hrefs : ∀ {as : List Addr} {i n : Nat} {f : Nat → Nat → Nat}, 0 < n → V.ref <$> as ≠ (List.range n).map fun j => V.int ((f i j : Nat) : Int) := fun {as i n f} hn c => by
      have h1 : ((List.range n).map fun j => V.int ((f i j : Nat) : Int))[0]? = some (.int ((f i 0 : Nat) : Int)) := mapR_get hn
      rw [← c] at h1
      cases as with
      | nil => cases h1
      | cons a r => cases h1
    refine q_appA cj (by rw [rowsTo_len]; omega) (ev_var rfl) (r := rowJ (latOf G) i) ?_ fun H6 cj6 k6 => ?_
    · exact el_lcRy (fun y => V.int (((latOf G).jn i y : Nat) : Int)) (ea_cons (ev_var rfl) ea_nil) (by omega) (fun _ => rfl) fun y H6 e6 hy => ev_call (ea_cons (ev_var rfl) (ea_cons (ev_var rfl) (ea_cons (ev_var rfl) (ea_cons (ev_var rfl) (ea_cons ev_c ea_nil)))))
        fun H7 e7 Q k E => ⟨t, latOf G, i, y, true, rfl, h16, hT.ex ((cj.2.1.trans e6).trans e7), hi, hy, g.lub i y hi hy, g.glb i y hi hy, fun H8 e8 => k H8 e8⟩
    have cm6 : Acc .lst H' dm (rowsTo i (rowJ (latOf G).dual)) H6 := by
      refine cm.kx cj6.2.1 k6 ndm fun r hr c => ?_
      obtain ⟨j, _, rfl⟩ := List.mem_map.mp hr
      obtain ⟨_, _, bs, _, b4, _⟩ := cj
      rw [b4] at c
      exact hrefs (f := (latOf G).dual.jn) (i := j) (n := G.length) (by omega) (HO.lst.inj (Option.some.inj c))
    refine s_appA cm6 (by rw [rowsTo_len]; omega) (ev_var rfl) (r := rowJ (latOf G).dual i) ?_ fun H7 cm7 k7 => ⟨?_, by rw [rowsTo_succ]; exact cm7, _, rfl⟩
    · exact el_lcRy (fun y => V.int (((latOf G).mt i y : Nat) : Int)) (ea_cons (ev_var rfl) ea_nil) (by show G.length ≤ 10000; omega) (fun _ => rfl) fun y H6 e6 hy => ev_call (ea_cons (ev_var rfl) (ea_cons (ev_var rfl) (ea_cons (ev_var rfl) (ea_cons (ev_var rfl) (ea_cons ev_c ea_nil)))))
        fun H7 e7 Q k E => ⟨t, latOf G, i, y, false, rfl, h16, hT.ex ((cm6.2.1.trans e6).trans e7), hi, hy, g.lub i y hi hy, g.glb i y hi hy, fun H8 e8 => k H8 e8⟩
    · rw [rowsTo_succ]
      refine cj6.kx cm7.2.1 k7 (Ne.symm ndm) fun r hr c => ?_
      obtain ⟨_, _, bs, _, b4, _⟩ := cm6
      rw [b4] at c
      have hr2 : r ∈ rowsTo (i + 1) (rowJ (latOf G)) := by rw [rowsTo_succ]; exact hr
      obtain ⟨j, _, rfl⟩ := List.mem_map.mp hr2
      exact hrefs (f := (latOf G).jn) (i := j) (n := G.length) (by omega) (HO.lst.inj (Option.some.inj c))
  obtain ⟨cj, cm, v6, rfl⟩ := hP
  have e9 : ((G.length : Int)).toNat = G.length := by omega
  rw [e9] at cj cm
  have hT5 := hT.ex cj.2.1
  have hJ : S2 .lst .lst H5 dj (jnsV (latOf G)) := cj.s2
  have hM : S2 .lst .lst H5 dm (jnsV (latOf G).dual) := cm.s2
  have eH5 : Ex H H5 := eH.trans cj.2.1
  -- bottom, top
  refine q_asg (v := .int ((latOf G).bot : Int)) (ev_x0 (xs := intsV (latOf G).bots) ?_ (head_at g.hbot)) fun H6 e6 => ?_
  · refine el_lcR (fun x => (List.range G.length).all fun y => (latOf G).le x y) (fun z => V.int ((z : Nat) : Int)) (ea_cons (ev_var rfl) ea_nil) (by omega) (fun _ => rfl) (fun k H6 e6 hk => ?_) fun k H6 e6 hk _ => ev_var rfl
    have inner := el_lcR (n := G.length) (j := 10) (vs := [10]) (σ := (wipe [some (V.ref p), some (.int (G.length : Int)), some (.ref t), v3, some (.ref dj), some (.ref dm), v6, none, none, none, none] [6]).set 6 (some (.int (k : Int)))) (H := H6) (tr := tCons (tVar 1) tNil) (t := tB (tOp (rIx K) (tOp (rIx K) (tVar 2) (tVar 6)) (tVar 10))) (te := tVar 10)
      (fun y => (latOf G).le k y) (fun z => V.int ((z : Nat) : Int)) (ea_cons (ev_var rfl) ea_nil) (by omega) (fun _ => rfl) (fun y H7 e7 hy => et_B (ev_tblL (ev_var rfl) (ev_var rfl) (ev_var rfl) (hT5.ex (e6.trans e7)) hk hy)) fun y H7 e7 hy _ => ev_var rfl
    refine et_is (et_test (ev_op (ev_lenN inner) (ev_var rfl) (rv_eqN _ _))) ?_
    have fa := filter_len_all (List.range G.length) (fun y => (latOf G).le k y)
    rw [List.length_range] at fa
    rw [List.length_map, ← fa]
    exact decide_eq_decide.mpr (by omega)
  refine q_asg (v := .int ((latOf G).top : Int)) (ev_x0 (xs := intsV (latOf G).dual.bots) ?_ (head_at g.htop)) fun H7 e7 => ?_
  · refine el_lcR (fun x => (List.range G.length).all fun y => (latOf G).le y x) (fun z => V.int ((z : Nat) : Int)) (ea_cons (ev_var rfl) ea_nil) (by show G.length ≤ 10000; omega) (fun _ => rfl) (fun k H7 e7 hk => ?_) fun k H7 e7 hk _ => ev_var rfl
    have inner := el_lcR (n := G.length) (j := 10) (vs := [10]) (σ := (wipe ([some (V.ref p), some (.int (G.length : Int)), some (.ref t), v3, some (.ref dj), some (.ref dm), v6, none, none, none, none].set 7 (some (.int ((latOf G).bot : Int)))) [6]).set 6 (some (.int (k : Int)))) (H := H7) (tr := tCons (tVar 1) tNil) (t := tB (tOp (rIx K) (tOp (rIx K) (tVar 2) (tVar 10)) (tVar 6))) (te := tVar 10)
      (fun y => (latOf G).le y k) (fun z => V.int ((z : Nat) : Int)) (ea_cons (ev_var rfl) ea_nil) (by omega) (fun _ => rfl) (fun y H8 e8 hy => et_B (ev_tblL (ev_var rfl) (ev_var rfl) (ev_var rfl) (hT5.ex ((e6.trans e7).trans e8)) hy hk)) fun y H8 e8 hy _ => ev_var rfl
    refine et_is (et_test (ev_op (ev_lenN inner) (ev_var rfl) (rv_eqN _ _))) ?_
    have fa := filter_len_all (List.range G.length) (fun y => (latOf G).le y k)
    rw [List.length_range] at fa
    rw [List.length_map, ← fa]
    exact decide_eq_decide.mpr (by omega)
  have e57 := e6.trans e7
  refine s_retL (el_lst (ea_cons (ev_var rfl) (ea_cons (ev_var rfl) (ea_cons (ev_var rfl) (ea_cons (ev_var rfl) (ea_cons (ev_var rfl) (ea_cons (ev_var rfl) ea_nil)))))) (by show 6 ≤ 100000; decide)) fun z H8 hz e8 h8 => q z H8 (fresh_back (eH5.trans e57) hz) ((eH5.trans e57).trans e8) ⟨t, dj, dm, h8, hT5.ex (e57.trans e8), hJ.ex (e57.trans e8), hM.ex (e57.trans e8)⟩
end
end KM

/-! ## KHand: what evaluates to what while the hand is drawn from -/
namespace KM
open PySem PySem.Spec PyProof.Rows L2 Evl
def EvK (te : TE) (σ : L2.St) (h c : Addr) (cs : List Int) (H : Hp) (ok : V → Hp → Prop) : Prop := ∀ H1, Kp H H1 → Hd H1 h c cs → ∀ Q : VK, (∀ v H2, Kp H1 H2 → Hd H2 h c cs → ok v H2 → Q v H2) → te σ H1 Q
section
variable {K : PySem.W.Frag} {σ : L2.St} {H H' H0 : Hp} {ta tb tc te tx tl tv : TE} {t u : TT} {x y z v : V} {tr : TA} {D : Ends} {tu tz : TS} {h c : Addr} {cs : List Int} {ok ok' : V → Hp → Prop}
theorem EvK.mono (e : EvK te σ h c cs H ok) (k : Kp H H') : EvK te σ h c cs H' ok := fun H1 k1 => e H1 (k.trans k1)
theorem EvK.imp (e : EvK te σ h c cs H ok) (i : ∀ v H1, Kp H H1 → ok v H1 → ok' v H1) : EvK te σ h c cs H ok' := fun H1 k1 d1 Q q => e H1 k1 d1 Q fun v H2 k2 d2 o => q v H2 k2 d2 (i v H2 (k1.trans k2) o)
theorem ek_take {ta : TA} {E : XK} {n : Nat} (ha : ∀ H1, Kp H H1 → EvA ta σ H1 [.ref h, .int (n : Int)]) (h1 : 1 ≤ n) (h2 : n < 1073741824) : EvK (tCall spTake [] E ta) σ h c cs H (fun v _ => ∃ r : Nat, r < n ∧ v = .int (r : Int)) := fun H1 k1 d1 Q q =>
  ha H1 k1 H1 (Ex.refl H1) _ fun H2 e2 => ⟨h, c, cs, n, rfl, h1, h2, d1.ex e2, fun r H3 hr k3 d3 => q _ H3 (Kp.pre e2 k3) d3 ⟨r, hr, rfl⟩⟩
theorem ek_ev {f : V} (he : ∀ H1, Kp H H1 → Ev te σ H1 f) : EvK te σ h c cs H (fun v _ => v = f) := fun H1 k1 d1 Q q => he H1 k1 H1 (Ex.refl H1) _ fun H2 e2 => q f H2 (.of e2) (d1.ex e2) rfl
theorem q_asgK {i : Nat} (e : EvK te σ h c cs H ok) (d : Hd H h c cs) (k : ∀ v H1, Kp H H1 → Hd H1 h c cs → ok v H1 → tz D (σ.set i (some v)) H1) : tSeq (tAsg te (gName i)) tz D σ H := e H (.refl H) d _ fun v H2 k2 d2 o => k v H2 k2 d2 o
theorem s_asgK {i : Nat} (e : EvK te σ h c cs H ok) (d : Hd H h c cs) (k : ∀ v H1, Kp H H1 → Hd H1 h c cs → ok v H1 → D.nx (σ.set i (some v)) H1) : tAsg te (gName i) D σ H := e H (.refl H) d _ fun v H2 k2 d2 o => k v H2 k2 d2 o
theorem s_retK (e : EvK te σ h c cs H ok) (d : Hd H h c cs) (k : ∀ v H1, Kp H H1 → Hd H1 h c cs → ok v H1 → D.rt v H1) : tRet te D σ H := e H (.refl H) d _ fun v H2 k2 d2 o => k v H2 k2 d2 o
/-- l.append(e), l new since H0 -/
theorem s_appK {l : Addr} {xs : List V} (hl : ∀ H1, Kp H H1 → H1 l = some (.lst xs)) (ha : ∀ H1, Kp H H1 → Ev ta σ H1 (.ref l)) (he : EvK te σ h c cs H ok) (d : Hd H h c cs) (hz : xs.length < 100000) (k : ∀ v H1, Kp H H1 → Hd H1 h c cs → ok v H1 → H1 l = some (.lst xs) → D.nx σ (upd H1 l (.lst (xs ++ [v])))) :
    tDrop (tBM K "list" rAppend ta (tCons te tNil)) D σ H := ha H (.refl H) H (Ex.refl H) _ fun H1 e1 =>
  ⟨Or.inl ⟨rfl, xs, sq_of (hl H1 (.of e1))⟩, he H1 (.of e1) (d.ex e1) _ fun v H2 k2 d2 o => ⟨l, xs, v, rfl, rfl, hl H2 (Kp.pre e1 k2), sz_lt hz, k v H2 (Kp.pre e1 k2) d2 o (hl H2 (Kp.pre e1 k2))⟩⟩
/-- a new list of ints, told by okl -/
def IsI (H : Hp) (okl : List Nat → Prop) : V → Hp → Prop := fun v H2 => ∃ (p : Addr) (l : List Nat), v = .ref p ∧ H p = none ∧ H2 p = some (.lst (intsV l)) ∧ okl l
/-- [e for x in range(n) if t], the hand drawn from amid -/
theorem ek_lcR {tr : TA} {n : Nat} {j : Nat} {vs : List Nat} (Pl : Nat → List Nat → Prop) (okb : Bool → Prop) (oke : Nat → Nat → Prop) (ha : ∀ H1, Kp H H1 → EvA tr σ H1 [.int (n : Int)]) (hn : n ≤ 10000) (hw : ∀ x, wipe ((wipe σ vs).set j (some x)) vs = wipe σ vs)
    (ht : ∀ i, i < n → ∀ H1, Kp H H1 → Hd H1 h c cs → ∀ Q : Bool → Hp → Prop, (∀ b H2, Kp H1 H2 → Hd H2 h c cs → okb b → Q b H2) → t ((wipe σ vs).set j (some (.int (i : Int)))) H1 Q)
    (he : ∀ i, i < n → EvK te ((wipe σ vs).set j (some (.int (i : Int)))) h c cs H (fun v _ => ∃ r, oke i r ∧ v = .int ((r : Nat) : Int)))
    (p0 : Pl 0 []) (p1 : ∀ i l r, i < n → l.length ≤ i → okb true → oke i r → Pl i l → Pl (i + 1) (l ++ [r])) (p2 : ∀ i l, i < n → okb false → Pl i l → Pl (i + 1) l) :
    EvK (tLc (iRng1 tr) (gName j) t te vs) σ h c cs H (fun v H2 => ∃ (p : Addr) (l : List Nat), v = .ref p ∧ H p = none ∧ H2 p = some (.lst (intsV l)) ∧ Pl n l ∧ l.length ≤ n) := fun H1 k1 d1 Q q => ha H1 k1 H1 (Ex.refl H1) _ fun H2 e2 => ⟨(n : Int), rfl, by omega, by omega, fun Dl hD =>
  lc_range (lo := 0) (n := ((n : Nat) : Int).toNat) (fun i H3 => Kp H2 H3 ∧ Hd H3 h c cs ∧ ∃ l, H3 Dl = some (.lst (intsV l)) ∧ Pl i l ∧ l.length ≤ i) ⟨Kp.of (Ex.new hD), (d1.ex e2).ex (Ex.new hD), [], upd_same, p0, Nat.le_refl _⟩ (fun i H3 hi p => by
    have e0 : (0 : Int) + (i : Int) = (i : Int) := Int.zero_add _
    have hi' : i < n := by omega
    show wipe ((wipe σ vs).set j (some (.int ((0 : Int) + (i : Int))))) vs = wipe σ vs ∧ t ((wipe σ vs).set j (some (.int ((0 : Int) + (i : Int))))) H3 _
    rw [e0]
    obtain ⟨k3, d3, l, hl, pl, ll⟩ := p
    have K3 : Kp H H3 := k1.trans (Kp.pre e2 k3)
    refine ⟨hw _, ht i hi' H3 K3 d3 _ fun b H4 k4 d4 ob => ?_⟩
    have hl4 := k4.kp _ _ hl not_intsV
    cases b with
    | true =>
      show te _ H4 _
      refine he i hi' H4 (K3.trans k4) d4 _ fun v H5 k5 d5 o => ?_
      obtain ⟨r, hr, rfl⟩ := o
      have hl5 := k5.kp _ _ hl4 not_intsV
      have e6 : intsV l ++ [V.int (r : Int)] = intsV (l ++ [r]) := by
        unfold intsV
        rw [List.map_append]
        rfl
      refine ⟨intsV l, hl5, sz_lt (by rw [intsV_len]; omega), ((k3.trans k4).trans k5).mut hD, (d1.ex e2).mut hD d5, l ++ [r], ?_, p1 i l r hi' ll ob hr pl, ?_⟩
      · rw [upd_same, e6]
      · rw [List.length_append, List.length_singleton]
        omega
    | false => exact ⟨k3.trans k4, d4, l, hl4, p2 i l hi' ob pl, by omega⟩) (fun H3 p => by
    obtain ⟨k3, d3, l, hl, pl, ll⟩ := p
    have en : ((n : Nat) : Int).toNat = n := by omega
    rw [en] at pl ll
    exact q _ H3 (Kp.pre e2 k3) d3 ⟨Dl, l, rfl, k1.dom _ (fresh_back e2 hD), hl, pl, ll⟩)⟩
end
section
variable {P : Program} {w : World} {K : PySem.W.Frag} {mg : Str → Option Value} {base : Heap} {CX : CXT} {f : Addr} {fd : FuncData}
/-! ## KHand: ### _law_hand -/
abbrev nl_l_hand : List Str := ["_law_script", "_law_total", "_law_cells", "_law_cell"]
theorem sc_l_hand : FnScope nl_l_hand ["_law_script"] (defScope s_l_hand) := ⟨rfl, rfl, rfl, by decide +kernel, rfl, by decide +kernel, by decide +kernel⟩
-- slots: 0:~script 1:~total 2:~cells 3:~cell
def spHand (K : PySem.W.Frag) : Sp := fun vs H Q _ => ∃ (a : Addr) (ns : List Int), vs = [.ref a] ∧ SqL K H a (ns.map V.int) ∧ ns.length ≤ 63 ∧ ∀ h c cs H2, Ex H H2 → Hd H2 h c cs → Q (.ref h) H2
theorem ok_l_hand (F : At K "_law_hand" "_law_hand" s_l_hand f fd) (T : Tx K mg) : FnOk P w K mg base CX 1 f fd ["_law_script"] (spHand K) := by
  refine F.ok sc_l_hand (fun vs H Q E h => ?_) (fun cdv A outer s H vs Q E hr h => ?_)
  · obtain ⟨a, ns, rfl, _⟩ := h
    rfl
  obtain ⟨a, ns, rfl, hS, hn, q⟩ := h
  refine ⟨_, PSs.nox (pss_cons (ps_set (i := 1) sc_l_hand.nd rfl (by first | exact Or.inl rfl | exact Or.inr rfl) (pe_op op_add (pe_callB (clen (K := K)) (by rfl) T.m_len (by decide +kernel) (pa_cons (pv 0) pa_nil)) pe_int))
    (pss_cons (ps_set (i := 2) sc_l_hand.nd rfl (by first | exact Or.inl rfl | exact Or.inr rfl) (pe_lst pa_nil))
    (pss_cons (ps_for PassesOwn.never rfl (piL (K := K) (pv 0)) (pg_name (i := 3) sc_l_hand.nd rfl (by first | exact Or.inl rfl | exact Or.inr rfl))
      (pss_cons (ps_set (i := 1) sc_l_hand.nd rfl (by first | exact Or.inl rfl | exact Or.inr rfl) (pe_op op_mod (pe_callTy call_int1 (by rfl) T.m_int (by decide +kernel) (pa_cons (pe_op op_add (pe_op op_mul (pv 1) pe_int) (pe_callTy call_int1 (by rfl) T.m_int (by decide +kernel) (pa_cons (pv 3) pa_nil))) pa_nil)) pe_int))
      (pss_one (ps_expr (pe_bm PySem.F.plainAttrs_list PySem.F.slot_list_append PySem.F.type_list_append mt_append (pv 2) (pa_cons (pe_callB call_abs (by rfl) T.m_abs (by decide +kernel) (pa_cons (pe_callTy call_int1 (by rfl) T.m_int (by decide +kernel) (pa_cons (pv 3) pa_nil)) pa_nil)) pa_nil))))))
    (pss_one (ps_ret (pe_lst (pa_cons (pv 2) (pa_cons pe_int (pa_cons pe_int (pa_cons (pv 1) pa_nil)))))))))), ?_⟩
  refine q_asg (ev_addI (ev_len (ev_var rfl) hS) ev_c) fun H1 e1 => ?_
  refine q_asgL (el_lst ea_nil (by decide)) fun p H2 hp e2 h2 => ?_
  have hp0 := fresh_back e1 hp
  refine q_forLn (a := a) (xs := ns.map V.int) (ev_var rfl) (ex_l (e1.trans e2) hS) (fun i σ' H' => Ex H H' ∧ (∃ (m : Int) (v3 : Option V), σ' = [some (.ref a), some (.int m), some (.ref p), v3]) ∧ ∃ cs : List Int, cs.length = i ∧ H' p = some (.lst (cs.map V.int)))
    (fun H3 e3 => ⟨(e1.trans e2).trans e3, ⟨_, none, rfl⟩, [], rfl, e3 _ _ h2⟩) (fun i σ' H' _ h => ex_l h.1 hS) (fun i x σ' H' hx hP => ?_) (fun σ' H' hP => ?_)
  · obtain ⟨e3, ⟨m, v3, rfl⟩, cs, hcl, hcs⟩ := hP
    have hi : i < ns.length := by
      have := (List.getElem?_eq_some_iff.mp hx).1
      rw [List.length_map] at this
      exact this
    rw [List.getElem?_map, List.getElem?_eq_getElem hi] at hx
    obtain rfl := Option.some.inj hx
    refine q_asg (ev_modC (ev_int (ea_cons (ev_addI (ev_mulC (ev_var rfl) ev_c (by decide)) (ev_int (ea_cons (ev_var rfl) ea_nil))) ea_nil)) ev_c (by decide)) fun H4 e4 => ?_
    refine s_app (xs := cs.map V.int) (v := .int (if ns[i] < 0 then -ns[i] else ns[i])) (e4 _ _ hcs) (ev_var rfl) (ev_cb (ea_cons (ev_int (ea_cons (ev_var rfl) ea_nil)) ea_nil) fun H5 e5 Q k => ⟨_, rfl, k H5 (Ex.refl H5)⟩) (by rw [List.length_map]; omega) fun H5 e5 => ?_
    exact ⟨Ex.mut ((e3.trans e4).trans e5) hp0, ⟨_, _, rfl⟩, cs ++ [if ns[i] < 0 then -ns[i] else ns[i]], by rw [List.length_append, hcl]; rfl, by rw [upd_same, List.map_append]; rfl⟩
  · obtain ⟨e3, ⟨m, v3, rfl⟩, cs, hcl, hcs⟩ := hP
    refine s_retL (el_lst (ea_cons (ev_var rfl) (ea_cons ev_c (ea_cons ev_c (ea_cons (ev_var rfl) ea_nil)))) (by show 4 ≤ 100000; decide)) fun z H5 hz e5 h5 => q z p cs H5 (e3.trans e5) ⟨⟨0, 0, m, h5⟩, e5 _ _ hcs⟩
end
end KM

/-! ## KDeep: data for == and in at any depth -/
namespace KM
open PySem PySem.Spec PyProof.Rows L2 Evl
def intsD (l : List Nat) : List PyData := l.map fun (i : Nat) => PyData.int (i : Int)
def famD (F : List (List Nat)) : List PyData := F.map fun l => PyData.tuple (intsD l)
theorem canLay_ints : ∀ l : List Nat, PyData.canLayAll0 (intsD l) = true
  | [] => rfl
  | a :: r => by
    show PyData.canLayAll0 (PyData.int (a : Int) :: intsD r) = true
    simp only [PyData.canLayAll0, PyData.canLay0, Bool.true_and]
    exact canLay_ints r
theorem depth_ints : ∀ l : List Nat, PyData.depthAll (intsD l) ≤ 1
  | [] => by
    show PyData.depthAll [] ≤ 1
    simp [PyData.depthAll]
  | a :: r => by
    have ih := depth_ints r
    show PyData.depthAll (PyData.int (a : Int) :: intsD r) ≤ 1
    simp only [PyData.depthAll, PyData.depth]
    omega
theorem canLay_fam : ∀ F : List (List Nat), PyData.canLayAll0 (famD F) = true
  | [] => rfl
  | a :: r => by
    show PyData.canLayAll0 (PyData.tuple (intsD a) :: famD r) = true
    simp only [PyData.canLayAll0, PyData.canLay0, canLay_ints, Bool.true_and]
    exact canLay_fam r
theorem depth_fam : ∀ F : List (List Nat), PyData.depthAll (famD F) ≤ 3
  | [] => by
    show PyData.depthAll [] ≤ 3
    simp [PyData.depthAll]
  | a :: r => by
    have ih := depth_fam r
    have := depth_ints a
    show PyData.depthAll (PyData.tuple (intsD a) :: famD r) ≤ 3
    simp only [PyData.depthAll, PyData.depth]
    omega
theorem shaped_tup (l : List Nat) : SeqAt.shaped (.tuple (intsD l)) = true := by
  unfold SeqAt.shaped
  have := depth_ints l
  rw [Bool.and_eq_true]
  refine ⟨?_, decide_eq_true ?_⟩
  · simp only [PyData.canLay0]
    exact canLay_ints l
  · simp only [PyData.depth]
    omega
theorem shaped_fam (F : List (List Nat)) : SeqAt.shaped (.list (famD F)) = true := by
  unfold SeqAt.shaped
  have := depth_fam F
  rw [Bool.and_eq_true]
  refine ⟨?_, decide_eq_true ?_⟩
  · simp only [PyData.canLay0]
    exact canLay_fam F
  · simp only [PyData.depth]
    omega
theorem eqv_ints : ∀ a b : List Nat, PyData.eqvAll (intsD a) (intsD b) = decide (a = b)
  | [], [] => by
    show PyData.eqvAll [] [] = _
    simp [PyData.eqvAll]
  | [], b :: t => by
    show PyData.eqvAll [] (PyData.int (b : Int) :: intsD t) = _
    simp [PyData.eqvAll]
  | a :: r, [] => by
    show PyData.eqvAll (PyData.int (a : Int) :: intsD r) [] = _
    simp [PyData.eqvAll]
  | a :: r, b :: t => by
    show PyData.eqvAll (PyData.int (a : Int) :: intsD r) (PyData.int (b : Int) :: intsD t) = _
    rw [PyData.eqvAll, eqv_ints r t, PyData.eqv]
    by_cases c : a = b
    · subst c
      simp
    · have h1 : ((a : Int) == (b : Int)) = false := beq_eq_false_iff_ne.mpr (by omega)
      rw [h1, Bool.false_and]
      refine (decide_eq_false fun z => c ?_).symm
      exact (List.cons.inj z).1
theorem eqv_tup (a b : List Nat) : PyData.eqv (.tuple (intsD a)) (.tuple (intsD b)) = decide (a = b) := by
  rw [PyData.eqv]
  exact eqv_ints a b
section
variable {K : PySem.W.Frag} {H : Hp}
theorem dp_ints : ∀ l : List Nat, DpAll K H (intsV l) (intsD l)
  | [] => .nil
  | a :: r => .cons (.int _) (dp_ints r)
theorem dp_tup {a : Addr} {l : List Nat} (h : H a = some (.tup (intsV l))) : Dp K H (.ref a) (.tuple (intsD l)) := .tup (SqT.of h) (dp_ints l)
theorem dp_lstI {a : Addr} {l : List Nat} (h : H a = some (.lst (intsV l))) : Dp K H (.ref a) (.list (intsD l)) := .lst (SqL.of h) (dp_ints l)
theorem dp_rows : ∀ {as : List Addr} {F : List (List Nat)}, Paired (fun b r => H b = some (HO.tup r)) as (F.map intsV) → DpAll K H (as.map V.ref) (famD F)
  | [], [], _ => .nil
  | [], _ :: _, h => by cases h
  | _ :: _, [], h => by cases h
  | a :: r, l :: t, h => by
    cases h with
    | cons h1 h2 => exact .cons (dp_tup h1) (dp_rows h2)
theorem dp_fam {a : Addr} {F : List (List Nat)} (h : S2 .lst .tup H a (F.map intsV)) : Dp K H (.ref a) (.list (famD F)) := by
  obtain ⟨as, h1, h2⟩ := h
  exact .lst (SqL.of h1) (dp_rows h2)
end
end KM

/-! ## KL3: the law's helpers: lower sets -/
namespace KM
open PySem PySem.Spec PyProof.Rows L2 Evl
def bitsR (F : List Nat) : List (List V) := F.map fun m => intsV (bits m)
theorem bitsR_app (F G : List Nat) : bitsR (F ++ G) = bitsR F ++ bitsR G := List.map_append
theorem bitsR_len (F : List Nat) : (bitsR F).length = F.length := List.length_map ..
theorem es_unit {σ : L2.St} {H : Hp} : EvS .lst .tup (tLst (tCons (tTup tNil) tNil)) σ H [[]] := fun H1 e Q q => ⟨by show 0 ≤ sizeLine; decide, fun tp htp => ⟨by show 1 ≤ sizeLine; decide, fun p hp => q p _ (fresh_back (Ex.new htp) hp) ((Ex.new htp).trans (Ex.new hp)) ⟨[tp], upd_same, .cons (by
  have n : tp ≠ p := fun c => by
    rw [c, upd_same] at hp
    cases hp
  rw [upd_ne n, upd_same]) .nil⟩⟩⟩
/-- rows of ints: one more at the end -/
theorem S2.appI {m : List V → HO} {H : Hp} {D p : Addr} {rows : List (List V)} {r : List V} (h : S2 .lst m H D rows) (hr : ∀ x, x ∈ rows → ∃ l, x = intsV l) (hm : m = HO.lst ∨ m = HO.tup) (hp : p ≠ D) (h1 : H p = some (m r)) :
    ∃ as : List Addr, as.length = rows.length ∧ H D = some (.lst (as.map V.ref)) ∧ S2 .lst m (upd H D (.lst (as.map V.ref ++ [.ref p]))) D (rows ++ [r]) := by
  obtain ⟨as, h2, h3⟩ := h
  refine ⟨as, Paired.length h3, h2, as ++ [p], by rw [upd_same, List.map_append]; rfl, Paired.snoc (Paired.imp2 h3 fun b x hx z => ?_) ?_⟩
  · have n : b ≠ D := fun c => by
      obtain ⟨l, rfl⟩ := hr x hx
      rw [c, h2] at z
      rcases hm with rfl | rfl
      · have e := HO.lst.inj (Option.some.inj z)
        cases rows with
        | nil => cases hx
        | cons x0 xr =>
          cases h3 with
          | cons _ _ =>
            cases l with
            | nil => cases e
            | cons _ _ => cases e
      · cases z
    rw [upd_ne n]
    exact z
  · rw [upd_ne hp]
    exact h1
section
variable {P : Program} {w : World} {K : PySem.W.Frag} {mg : Str → Option Value} {base : Heap} {CX : CXT} {f : Addr} {fd : FuncData}
/-! ## KL3: ### _law_lowers -/
abbrev nl_l_lowers : List Str := ["_law_n", "_law_below", "_law_found", "_law_p", "_law_more", "_law_one", "_law_q"]
theorem sc_l_lowers : FnScope nl_l_lowers ["_law_n", "_law_below"] (defScope s_l_lowers) := ⟨rfl, rfl, rfl, by decide +kernel, rfl, by decide +kernel, by decide +kernel⟩
-- slots: 0:~n 1:~below 2:~found 3:~p 4:~more 5:~one 6:~q
def spLowers : Sp := fun vs H Q _ => ∃ (b : Addr) (n : Nat) (bl : List Nat), vs = [.int (n : Int), .ref b] ∧ n ≤ 3 ∧ n ≤ bl.length ∧ S2 .lst .lst H b (bitsR bl) ∧ (∀ p, p < n → at_ bl p < 2 ^ p) ∧ ∀ q H2, H q = none → Ex H H2 → FamH H2 q (lowers bl n) → Q (.ref q) H2
theorem bitsR_at {F : List Nat} {i : Nat} (hi : i < F.length) : (bitsR F)[i]? = some (intsV (bits (at_ F i))) := by
  unfold bitsR at_
  rw [List.getElem?_map, List.getD_eq_getElem?_getD, List.getElem?_eq_getElem hi]
  rfl
theorem take_succ_at {F : List Nat} {i : Nat} (hi : i < F.length) : F.take (i + 1) = F.take i ++ [at_ F i] := by
  rw [List.take_succ, List.getElem?_eq_getElem hi]
  unfold at_
  rw [List.getD_eq_getElem?_getD, List.getElem?_eq_getElem hi]
  rfl
theorem ok_l_lowers (F : At K "_law_lowers" "_law_lowers" s_l_lowers f fd) (T : Tx K mg) : FnOk P w K mg base CX 1 f fd ["_law_n", "_law_below"] spLowers := by
  refine F.ok sc_l_lowers (fun vs H Q E h => ?_) (fun cdv A outer s H vs Q E hr h => ?_)
  · obtain ⟨b, n, bl, rfl, _⟩ := h
    rfl
  obtain ⟨b, n, bl, rfl, hn, hbl, hB, hlt, q⟩ := h
  refine ⟨_, PSs.nox (pss_cons (ps_set (i := 2) sc_l_lowers.nd rfl (by first | exact Or.inl rfl | exact Or.inr rfl) (pe_lst (pa_cons (pe_tup pa_nil) pa_nil)))
    (pss_cons (ps_for PassesOwn.never rfl (pi_range1 (by rfl) T.m_range (pa_cons (pv 0) pa_nil)) (pg_name (i := 3) sc_l_lowers.nd rfl (by first | exact Or.inl rfl | exact Or.inr rfl))
      (pss_cons (ps_set (i := 4) sc_l_lowers.nd rfl (by first | exact Or.inl rfl | exact Or.inr rfl) (pe_lst pa_nil))
      (pss_cons (ps_for PassesOwn.never rfl (piL (K := K) (pv 2)) (pg_name (i := 5) sc_l_lowers.nd rfl (by first | exact Or.inl rfl | exact Or.inr rfl))
        (pss_one (ps_if (pt_cmpR op_eq (pe_callB (clen (K := K)) (by rfl) T.m_len (by decide +kernel) (pa_cons (pe_lc (own := [("_law_q", 6)]) (g := gName 6) rfl sc_l_lowers.nd (piL (K := K) (pe_ix (ixq (K := K)) (pv 1) (pv 3) (fun _ _ => rfl))) (blkOk_by (N := nl_l_lowers) (sc := (defScope s_l_lowers)) (by decide +kernel)) (fun _ _ _ _ _ => pg_name (i := 6) sc_l_lowers.nd rfl (by first | exact Or.inl rfl | exact Or.inr rfl)) (by intro _ _ _ _ _; exact pts_one (pt_cmpR (onin (K := K)) (pv 6) (pv 5) (by with_unfolding_all rfl))) (by intro _ _ _ _ _; exact (pv 6))) pa_nil)) pe_int (nomark _))
          (pss_one (ps_expr (pe_bm PySem.F.plainAttrs_list PySem.F.slot_list_append PySem.F.type_list_append mt_append (pv 4) (pa_cons (pe_op (ocatT (K := K)) (pv 5) (pe_tup (pa_cons (pv 3) pa_nil))) pa_nil))))
          pss_nil)))
      (pss_one (ps_set (i := 2) sc_l_lowers.nd rfl (by first | exact Or.inl rfl | exact Or.inr rfl) (pe_op op_cat (pv 2) (pv 4)))))))
    (pss_one (ps_ret (pv 2))))), ?_⟩
  refine q_asgS (m1 := .lst) (m2 := .tup) (rows := [[]]) es_unit fun p0 H1 hp0 e1 h1 => ?_
  refine q_forR1 (n := (n : Int)) (ea_cons (ev_var rfl) ea_nil) (by omega) (fun i σ' H' => Ex H H' ∧ ∃ (fa : Addr) (v3 v4 v5 : Option V), H fa = none ∧ σ' = [some (.int (n : Int)), some (.ref b), some (.ref fa), v3, v4, v5, none] ∧ FamH H' fa (lowers bl i))
    (fun H2 e2 => ⟨e1.trans e2, p0, none, none, none, hp0, rfl, FamH.ex (F := lowers bl 0) h1 e2⟩) (fun p σ' H' hp hP => ?_) (fun σ' H' hP => ?_)
  · obtain ⟨eH, fa, v3, v4, v5, hfa, rfl, hF⟩ := hP
    have hp : p < n := by omega
    have hp3 : p < 4 := by omega
    obtain ⟨lfam, llen⟩ := lowers_fam (bl := bl) (n := p) (by omega) fun q hq => hlt q (by omega)
    have hm16 : ∀ {m}, m ∈ lowers bl p → m < 16 := fun h => lfam.lt _ h
    have hb16 : at_ bl p < 16 := Nat.lt_of_lt_of_le (hlt p hp) (Nat.pow_le_pow_right (n := 2) (j := 4) (by decide) (by omega))
    refine q_asgL (el_lst ea_nil (by decide)) fun D H2 hD e2 h2 => ?_
    obtain ⟨as, a1, a2, a3⟩ := fam_row hF
    obtain ⟨bs, b1, b2⟩ := hB.ex eH
    obtain ⟨bp, bp1, bp2⟩ := Paired.nth b2 (bitsR_at (F := bl) (i := p) (by omega))
    have bp3 : (bs.map V.ref)[p]? = some (.ref bp) := by rw [List.getElem?_map, bp1]; rfl
    have ha2 : (as.map V.ref).length = (lowers bl p).length := by rw [List.length_map]; exact a2
    refine q_forLn (a := fa) (xs := as.map V.ref) (ev_var rfl) (SqL.of (e2 _ _ a1)) (fun j σ' H3 => Acc .tup H' D (bitsR ((((lowers bl p).take j).filter fun m => at_ bl p &&& m == at_ bl p).map fun m => m ||| 2 ^ p)) H3 ∧ ∃ v5, σ' = [some (.int (n : Int)), some (.ref b), some (.ref fa), some (.int (p : Int)), some (.ref D), v5, none])
      (fun H3 e3 => ⟨Acc.nil hD (e2.trans e3) (e3 _ _ h2), v5, rfl⟩) (fun j σ' H3 _ h => SqL.of (h.1.2.1 _ _ a1)) (fun j x σ' H3 hx hP => ?_) (fun σ' H3 hP => ?_)
    · obtain ⟨c, v5, rfl⟩ := hP
      have hj : j < (lowers bl p).length := by
        have := (List.getElem?_eq_some_iff.mp hx).1
        omega
      obtain ⟨d, d1, d2, d3⟩ := a3 j hj
      rw [d2] at hx
      obtain rfl := Option.some.inj hx
      have hmj := at_mem hj
      have e3 := c.2.1
      have inner := el_lcI (K := K) (l := bits (at_ bl p)) (j := 6) (vs := [6]) (σ := [some (V.int (n : Int)), some (.ref b), some (.ref fa), some (.int (p : Int)), some (.ref D), some (.ref d), none]) (H := H3) (t := tTest (tOp (rIn K true) (tVar 6) (tVar 5))) (te := tVar 6) (tl := tOp (rIx K) (tVar 1) (tVar 3))
        (fun q => !(bits (at_ (lowers bl p) j)).contains q) (fun z => V.int ((z : Nat) : Int)) (ev_xL (ev_var rfl) (ev_var rfl) (e3 _ _ b1) bp3) (e3 _ _ bp2) (Nat.le_trans (bits_len hb16) (by decide)) (fun _ => rfl)
        (fun k H4 e4 hk => et_test (ev_niT (ev_var rfl) (ev_var rfl) ((e3.trans e4) _ _ d3))) fun k H4 e4 hk _ => ev_var rfl
      refine s_when (b := at_ bl p &&& at_ (lowers bl p) j == at_ bl p) (et_is (et_test (ev_op (ev_lenN inner) ev_c (rv_eqN _ 0))) ?_) (fun cc H4 e4 => ?_) (fun cc H4 e4 => ⟨?_, _, rfl⟩)
      · rw [List.length_map, ← bits_sub hb16 (hm16 hmj)]
        exact decide_eq_decide.mpr (by omega)
      · refine s_appA (c.ex e4) (by
          rw [bitsR_len, List.length_map]
          refine Nat.lt_of_le_of_lt (List.length_filter_le _ _) (Nat.lt_of_le_of_lt (List.length_take_le _ _) ?_)
          omega) (ev_var rfl) (r := intsV (bits (at_ (lowers bl p) j ||| 2 ^ p))) ?_ fun H5 c5 _ => ⟨?_, _, rfl⟩
        · rw [← bits_add hp3 (lowers_lt hmj)]
          have e6 : intsV (bits (at_ (lowers bl p) j) ++ [p]) = intsV (bits (at_ (lowers bl p) j)) ++ [V.int (p : Int)] := by
            unfold intsV
            rw [List.map_append]
            rfl
          rw [e6]
          exact eu_cat1 (ev_var rfl) ((e3.trans e4) _ _ d3) (by rw [intsV_len]; exact Nat.lt_of_le_of_lt (bits_len (hm16 hmj)) (by decide)) (ea_cons (ev_var rfl) ea_nil)
        · rw [take_succ_at hj, List.filter_append, List.map_append, bitsR_app, List.filter_cons, if_pos cc]
          exact c5
      · rw [take_succ_at hj, List.filter_append, List.filter_cons, if_neg (by rw [cc]; decide), List.filter_nil, List.append_nil]
        exact c.ex e4
    · obtain ⟨c, v5, rfl⟩ := hP
      rw [ha2, List.take_length] at c
      have e3 := c.2.1
      have eH3 := eH.trans e3
      refine s_asgS (m1 := .lst) (m2 := .tup) (rows := bitsR (lowers bl p) ++ bitsR (((lowers bl p).filter fun m => at_ bl p &&& m == at_ bl p).map fun m => m ||| 2 ^ p)) (es_cat (ev_var rfl) (ev_var rfl) (hF.ex e3) c.s2 ?_) fun z H4 hz e4 h4 => ⟨eH3.trans e4, z, _, _, _, fresh_back eH3 hz, rfl, ?_⟩
      · have := List.length_filter_le (fun m => at_ bl p &&& m == at_ bl p) (lowers bl p)
        rw [bitsR_len, bitsR_len, List.length_map]
        omega
      · rw [← bitsR_app] at h4
        exact h4
  · obtain ⟨eH, fa, v3, v4, v5, hfa, rfl, hF⟩ := hP
    have hn' : ((n : Int)).toNat = n := by omega
    rw [hn'] at hF
    exact s_ret (ev_var rfl) fun H3 e3 => q fa H3 hfa (eH.trans e3) (hF.ex e3)
end
end KM

/-! ## KL4: the law's helpers: drawn families -/
namespace KM
open PySem PySem.Spec PyProof.Rows L2 Evl
/-- a new object of which ok is known -/
def EvP (te : TE) (σ : L2.St) (H : Hp) (ok : Addr → Hp → Prop) : Prop := ∀ H1, Ex H H1 → ∀ Q : VK, (∀ q H2, H1 q = none → Ex H1 H2 → ok q H2 → Q (.ref q) H2) → te σ H1 Q
section
variable {K : PySem.W.Frag} {σ : L2.St} {H H' : Hp} {te : TE} {D : Ends} {tz : TS} {ok : Addr → Hp → Prop}
theorem q_asgP {i : Nat} (h : EvP te σ H ok) (k : ∀ q H1, H q = none → Ex H H1 → ok q H1 → tz D (σ.set i (some (.ref q))) H1) : tSeq (tAsg te (gName i)) tz D σ H := h H (Ex.refl H) _ k
theorem s_asgP {i : Nat} (h : EvP te σ H ok) (k : ∀ q H1, H q = none → Ex H H1 → ok q H1 → D.nx (σ.set i (some (.ref q))) H1) : tAsg te (gName i) D σ H := h H (Ex.refl H) _ k
theorem s_retP (h : EvP te σ H ok) (k : ∀ q H1, H q = none → Ex H H1 → ok q H1 → D.rt (.ref q) H1) : tRet te D σ H := h H (Ex.refl H) _ k
theorem ep_call {sp : Sp} {dvs vs : List V} {E : XK} {ta : TA} (h : EvA ta σ H vs) (hs : ∀ H1, Ex H H1 → ∀ Q : VK, (∀ q H2, H1 q = none → Ex H1 H2 → ok q H2 → Q (.ref q) H2) → sp (vs ++ dvs) H1 Q E) : EvP (tCall sp dvs E ta) σ H ok := fun H1 e Q q =>
  h H1 e _ fun H2 e2 => hs H2 (e.trans e2) Q fun p H3 hp e3 o => q p H3 (fresh_back e2 hp) (e2.trans e3) o
end
theorem erase_perm {α : Type} : ∀ {l : List α} {i : Nat} (h : i < l.length), (l[i] :: l.eraseIdx i).Perm l
  | [], _, h => absurd h (Nat.not_lt_zero _)
  | a :: r, 0, _ => .refl _
  | a :: r, i + 1, h => by
    have ih := erase_perm (l := r) (i := i) (by simpa using h)
    exact (List.Perm.swap a _ _).trans (ih.cons a)
theorem erase_map {α β : Type} (f : α → β) : ∀ (l : List α) (i : Nat), (l.map f).eraseIdx i = (l.eraseIdx i).map f
  | [], _ => rfl
  | a :: r, 0 => rfl
  | a :: r, i + 1 => congrArg (List.cons (f a)) (erase_map f r i)
theorem fam_perm_rows {H : Hp} {as bs : List Addr} (p : as.Perm bs) : ∀ {F : List Nat}, Paired (fun b r => H b = some (HO.tup r)) as (bitsR F) → ∃ G : List Nat, F.Perm G ∧ Paired (fun b r => H b = some (HO.tup r)) bs (bitsR G) := by
  induction p with
  | nil =>
    intro F h
    cases F with
    | nil => exact ⟨[], .nil, .nil⟩
    | cons _ _ => cases h
  | cons x _ ih =>
    intro F h
    cases F with
    | nil => cases h
    | cons m r =>
      cases h with
      | cons h1 h2 =>
        obtain ⟨G, g1, g2⟩ := ih h2
        exact ⟨m :: G, g1.cons m, .cons h1 g2⟩
  | swap x y l =>
    intro F h
    match F, h with
    | m :: m' :: r, .cons h1 (.cons h2 h3) => exact ⟨m' :: m :: r, .swap m' m r, .cons h2 (.cons h1 h3)⟩
  | trans _ _ ih1 ih2 =>
    intro F h
    obtain ⟨G, g1, g2⟩ := ih1 h
    obtain ⟨G', g3, g4⟩ := ih2 g2
    exact ⟨G', g1.trans g3, g4⟩
section
variable {P : Program} {w : World} {K : PySem.W.Frag} {mg : Str → Option Value} {base : Heap} {CX : CXT} {f : Addr} {fd : FuncData}
/-! ## KL4: ### _law_drawn_lowers -/
abbrev nl_l_drawn_lowers : List Str := ["_law_hand_here", "_law_points", "_law_most", "_law_n", "_law_below", "_law_p", "_law_turn", "_law_sets", "_law_q"]
theorem sc_l_drawn_lowers : FnScope nl_l_drawn_lowers ["_law_hand_here", "_law_points", "_law_most"] (defScope s_l_drawn_lowers) := ⟨rfl, rfl, rfl, by decide +kernel, rfl, by decide +kernel, by decide +kernel⟩
-- slots: 0:~hand_here 1:~points 2:~most 3:~n 4:~below 5:~p 6:~turn 7:~sets 8:~q
def spFamK (h c : Addr) (cs : List Int) (H : Hp) (most : Nat) (Q : VK) : Prop := ∀ q H2 G, Kp H H2 → Hd H2 h c cs → H q = none → FamH H2 q G → Fam G → G.length ≤ most → Q (.ref q) H2
def spDLowers : Sp := fun vs H Q _ => ∃ (h c : Addr) (cs : List Int), vs = [.ref h, .int 3, .int 8] ∧ Hd H h c cs ∧ spFamK h c cs H 8 Q
theorem bitsR_ints {F : List Nat} {x : List V} (h : x ∈ bitsR F) : ∃ l, x = intsV l := by
  obtain ⟨m, _, rfl⟩ := List.mem_map.mp h
  exact ⟨_, rfl⟩
theorem bitsR_no {F : List Nat} {x : List V} (h : x ∈ bitsR F) : ¬ isHand (.lst x) := by
  obtain ⟨l, rfl⟩ := bitsR_ints h
  exact not_intsV
theorem at_snoc {l : List Nat} {m j : Nat} (hj : j < l.length + 1) : at_ (l ++ [m]) j = if j < l.length then at_ l j else m := by
  unfold at_
  rw [List.getD_eq_getElem?_getD, List.getD_eq_getElem?_getD]
  by_cases c : j < l.length
  · rw [if_pos c, List.getElem?_append_left c]
  · rw [if_neg c, List.getElem?_append_right (by omega), show j - l.length = 0 by omega]
    rfl
theorem ok_l_drawn_lowers {f1 f2 : Addr} {d1 d2 : FuncData} (h_l_take : Has P w K mg base CX0 2 "_law_take" ["_law_hand_here", "_law_many"] spTake f1 d1) (h_l_lowers : Has P w K mg base CX0 1 "_law_lowers" ["_law_n", "_law_below"] spLowers f2 d2)
    (F : At K "_law_drawn_lowers" "_law_drawn_lowers" s_l_drawn_lowers f fd) (T : Tx K mg) : FnOk P w K mg base CX 3 f fd ["_law_hand_here", "_law_points", "_law_most"] spDLowers := by
  refine F.ok sc_l_drawn_lowers (fun vs H Q E h => ?_) (fun cdv A outer s H vs Q E hr h => ?_)
  · obtain ⟨h, c, cs, rfl, _⟩ := h
    rfl
  obtain ⟨h, c, cs, rfl, hd, q⟩ := h
  refine ⟨_, PSs.nox (pss_cons (ps_set (i := 3) sc_l_drawn_lowers.nd rfl (by first | exact Or.inl rfl | exact Or.inr rfl) (pe_call h_l_take.ok (hr.mono (by decide)) rfl h_l_take.g h_l_take.kp h_l_take.b .nil pass0 (pa_cons (pv 0) (pa_cons (pe_op op_add (pv 1) pe_int) pa_nil))))
    (pss_cons (ps_set (i := 4) sc_l_drawn_lowers.nd rfl (by first | exact Or.inl rfl | exact Or.inr rfl) (pe_lst pa_nil))
    (pss_cons (ps_for PassesOwn.never rfl (pi_range1 (by rfl) T.m_range (pa_cons (pv 3) pa_nil)) (pg_name (i := 5) sc_l_drawn_lowers.nd rfl (by first | exact Or.inl rfl | exact Or.inr rfl))
      (pss_one (ps_expr (pe_bm PySem.F.plainAttrs_list PySem.F.slot_list_append PySem.F.type_list_append mt_append (pv 4) (pa_cons (pe_lc (own := [("_law_q", 8)]) (g := gName 8) rfl sc_l_drawn_lowers.nd (pi_range1 (by rfl) T.m_range (pa_cons (pv 5) pa_nil)) (blkOk_by (N := nl_l_drawn_lowers) (sc := (defScope s_l_drawn_lowers)) (by decide +kernel)) (fun _ _ _ _ _ => pg_name (i := 8) sc_l_drawn_lowers.nd rfl (by first | exact Or.inl rfl | exact Or.inr rfl)) (by intro _ _ _ _ _; exact pts_one (pt_cmpR op_eq (pe_call h_l_take.ok (hr.mono (by decide)) rfl h_l_take.g h_l_take.kp h_l_take.b .nil pass0 (pa_cons (pv 0) (pa_cons pe_int pa_nil))) pe_int (nomark _))) (by intro _ _ _ _ _; exact (pv 8))) pa_nil)))))
    (pss_cons (ps_for PassesOwn.never rfl (pi_range1 (by rfl) T.m_range (pa_cons (pe_op op_add (pv 3) pe_int) pa_nil)) (pg_name (i := 6) sc_l_drawn_lowers.nd rfl (by first | exact Or.inl rfl | exact Or.inr rfl))
      (pss_cons (ps_set (i := 7) sc_l_drawn_lowers.nd rfl (by first | exact Or.inl rfl | exact Or.inr rfl) (pe_call h_l_lowers.ok (hr.mono (by decide)) rfl h_l_lowers.g h_l_lowers.kp h_l_lowers.b .nil pass0 (pa_cons (pv 3) (pa_cons (pv 4) pa_nil))))
      (pss_cons (ps_if (pt_cmpR op_le (pe_callB (clen (K := K)) (by rfl) T.m_len (by decide +kernel) (pa_cons (pv 7) pa_nil)) (pv 2) (nomark _))
        (pss_one (ps_ret (pv 7)))
        pss_nil)
      (pss_one (ps_set (i := 3) sc_l_drawn_lowers.nd rfl (by first | exact Or.inl rfl | exact Or.inr rfl) (pe_op op_sub (pv 3) pe_int))))))
    (pss_one (ps_ret (pe_lst (pa_cons (pe_tup pa_nil) pa_nil)))))))), ?_⟩
  refine q_asgK (ek_take (n := 4) (fun H1 k1 => ea_cons (ev_var rfl) (ea_cons (ev_is (ev_addI (ev_var rfl) ev_c) rfl) ea_nil)) (by decide) (by decide)) hd fun v H1 k1 d1 o => ?_
  obtain ⟨n, hn, rfl⟩ := o
  refine q_asgL (el_lst ea_nil (by decide)) fun D H2 hD e2 h2 => ?_
  have hD0 : H D = none := k1.dom _ hD
  refine q_forR1 (n := (n : Int)) (ea_cons (ev_var rfl) ea_nil) (by omega) (fun i σ' H' => Kp H H' ∧ Hd H' h c cs ∧ (∃ v5, σ' = [some (.ref h), some (.int 3), some (.int 8), some (.int (n : Int)), some (.ref D), v5, none, none, none]) ∧ ∃ bl : List Nat, bl.length = i ∧ S2 .lst .lst H' D (bitsR bl) ∧ ∀ j, j < i → at_ bl j < 2 ^ j)
    (fun H3 e3 => ⟨k1.ex (e2.trans e3), d1.ex (e2.trans e3), ⟨none, rfl⟩, [], rfl, ⟨[], e3 _ _ h2, .nil⟩, fun j hj => absurd hj (Nat.not_lt_zero j)⟩) (fun i σ' H' hi hP => ?_) (fun σ' H' hP => ?_)
  · obtain ⟨k, d, ⟨v5, rfl⟩, bl, hbl, hS, hlt⟩ := hP
    have hi4 : i < 4 := by omega
    obtain ⟨as, hDl, hpr⟩ := id hS
    have hal : as.length = bl.length := by rw [Paired.length hpr, bitsR_len]
    have lc := ek_lcR (h := h) (c := c) (cs := cs) (H := H') (n := i) (j := 8) (vs := [8]) (σ := [some (V.ref h), some (.int 3), some (.int 8), some (.int (n : Int)), some (.ref D), some (.int (i : Int)), none, none, none]) (tr := tCons (tVar 5) tNil) (te := tVar 8)
      (t := tTest (tOp rEq (tCall spTake [] E0 (tCons (tVar 0) (tCons (tC (.int 3)) tNil))) (tC (.int 0)))) (fun i l => ∃ m, m < 2 ^ i ∧ l = bits m) (fun _ => True) (fun i r => r = i) (fun H1 _ => ea_cons (ev_var rfl) ea_nil) (by omega) (fun _ => rfl)
      (fun i hi H1 k1 d1 Q q => ek_take (H := H1) (n := 3) (fun H2 k2 => ea_cons (ev_var rfl) (ea_cons ev_c ea_nil)) (by decide) (by decide) H1 (.refl _) d1 _ fun v H2 k2 d2 o => by
        obtain ⟨r, hr, rfl⟩ := o
        exact ⟨rfl, _, rfl, q _ H2 k2 d2 trivial⟩)
      (fun i hi => (ek_ev fun H1 _ => ev_var rfl).imp fun v H1 _ e => ⟨i, rfl, e⟩) ⟨0, by decide, rfl⟩ (fun i' l r hi' _ _ hr ⟨m, hm, hl⟩ => by
        rw [hr, hl]
        refine ⟨m ||| 2 ^ i', ?_, bits_add (by omega) hm⟩
        exact Nat.or_lt_two_pow (Nat.lt_of_lt_of_le hm (Nat.pow_le_pow_right (by decide) (by omega))) (Nat.pow_lt_pow_right (by decide) (by omega))) (fun i l _ _ ⟨m, hm, hl⟩ => ⟨m, Nat.lt_of_lt_of_le hm (Nat.pow_le_pow_right (by decide) (by omega)), hl⟩)
    refine s_appK (l := D) (xs := as.map V.ref) (fun H3 k3 => k3.kp _ _ hDl not_refs) (fun H3 _ => ev_var rfl) lc d (by rw [List.length_map]; omega) fun v H3 k3 d3 o hD3 => ?_
    obtain ⟨p, l, rfl, hp, hpl, ⟨m, hm, rfl⟩, _⟩ := o
    have hpD : p ≠ D := fun c => by
      rw [c, hDl] at hp
      cases hp
    obtain ⟨as', _, hD3', hS3⟩ := (hS.kp k3 (fun _ => not_refs) fun _ => bitsR_no).appI (fun _ => bitsR_ints) (Or.inl rfl) hpD hpl
    rw [hD3] at hD3'
    have e9 := HO.lst.inj (Option.some.inj hD3')
    rw [← e9] at hS3
    refine ⟨(k.trans k3).mut hD0, hd.mut hD0 d3, ⟨_, rfl⟩, bl ++ [m], by rw [List.length_append, hbl]; rfl, ?_, fun j hj => ?_⟩
    · rw [bitsR_app]
      exact hS3
    · rw [at_snoc (by omega)]
      by_cases cj : j < bl.length
      · rw [if_pos cj]
        exact hlt j (by omega)
      · rw [if_neg cj, show j = i by omega]
        exact hm
  obtain ⟨k, d, ⟨v5, rfl⟩, bl, hbl, hS, hlt⟩ := hP
  have hn' : ((n : Int)).toNat = n := by omega
  rw [hn'] at hbl hlt
  obtain ⟨fam, l8⟩ := lowers_fam (bl := bl) (n := n) (by omega) hlt
  refine q_forR1 (n := (n : Int) + 1) (ea_cons (ev_addI (ev_var rfl) ev_c) ea_nil) (by omega) (fun i σ' H3 => i = 0 ∧ Ex H' H3 ∧ σ' = [some (.ref h), some (.int 3), some (.int 8), some (.int (n : Int)), some (.ref D), v5, none, none, none]) (fun H3 e3 => ⟨rfl, e3, rfl⟩) (fun i σ' H3 hi hP => ?_) (fun σ' H3 hP => ?_)
  · obtain ⟨rfl, e3, rfl⟩ := hP
    refine q_asgP (ep_call (ok := fun q H2 => FamH H2 q (lowers bl n)) (ea_cons (ev_var rfl) (ea_cons (ev_var rfl) ea_nil)) fun H4 e4 Q k2 => ⟨D, n, bl, rfl, by omega, by omega, hS.ex (e3.trans e4), hlt, k2⟩) fun z H4 hz e4 h4 => ?_
    have hl : (bitsR (lowers bl n)).length = (lowers bl n).length := bitsR_len _
    refine q_when (b := decide (((lowers bl n).length : Int) ≤ 8)) (et_test (ev_op (ev_lenSL (ea_cons (ev_var rfl) ea_nil) h4 hl) (ev_var rfl) rv_I0)) (fun _ H5 e5 => ?_) (fun c => ?_)
    · exact s_ret (ev_var rfl) fun H6 e6 => q z H6 (lowers bl n) (k.ex ((e3.trans e4).trans (e5.trans e6))) (d.ex ((e3.trans e4).trans (e5.trans e6))) (k.dom _ (fresh_back e3 hz)) (h4.ex (e5.trans e6)) fam l8
    · have := of_decide_eq_false c
      omega
  · obtain ⟨h0, _⟩ := hP
    omega
/-! ## KL4: ### _law_shuffled -/
abbrev nl_l_shuffled : List Str := ["_law_hand_here", "_law_things", "_law_left", "_law_told", "_law_turn"]
theorem sc_l_shuffled : FnScope nl_l_shuffled ["_law_hand_here", "_law_things"] (defScope s_l_shuffled) := ⟨rfl, rfl, rfl, by decide +kernel, rfl, by decide +kernel, by decide +kernel⟩
-- slots: 0:~hand_here 1:~things 2:~left 3:~told 4:~turn
def spShuf : Sp := fun vs H Q _ => ∃ (h c a : Addr) (cs : List Int) (G : List Nat), vs = [.ref h, .ref a] ∧ Hd H h c cs ∧ FamH H a G ∧ G.length ≤ 16 ∧ ∀ q H2 G', Kp H H2 → Hd H2 h c cs → H q = none → FamH H2 q G' → G.Perm G' → Q (.ref q) H2
theorem ok_l_shuffled {f1 : Addr} {d1 : FuncData} (h_l_take : Has P w K mg base CX0 2 "_law_take" ["_law_hand_here", "_law_many"] spTake f1 d1) (F : At K "_law_shuffled" "_law_shuffled" s_l_shuffled f fd) (T : Tx K mg) : FnOk P w K mg base CX 3 f fd ["_law_hand_here", "_law_things"] spShuf := by
  refine F.ok sc_l_shuffled (fun vs H Q E h => ?_) (fun cdv A outer s H vs Q E hr h => ?_)
  · obtain ⟨h, c, a, cs, G, rfl, _⟩ := h
    rfl
  obtain ⟨h, c, a, cs, G, rfl, hd, ⟨as, a1, a2⟩, h16, q⟩ := h
  refine ⟨_, PSs.nox (pss_cons (ps_set (i := 2) sc_l_shuffled.nd rfl (by first | exact Or.inl rfl | exact Or.inr rfl) (pe_callTy (clist (K := K)) (by rfl) T.m_list (by decide +kernel) (pa_cons (pv 1) pa_nil)))
    (pss_cons (ps_set (i := 3) sc_l_shuffled.nd rfl (by first | exact Or.inl rfl | exact Or.inr rfl) (pe_lst pa_nil))
    (pss_cons (ps_for PassesOwn.never rfl (pi_range1 (by rfl) T.m_range (pa_cons (pe_callB (clen (K := K)) (by rfl) T.m_len (by decide +kernel) (pa_cons (pv 1) pa_nil)) pa_nil)) (pg_name (i := 4) sc_l_shuffled.nd rfl (by first | exact Or.inl rfl | exact Or.inr rfl))
      (pss_one (ps_expr (pe_bm PySem.F.plainAttrs_list PySem.F.slot_list_append PySem.F.type_list_append mt_append (pv 3) (pa_cons (pe_bm PySem.F.plainAttrs_list PySem.F.slot_list_pop PySem.F.type_list_pop mt_popAt (pv 2) (pa_cons (pe_call h_l_take.ok (hr.mono (by decide)) rfl h_l_take.g h_l_take.kp h_l_take.b .nil pass0 (pa_cons (pv 0) (pa_cons (pe_callB (clen (K := K)) (by rfl) T.m_len (by decide +kernel) (pa_cons (pv 2) pa_nil)) pa_nil))) pa_nil)) pa_nil)))))
    (pss_one (ps_ret (pv 3)))))), ?_⟩
  have hal : as.length = G.length := by rw [Paired.length a2, List.length_map]
  refine q_asgL (el_list (ev_var rfl) (SqL.of a1)) fun D2 H1 hD2 e1 h1 => ?_
  refine q_asgL (el_lst ea_nil (by decide)) fun D1 H2 hD1 e2 h2 => ?_
  have hD1' : H D1 = none := fresh_back e1 hD1
  have n12 : D1 ≠ D2 := fun c => by
    rw [c, h1] at hD1
    cases hD1
  refine q_forR1 (n := (G.length : Int)) (ea_cons (ev_is (ev_lenL (ea_cons (ev_var rfl) ea_nil) ((e1.trans e2) _ _ a1)) (by rw [List.length_map, hal])) ea_nil) (by omega)
    (fun i σ' H' => Kp H H' ∧ Hd H' h c cs ∧ (∃ v4, σ' = [some (.ref h), some (.ref a), some (.ref D2), some (.ref D1), v4]) ∧ ∃ ts ls : List Addr, H' D1 = some (.lst (ts.map V.ref)) ∧ H' D2 = some (.lst (ls.map V.ref)) ∧ (ts ++ ls).Perm as ∧ ts.length = i)
    (fun H3 e3 => ⟨Kp.of ((e1.trans e2).trans e3), hd.ex ((e1.trans e2).trans e3), ⟨none, rfl⟩, [], as, e3 _ _ h2, e3 _ _ (e2 _ _ h1), .refl _, rfl⟩) (fun i σ' H' hi hP => ?_) (fun σ' H' hP => ?_)
  · obtain ⟨k, d, ⟨v4, rfl⟩, ts, ls, t1, t2, pm, ht⟩ := hP
    have hlen := pm.length_eq
    rw [List.length_append] at hlen
    have tk := ek_take (h := h) (c := c) (cs := cs) (H := H') (n := ls.length) (E := E0) (σ := [some (V.ref h), some (.ref a), some (.ref D2), some (.ref D1), some (.int (i : Int))]) (ta := tCons (tVar 0) (tCons (tCB (rLenS K) (tCons (tVar 2) tNil)) tNil))
      (fun H3 k3 => ea_cons (ev_var rfl) (ea_cons (ev_is (ev_lenL (ea_cons (ev_var rfl) ea_nil) (k3.kp _ _ t2 not_refs)) (by rw [List.length_map])) ea_nil)) (by omega) (by omega)
    refine ⟨_, rfl, Or.inl ⟨rfl, _, sq_of t1⟩, ⟨_, rfl, Or.inl ⟨rfl, _, sq_of t2⟩, tk H' (.refl _) d _ fun v H3 k3 d3 o => ?_⟩⟩
    obtain ⟨r, hr, rfl⟩ := o
    have t1' := k3.kp _ _ t1 not_refs
    have t2' := k3.kp _ _ t2 not_refs
    refine ⟨D2, _, (r : Int), r, .ref ls[r], rfl, rfl, t2', by omega, by omega, by rw [seqIndex_of (by omega) (by rw [List.length_map]; omega), Int.toNat_natCast], by rw [List.getElem?_map, List.getElem?_eq_getElem hr]; rfl, ?_⟩
    refine ⟨D1, _, _, rfl, rfl, by rw [upd_ne n12]; exact t1', sz_lt (by rw [List.length_map]; omega), ?_⟩
    have pe : (ls[r] :: ls.eraseIdx r).Perm ls := erase_perm hr
    refine ⟨((k.trans k3).mut hD2).mut hD1', hd.mut hD1' (hd.mut hD2 d3), ⟨_, rfl⟩, ts ++ [ls[r]], ls.eraseIdx r, by rw [upd_same, List.map_append]; rfl, ?_, ?_, by rw [List.length_append, ht]; rfl⟩
    · rw [upd_ne (Ne.symm n12), upd_same, erase_map]
    · rw [List.append_assoc]
      exact (List.Perm.append_left ts pe).trans pm
  · obtain ⟨k, d, ⟨v4, rfl⟩, ts, ls, t1, t2, pm, ht⟩ := hP
    have hlen := pm.length_eq
    rw [List.length_append] at hlen
    have hn' : ((G.length : Int)).toNat = G.length := by omega
    have hls : ls = [] := List.eq_nil_of_length_eq_zero (by omega)
    subst hls
    rw [List.append_nil] at pm
    obtain ⟨G', g1, g2⟩ := fam_perm_rows (H := H) pm.symm (F := G) a2
    exact s_ret (ev_var rfl) fun H3 e3 => q D1 H3 G' (k.ex e3) (d.ex e3) hD1' ⟨ts, e3 _ _ t1, Paired.imp2 g2 fun b r _ z => e3 _ _ (k.kp _ _ z not_tup)⟩ g1
end
end KM

/-! ## KL5: the law's helpers: drawn families -/
namespace KM
open PySem PySem.Spec PyProof.Rows L2 Evl
theorem rm65 {u k : Nat} (h : u + 16 * k + 200 < cLine) : u + 65 < cLine := by omega
theorem rm64 {u k : Nat} (h : u + 16 * k + 200 < cLine) : u + 64 < cLine := by omega
theorem grow_snoc (o a : Nat) : ∀ (r F : List Nat), grow o F (r ++ [a]) = if (grow o F r).contains (o &&& a) then grow o F r else grow o F r ++ [o &&& a]
  | [], F => rfl
  | b :: r, F => by
    show grow o (if F.contains (o &&& b) then F else F ++ [o &&& b]) (r ++ [a]) = _
    exact grow_snoc o a r _
theorem grow_len {o : Nat} : ∀ (r F : List Nat), (grow o F r).length ≤ F.length + r.length
  | [], F => Nat.le_refl _
  | b :: r, F => by
    have h := grow_len (o := o) r (if F.contains (o &&& b) then F else F ++ [o &&& b])
    show (grow o (if F.contains (o &&& b) then F else F ++ [o &&& b]) r).length ≤ _
    refine Nat.le_trans h ?_
    by_cases c : F.contains (o &&& b) = true
    · rw [if_pos c, List.length_cons]
      omega
    · rw [if_neg c]
      simp only [List.length_append, List.length_cons, List.length_nil]
      omega
theorem grow_lt {o : Nat} (ho : o < 16) : ∀ {r F : List Nat}, (∀ m, m ∈ F → m < 16) → ∀ m, m ∈ grow o F r → m < 16
  | [], F, h, m, hm => h m hm
  | b :: r, F, h, m, hm => by
    refine grow_lt ho (r := r) (F := if F.contains (o &&& b) then F else F ++ [o &&& b]) (fun x hx => ?_) m hm
    by_cases c : F.contains (o &&& b) = true
    · rw [if_pos c] at hx
      exact h x hx
    · rw [if_neg c] at hx
      rcases List.mem_append.mp hx with q | q
      · exact h x q
      · rw [List.mem_singleton.mp q]
        exact Nat.lt_of_le_of_lt Nat.and_le_left ho
section
variable {K : PySem.W.Frag} {σ : L2.St} {H H' : Hp} {ta tb : TE} {D : Ends} {tu tz : TS} {h c : Addr} {cs : List Int} {tr : TA} {n : Nat}
/-- for j in range(a drawn number below n) -/
theorem q_forRK {j : Nat} (ht : EvK ta σ h c cs H (fun v _ => ∃ r : Nat, r < n ∧ v = .int (r : Int))) (hn : n ≤ 100000) (d : Hd H h c cs) (Pv : Nat → L2.St → Hp → Prop) (h0 : ∀ H1, Kp H H1 → Hd H1 h c cs → Pv 0 σ H1)
    (hs : ∀ (i : Nat) σ' H', Pv i σ' H' → tu { D with nx := Pv (i + 1), ct := Pv (i + 1), bk := tz D } (σ'.set j (some (.int (i : Int)))) H') (hd : ∀ i σ' H', Pv i σ' H' → tz D σ' H') : tSeq (tFor (iRng1 (tCons ta tNil)) (gName j) tu) tz D σ H :=
  ht H (.refl H) d _ fun v H1 k1 d1 o => by
    obtain ⟨r, hr, rfl⟩ := o
    exact ⟨(r : Int), rfl, by omega, by omega, for_range (lo := 0) (n := ((r : Int)).toNat) Pv (h0 H1 k1 d1) (fun i σ' H' hi p => by
      have e0 : (0 : Int) + (i : Int) = (i : Int) := Int.zero_add _
      show tu { D with nx := Pv (i + 1), ct := Pv (i + 1), bk := tz D } (σ'.set j (some (.int ((0 : Int) + (i : Int))))) H'
      rw [e0]
      exact hs i σ' H' p) (fun σ' H' p => hd _ σ' H' p)⟩
end
section
variable {P : Program} {w : World} {K : PySem.W.Frag} {mg : Str → Option Value} {base : Heap} {CX : CXT} {f : Addr} {fd : FuncData}
/-! ## KL5: ### _law_drawn_family -/
abbrev nl_l_drawn_family : List Str := ["_law_hand_here", "_law_points", "_law_most", "_law_whole_here", "_law_family", "_law_turn", "_law_mask", "_law_one", "_law_grown", "_law_other", "_law_both", "_law_p"]
theorem sc_l_drawn_family : FnScope nl_l_drawn_family ["_law_hand_here", "_law_points", "_law_most"] (defScope s_l_drawn_family) := ⟨rfl, rfl, rfl, by decide +kernel, rfl, by decide +kernel, by decide +kernel⟩
-- slots: 0:~hand_here 1:~points 2:~most 3:~whole_here 4:~family 5:~turn 6:~mask 7:~one 8:~grown 9:~other 10:~both 11:~p
def spDFam : Sp := fun vs H Q _ => ∃ (h c : Addr) (cs : List Int) (pts most : Nat), vs = [.ref h, .int (pts : Int), .int (most : Int)] ∧ pts ≤ 4 ∧ 1 ≤ most ∧ most ≤ 16 ∧ Hd H h c cs ∧ spFamK h c cs H most Q
theorem ok_l_drawn_family {f1 f2 f3 : Addr} {d1 d2 d3 : FuncData} (h_l_take : Has P w K mg base CX0 2 "_law_take" ["_law_hand_here", "_law_many"] spTake f1 d1) (h_l_power : Has P w K mg base CX0 1 "_law_power" ["_law_base", "_law_exponent"] spPower f2 d2) (h_l_of_mask : Has P w K mg base CX0 2 "_law_of_mask" ["_law_mask", "_law_points"] spMask f3 d3)
    (F : At K "_law_drawn_family" "_law_drawn_family" s_l_drawn_family f fd) (T : Tx K mg) : FnOk P w K mg base CX 3 f fd ["_law_hand_here", "_law_points", "_law_most"] spDFam := by
  refine F.ok sc_l_drawn_family (fun vs H Q E h => ?_) (fun cdv A outer s H vs Q E hr h => ?_)
  · obtain ⟨h, c, cs, pts, most, rfl, _⟩ := h
    rfl
  obtain ⟨h, c, cs, pts, most, rfl, hp4, hm1, hm16, hd, q⟩ := h
  have hu65 := rm65 (k := 2) hr.un
  refine ⟨_, PSs.nox (pss_cons (ps_set (i := 3) sc_l_drawn_family.nd rfl (by first | exact Or.inl rfl | exact Or.inr rfl) (pe_tupRg rfl (by rfl) T.m_tuple (prg_1 (by rfl) T.m_range (pv 1))))
    (pss_cons (ps_set (i := 4) sc_l_drawn_family.nd rfl (by first | exact Or.inl rfl | exact Or.inr rfl) (pe_lst (pa_cons (pv 3) pa_nil)))
    (pss_cons (ps_for PassesOwn.never rfl (pi_range1 (by rfl) T.m_range (pa_cons (pe_call h_l_take.ok (hr.mono (by decide)) rfl h_l_take.g h_l_take.kp h_l_take.b .nil pass0 (pa_cons (pv 0) (pa_cons (pv 2) pa_nil))) pa_nil)) (pg_name (i := 5) sc_l_drawn_family.nd rfl (by first | exact Or.inl rfl | exact Or.inr rfl))
      (pss_cons (ps_set (i := 6) sc_l_drawn_family.nd rfl (by first | exact Or.inl rfl | exact Or.inr rfl) (pe_call h_l_take.ok (hr.mono (by decide)) rfl h_l_take.g h_l_take.kp h_l_take.b .nil pass0 (pa_cons (pv 0) (pa_cons (pe_call h_l_power.ok (hr.mono (by decide)) rfl h_l_power.g h_l_power.kp h_l_power.b .nil pass0 (pa_cons pe_int (pa_cons (pv 1) pa_nil))) pa_nil))))
      (pss_cons (ps_set (i := 7) sc_l_drawn_family.nd rfl (by first | exact Or.inl rfl | exact Or.inr rfl) (pe_call h_l_of_mask.ok (hr.mono (by decide)) rfl h_l_of_mask.g h_l_of_mask.kp h_l_of_mask.b .nil pass0 (pa_cons (pv 6) (pa_cons (pv 1) pa_nil))))
      (pss_cons (ps_set (i := 8) sc_l_drawn_family.nd rfl (by first | exact Or.inl rfl | exact Or.inr rfl) (pe_callTy (clist (K := K)) (by rfl) T.m_list (by decide +kernel) (pa_cons (pv 4) pa_nil)))
      (pss_cons (ps_for PassesOwn.never rfl (piL (K := K) (pv 4)) (pg_name (i := 9) sc_l_drawn_family.nd rfl (by first | exact Or.inl rfl | exact Or.inr rfl))
        (pss_cons (ps_set (i := 10) sc_l_drawn_family.nd rfl (by first | exact Or.inl rfl | exact Or.inr rfl) (pe_callTy (ctup (K := K)) (by rfl) T.m_tuple (by decide +kernel) (pa_cons (pe_lc (own := [("_law_p", 11)]) (g := gName 11) rfl sc_l_drawn_family.nd (piT (K := K) (pv 7)) (blkOk_by (N := nl_l_drawn_family) (sc := (defScope s_l_drawn_family)) (by decide +kernel)) (fun _ _ _ _ _ => pg_name (i := 11) sc_l_drawn_family.nd rfl (by first | exact Or.inl rfl | exact Or.inr rfl)) (by intro _ _ _ _ _; exact pts_one (pt_cmpR (oisin (K := K)) (pv 11) (pv 9) (by with_unfolding_all rfl))) (by intro _ _ _ _ _; exact (pv 11))) pa_nil)))
        (pss_one (ps_if (pt_cmpR (oninD (K := K) hu65) (pv 10) (pv 8) (by with_unfolding_all rfl))
          (pss_one (ps_expr (pe_bm PySem.F.plainAttrs_list PySem.F.slot_list_append PySem.F.type_list_append mt_append (pv 8) (pa_cons (pv 10) pa_nil))))
          pss_nil))))
      (pss_one (ps_if (pt_cmpR op_le (pe_callB (clen (K := K)) (by rfl) T.m_len (by decide +kernel) (pa_cons (pv 8) pa_nil)) (pv 2) (nomark _))
        (pss_one (ps_set (i := 4) sc_l_drawn_family.nd rfl (by first | exact Or.inl rfl | exact Or.inr rfl) (pe_callTy (clist (K := K)) (by rfl) T.m_list (by decide +kernel) (pa_cons (pv 8) pa_nil))))
        pss_nil)))))))
    (pss_one (ps_ret (pv 4)))))), ?_⟩
  have pow16 : 2 ^ pts ≤ 16 := Nat.pow_le_pow_right (n := 2) (j := 4) (by decide) hp4
  have pow1 : 1 ≤ 2 ^ pts := Nat.pow_pos (by decide)
  refine q_asgU (eu_trg (n := pts) (ev_var rfl) (by omega)) fun wh H1 hwh e1 h1 => ?_
  rw [nats_intsV, bits_full hp4] at h1
  refine q_asgL (el_lst (ea_cons (ev_var rfl) ea_nil) (by show 1 ≤ 100000; decide)) fun fa H2 hfa e2 h2 => ?_
  have hF0 : FamH H2 fa [2 ^ pts - 1] := ⟨[wh], h2, .cons (e2 _ _ h1) .nil⟩
  have hfa0 : H fa = none := fresh_back e1 hfa
  have e12 := e1.trans e2
  refine q_forRK (n := most) (h := h) (c := c) (cs := cs) (ek_take (fun H3 k3 => ea_cons (ev_var rfl) (ea_cons (ev_var rfl) ea_nil)) hm1 (by omega)) (by omega) (hd.ex e12)
    (fun i σ' H' => Kp H H' ∧ Hd H' h c cs ∧ ∃ (fa : Addr) (G : List Nat) (v5 v6 v7 v8 v9 v10 : Option V), H fa = none ∧ FamH H' fa G ∧ Fam G ∧ G.length ≤ most ∧ (2 ^ pts - 1 ∈ G ∧ ∀ m, m ∈ G → m < 2 ^ pts) ∧ σ' = [some (.ref h), some (.int (pts : Int)), some (.int (most : Int)), some (.ref wh), some (.ref fa), v5, v6, v7, v8, v9, v10, none])
    (fun H3 k3 d3 => ⟨Kp.pre e12 k3, d3, fa, [2 ^ pts - 1], none, none, none, none, none, none, hfa0, hF0.kp k3, fam_one hp4, hm1, ⟨by simp, fun m hm => by rw [List.mem_singleton.mp hm]; omega⟩, rfl⟩) (fun i σ' H' hP => ?_) (fun i σ' H' hP => ?_)
  · obtain ⟨k, d, fa, G, v5, v6, v7, v8, v9, v10, hfa, hF, fam, hG, ⟨hw, hlt⟩, rfl⟩ := hP
    -- a mask
    refine q_asgK (h := h) (c := c) (cs := cs) (ek_take (n := 2 ^ pts) (fun H3 k3 => ea_cons (ev_var rfl) (ea_cons (ev_call (ea_cons ev_c (ea_cons (ev_var rfl) ea_nil)) fun H4 e4 Q k2 E => ⟨2, pts, rfl, by decide, by omega, fun H5 e5 => k2 H5 e5⟩) ea_nil)) pow1 (by omega)) d fun v H3 k3 d3 o => ?_
    obtain ⟨o, ho, rfl⟩ := o
    have ho16 : o < 16 := by omega
    have hF3 := hF.kp k3
    refine q_asgU (eu_call (ea_cons (ev_var rfl) (ea_cons (ev_var rfl) ea_nil)) fun H4 e4 Q k2 E => ⟨o, pts, rfl, hp4, ho, k2⟩) fun ob H4 hob e4 h4 => ?_
    have hF4 := hF3.ex e4
    obtain ⟨as, a1, a2, a3⟩ := fam_row hF4
    have ha2 : (as.map V.ref).length = G.length := by rw [List.length_map]; exact a2
    refine q_asgL (el_list (ev_var rfl) (SqL.of a1)) fun gr H5 hgr e5 h5 => ?_
    have hG5 : FamH H5 gr G := by
      obtain ⟨as', b1, b2⟩ := hF4
      rw [a1] at b1
      have e9 := HO.lst.inj (Option.some.inj b1)
      rw [e9] at h5
      exact ⟨as', h5, Paired.imp2 b2 fun b r _ z => e5 _ _ z⟩
    -- the family grows
    refine q_forLn (a := fa) (xs := as.map V.ref) (ev_var rfl) (SqL.of (e5 _ _ a1)) (fun j σ' H6 => Ex H4 H6 ∧ FamH H6 gr (grow o G (G.take j)) ∧ ∃ v9 v10, σ' = [some (.ref h), some (.int (pts : Int)), some (.int (most : Int)), some (.ref wh), some (.ref fa), some (.int (i : Int)), some (.int (o : Int)), some (.ref ob), some (.ref gr), v9, v10, none])
      (fun H6 e6 => ⟨e5.trans e6, hG5.ex e6, _, _, rfl⟩) (fun j σ' H6 _ h => SqL.of (h.1 _ _ a1)) (fun j x σ' H6 hx hP => ?_) (fun σ' H6 hP => ?_)
    · obtain ⟨e6, hGr, v9, v10, rfl⟩ := hP
      have hj : j < G.length := by
        have := (List.getElem?_eq_some_iff.mp hx).1
        omega
      obtain ⟨b, b1, b2, b3⟩ := a3 j hj
      rw [b2] at hx
      obtain rfl := Option.some.inj hx
      have hm := fam.lt _ (at_mem hj)
      refine q_asgU (xs := intsV (bits (o &&& at_ G j))) (eu_tupN ?_) fun bo H7 hbo e7 h7 => ?_
      · rw [← bits_inter ho16 hm]
        exact el_lcTI (l := bits o) (fun p => (bits (at_ G j)).contains p) (fun z => V.int ((z : Nat) : Int)) (ev_var (i := 7) rfl) (e6 _ _ h4) (Nat.le_trans (bits_len ho16) (by decide)) (fun _ => rfl)
          (fun k H7 e7 hk => et_test (ev_inT (ev_var rfl) (ev_var rfl) ((e6.trans e7) _ _ b3))) fun k H7 e7 hk _ => ev_var rfl
      have hGr7 := hGr.ex e7
      have hnd : EvT (tTest (tOp (rNotInD K) (tVar 10) (tVar 8))) [some (V.ref h), some (.int (pts : Int)), some (.int (most : Int)), some (.ref wh), some (.ref fa), some (.int (i : Int)), some (.int (o : Int)), some (.ref ob), some (.ref gr), some (.ref b), some (.ref bo), none] H7 (!(grow o G (G.take j)).contains (o &&& at_ G j)) := by
        refine et_is (et_test (ev_op (z := .bl (!(famD ((grow o G (G.take j)).map bits)).any fun z => PyData.eqv z (.tuple (intsD (bits (o &&& at_ G j)))))) (ev_var rfl) (ev_var rfl) fun H8 e8 Q k2 => ⟨_, _, dp_tup (e8 _ _ h7), dp_fam (F := (grow o G (G.take j)).map bits) (by
          rw [List.map_map]
          exact hGr7.ex e8), shaped_tup _, shaped_fam _, k2 H8 (Ex.refl H8)⟩)) ?_
        refine congrArg not ?_
        unfold famD
        rw [List.map_map, List.any_map]
        have hlt16 : ∀ m, m ∈ grow o G (G.take j) → m < 16 := grow_lt ho16 fun m hm => fam.lt m hm
        have hoa : o &&& at_ G j < 16 := Nat.lt_of_le_of_lt Nat.and_le_left ho16
        generalize grow o G (G.take j) = R at hlt16
        induction R with
        | nil => rfl
        | cons m r ih =>
          rw [List.any_cons, ih fun x hx => hlt16 x (List.mem_cons_of_mem _ hx), List.contains_cons]
          congr 1
          show PyData.eqv (.tuple (intsD (bits m))) (.tuple (intsD (bits (o &&& at_ G j)))) = _
          rw [eqv_tup, bits_inj (hlt16 m List.mem_cons_self) hoa]
          exact Bool.eq_iff_iff.mpr ⟨fun z => beq_iff_eq.mpr (beq_iff_eq.mp z).symm, fun z => beq_iff_eq.mpr (beq_iff_eq.mp z).symm⟩
      have hglen : (grow o G (G.take j)).length ≤ 1000 := Nat.le_trans (grow_len _ _) (by
        have := List.length_take_le j G
        omega)
      refine s_when hnd (fun cc H8 e8 => ?_) (fun cc H8 e8 => ⟨(e6.trans e7).trans e8, ?_, _, _, rfl⟩)
      · obtain ⟨gs, g1, g2⟩ := hGr7.ex e8
        have hgl : gs.length = (grow o G (G.take j)).length := by rw [Paired.length g2, List.length_map]
        refine s_app (xs := gs.map V.ref) (v := .ref bo) g1 (ev_var rfl) (ev_var rfl) (by rw [List.length_map]; omega) fun H9 e9 => ⟨Ex.mut (((e6.trans e7).trans e8).trans e9) hgr, ?_, _, _, rfl⟩
        have nb : ∀ {x : Addr} {r : List V}, H9 x = some (.tup r) → x ≠ gr := fun hx c => by
          rw [c, e9 _ _ g1] at hx
          cases hx
        rw [take_succ_at hj, grow_snoc, if_neg (by simpa using cc)]
        refine ⟨gs ++ [bo], by rw [upd_same, List.map_append]; rfl, ?_⟩
        rw [List.map_append]
        refine Paired.snoc (Paired.imp2 g2 fun b r _ z => ?_) ?_
        · rw [upd_ne (nb (e9 _ _ z))]
          exact e9 _ _ z
        · rw [upd_ne (nb ((e8.trans e9) _ _ h7))]
          exact (e8.trans e9) _ _ h7
      · rw [take_succ_at hj, grow_snoc, if_pos (by simpa using cc)]
        exact hGr7.ex e8
    · obtain ⟨e6, hGr, v9, v10, rfl⟩ := hP
      rw [ha2, List.take_length] at hGr
      have k6 := (k.trans k3).ex (e4.trans e6)
      have d6 := d3.ex (e4.trans e6)
      have hl6 : (bitsR (grow o G G)).length = (grow o G G).length := bitsR_len _
      refine s_when (b := decide (((grow o G G).length : Int) ≤ (most : Int))) (et_test (ev_op (ev_lenSL (ea_cons (ev_var rfl) ea_nil) hGr hl6) (ev_var rfl) rv_I0)) (fun cc H7 e7 => ?_) (fun _ H7 e7 => ?_)
      · have cc := of_decide_eq_true cc
        obtain ⟨gs, g1, g2⟩ := hGr.ex e7
        have famG : Fam (grow o G G) := fam_grow fam ho16 fun t ht htm => by
          have h1 := htm _ hw
          have h2 := hlt t ht
          have e9 : t = 2 ^ pts - 1 := by
            have h3 : (2 ^ pts - 1) &&& t ≤ t := Nat.and_le_right
            omega
          rw [e9, Nat.and_two_pow_sub_one_eq_mod]
          exact Nat.mod_eq_of_lt ho
        refine s_asgL (el_list (ev_var rfl) (SqL.of g1)) fun nf H8 hnf e8 h8 => ?_
        refine ⟨k6.ex (e7.trans e8), d6.ex (e7.trans e8), nf, grow o G G, _, _, _, _, _, _, (k6.ex e7).dom _ hnf, ⟨gs, h8, Paired.imp2 g2 fun b r _ z => e8 _ _ z⟩, famG, by omega, ⟨grow_mem.mpr (Or.inl hw), fun m hm => ?_⟩, rfl⟩
        rcases grow_mem.mp hm with q1 | ⟨a, ha, e⟩
        · exact hlt m q1
        · rw [e]
          exact Nat.lt_of_le_of_lt Nat.and_le_left ho
      · exact ⟨k6.ex e7, d6.ex e7, fa, G, _, _, _, _, _, _, hfa, (hF4.ex (e6.trans e7)), fam, hG, ⟨hw, hlt⟩, rfl⟩
  · obtain ⟨k, d, fa, G, v5, v6, v7, v8, v9, v10, hfa, hF, fam, hG, _, rfl⟩ := hP
    exact s_ret (ev_var rfl) fun H3 e3 => q fa H3 G (k.ex e3) (d.ex e3) hfa (hF.ex e3) fam hG
end
end KM

/-! ## KL6: the law's helpers: what is due of lattices and maps -/
namespace KM
open PySem PySem.Spec PyProof.Rows L2 Evl
section
variable {K : PySem.W.Frag} {σ : L2.St} {H H' : Hp} {ta tb tx ty : TE} {p : Addr} {L : Lt}
theorem ev_plN (h1 : Ev ta σ H (.ref p)) (h : PL H p L) : Ev (tOp (rIx K) ta (tC (.int 0))) σ H (.int (L.n : Int)) := by
  obtain ⟨t, j, m, h2, _⟩ := h
  exact ev_xL (i := 0) h1 ev_c h2 rfl
theorem ev_plB (h1 : Ev ta σ H (.ref p)) (h : PL H p L) : Ev (tOp (rIx K) ta (tC (.int 4))) σ H (.int (L.bot : Int)) := by
  obtain ⟨t, j, m, h2, _⟩ := h
  exact ev_xL (i := 4) h1 ev_c h2 rfl
theorem ev_plT (h1 : Ev ta σ H (.ref p)) (h : PL H p L) : Ev (tOp (rIx K) ta (tC (.int 5))) σ H (.int (L.top : Int)) := by
  obtain ⟨t, j, m, h2, _⟩ := h
  exact ev_xL (i := 5) h1 ev_c h2 rfl
theorem ev_plJ {x y : Nat} (h1 : Ev ta σ H (.ref p)) (hx : Ev tx σ H (.int (x : Int))) (hy : Ev ty σ H (.int (y : Int))) (h : PL H p L) (lx : x < L.n) (ly : y < L.n) : Ev (tOp (rIx K) (tOp (rIx K) (tOp (rIx K) ta (tC (.int 2))) tx) ty) σ H (.int ((L.jn x y : Nat) : Int)) := by
  obtain ⟨t, j, m, h2, _, h3, _⟩ := h
  exact ev_jnL (ev_xL (i := 2) h1 ev_c h2 rfl) hx hy h3 lx ly
theorem ev_plM {x y : Nat} (h1 : Ev ta σ H (.ref p)) (hx : Ev tx σ H (.int (x : Int))) (hy : Ev ty σ H (.int (y : Int))) (h : PL H p L) (lx : x < L.n) (ly : y < L.n) : Ev (tOp (rIx K) (tOp (rIx K) (tOp (rIx K) ta (tC (.int 3))) tx) ty) σ H (.int ((L.mt x y : Nat) : Int)) := by
  obtain ⟨t, j, m, h2, _, _, h3⟩ := h
  exact ev_jnL (L := L.dual) (ev_xL (i := 3) h1 ev_c h2 rfl) hx hy h3 lx ly
end
section
variable {P : Program} {w : World} {K : PySem.W.Frag} {mg : Str → Option Value} {base : Heap} {CX : CXT} {f : Addr} {fd : FuncData}
/-! ## KL6: ### _law_distributive -/
abbrev nl_l_distributive : List Str := ["_law_plain", "_law_size", "_law_joins", "_law_meets", "_law_x", "_law_y", "_law_z"]
theorem sc_l_distributive : FnScope nl_l_distributive ["_law_plain"] (defScope s_l_distributive) := ⟨rfl, rfl, rfl, by decide +kernel, rfl, by decide +kernel, by decide +kernel⟩
-- slots: 0:~plain 1:~size 2:~joins 3:~meets 4:~x 5:~y 6:~z
def spDistr : Sp := fun vs H Q _ => ∃ (p : Addr) (L : Lt), vs = [.ref p] ∧ Good L ∧ PL H p L ∧ RetV (.bl L.distr) H Q
theorem distr_of {L : Lt} (h : ∀ x y z, x < L.n → y < L.n → z < L.n → y < z → L.mt x (L.jn y z) = L.jn (L.mt x y) (L.mt x z)) : L.distr = true := by
  unfold Lt.distr
  refine List.all_eq_true.mpr fun x hx => List.all_eq_true.mpr fun y hy => List.all_eq_true.mpr fun z hz => ?_
  by_cases c : z ≤ y
  · rw [decide_eq_true c]
    rfl
  · rw [h x y z (List.mem_range.mp hx) (List.mem_range.mp hy) (List.mem_range.mp hz) (by omega), beq_self_eq_true, Bool.or_true]
theorem distr_not {L : Lt} {x y z : Nat} (hx : x < L.n) (hy : y < L.n) (hz : z < L.n) (hyz : y < z) (h : ¬ L.mt x (L.jn y z) = L.jn (L.mt x y) (L.mt x z)) : L.distr = false := by
  by_cases c : L.distr = true
  · unfold Lt.distr at c
    have h1 := List.all_eq_true.mp (List.all_eq_true.mp (List.all_eq_true.mp c x (List.mem_range.mpr hx)) y (List.mem_range.mpr hy)) z (List.mem_range.mpr hz)
    rcases Bool.or_eq_true_iff.mp h1 with q | q
    · have := of_decide_eq_true q
      omega
    · exact absurd (eq_of_beq q) h
  · simpa using c
theorem ok_l_distributive (F : At K "_law_distributive" "_law_distributive" s_l_distributive f fd) (T : Tx K mg) : FnOk P w K mg base CX 1 f fd ["_law_plain"] spDistr := by
  refine F.ok sc_l_distributive (fun vs H Q E h => ?_) (fun cdv A outer s H vs Q E hr h => ?_)
  · obtain ⟨p, L, rfl, _⟩ := h
    rfl
  obtain ⟨p, L, rfl, g, hp, q⟩ := h
  refine ⟨_, PSs.nox (pss_cons (ps_set (i := 1) sc_l_distributive.nd rfl (by first | exact Or.inl rfl | exact Or.inr rfl) (pe_ix (ixq (K := K)) (pv 0) pe_int (fun _ _ => rfl)))
    (pss_cons (ps_set (i := 2) sc_l_distributive.nd rfl (by first | exact Or.inl rfl | exact Or.inr rfl) (pe_ix (ixq (K := K)) (pv 0) pe_int (fun _ _ => rfl)))
    (pss_cons (ps_set (i := 3) sc_l_distributive.nd rfl (by first | exact Or.inl rfl | exact Or.inr rfl) (pe_ix (ixq (K := K)) (pv 0) pe_int (fun _ _ => rfl)))
    (pss_cons (ps_for PassesOwn.never rfl (pi_range1 (by rfl) T.m_range (pa_cons (pv 1) pa_nil)) (pg_name (i := 4) sc_l_distributive.nd rfl (by first | exact Or.inl rfl | exact Or.inr rfl))
      (pss_one (ps_for PassesOwn.never rfl (pi_range1 (by rfl) T.m_range (pa_cons (pv 1) pa_nil)) (pg_name (i := 5) sc_l_distributive.nd rfl (by first | exact Or.inl rfl | exact Or.inr rfl))
        (pss_one (ps_for PassesOwn.never rfl (pi_range2 (by rfl) T.m_range (pa_cons (pe_op op_add (pv 5) pe_int) (pa_cons (pv 1) pa_nil))) (pg_name (i := 6) sc_l_distributive.nd rfl (by first | exact Or.inl rfl | exact Or.inr rfl))
          (pss_one (ps_if (pt_cmpR op_ne (pe_ix (ixq (K := K)) (pe_ix (ixq (K := K)) (pv 3) (pv 4) (fun _ _ => rfl)) (pe_ix (ixq (K := K)) (pe_ix (ixq (K := K)) (pv 2) (pv 5) (fun _ _ => rfl)) (pv 6) (fun _ _ => rfl)) (fun _ _ => rfl)) (pe_ix (ixq (K := K)) (pe_ix (ixq (K := K)) (pv 2) (pe_ix (ixq (K := K)) (pe_ix (ixq (K := K)) (pv 3) (pv 4) (fun _ _ => rfl)) (pv 5) (fun _ _ => rfl)) (fun _ _ => rfl)) (pe_ix (ixq (K := K)) (pe_ix (ixq (K := K)) (pv 3) (pv 4) (fun _ _ => rfl)) (pv 6) (fun _ _ => rfl)) (fun _ _ => rfl)) (nomark _))
            (pss_one (ps_ret pe_bl))
            pss_nil)))))))
    (pss_one (ps_ret pe_bl)))))), ?_⟩
  have n16 := g.small
  obtain ⟨t, j, m, h1, _, hJ, hM⟩ := id hp
  refine q_asg (v := .int (L.n : Int)) (ev_plN (ev_var rfl) hp) fun H1 e1 => ?_
  refine q_asg (v := .ref j) (ev_xL (i := 2) (ev_var rfl) ev_c (e1 _ _ h1) rfl) fun H2 e2 => ?_
  refine q_asg (v := .ref m) (ev_xL (i := 3) (ev_var rfl) ev_c ((e1.trans e2) _ _ h1) rfl) fun H3 e3 => ?_
  have e03 := (e1.trans e2).trans e3
  refine q_forR1 (n := (L.n : Int)) (ea_cons (ev_var rfl) ea_nil) (by omega) (fun x σ' H' => Ex H H' ∧ (∃ v4 v5 v6, σ' = [some (.ref p), some (.int (L.n : Int)), some (.ref j), some (.ref m), v4, v5, v6]) ∧ ∀ x' y z, x' < x → y < L.n → z < L.n → y < z → L.mt x' (L.jn y z) = L.jn (L.mt x' y) (L.mt x' z))
    (fun H4 e4 => ⟨e03.trans e4, ⟨none, none, none, rfl⟩, fun x' y z h => absurd h (Nat.not_lt_zero _)⟩) (fun x σ' H' hx hP => ?_) (fun σ' H' hP => ?_)
  · obtain ⟨e4, ⟨v4, v5, v6, rfl⟩, hx'⟩ := hP
    have hx : x < L.n := by omega
    refine s_forR1 (n := (L.n : Int)) (ea_cons (ev_var rfl) ea_nil) (by omega) (fun y σ' H' => Ex H H' ∧ (∃ v5 v6, σ' = [some (.ref p), some (.int (L.n : Int)), some (.ref j), some (.ref m), some (.int (x : Int)), v5, v6]) ∧ ∀ y' z, y' < y → z < L.n → y' < z → L.mt x (L.jn y' z) = L.jn (L.mt x y') (L.mt x z))
      (fun H5 e5 => ⟨e4.trans e5, ⟨_, _, rfl⟩, fun y z h => absurd h (Nat.not_lt_zero _)⟩) (fun y σ' H' hy hP => ?_) (fun σ' H' hP => ?_)
    · obtain ⟨e5, ⟨v5, v6, rfl⟩, hy'⟩ := hP
      have hy : y < L.n := by omega
      refine s_forR2 (lo := (y : Int) + 1) (n := (L.n : Int)) (ea_cons (ev_addI (ev_var rfl) ev_c) (ea_cons (ev_var rfl) ea_nil)) (by omega) (fun k σ' H' => Ex H H' ∧ (∃ v6, σ' = [some (.ref p), some (.int (L.n : Int)), some (.ref j), some (.ref m), some (.int (x : Int)), some (.int (y : Int)), v6]) ∧ ∀ z, z < y + 1 + k → z < L.n → y < z → L.mt x (L.jn y z) = L.jn (L.mt x y) (L.mt x z))
        (fun H6 e6 => ⟨e5.trans e6, ⟨_, rfl⟩, fun z h1 _ h2 => by omega⟩) (fun k σ' H' hk hP => ?_) (fun σ' H' hP => ?_)
      · obtain ⟨e6, ⟨v6, rfl⟩, hz'⟩ := hP
        have ek : (y : Int) + 1 + (k : Int) = ((y + 1 + k : Nat) : Int) := by omega
        have hz : y + 1 + k < L.n := by omega
        rw [ek]
        have hJ6 := hJ.ex e6
        have hM6 := hM.ex e6
        refine s_when (b := !decide (L.mt x (L.jn y (y + 1 + k)) = L.jn (L.mt x y) (L.mt x (y + 1 + k)))) (et_test (ev_op (ev_jnL (L := L.dual) (ev_var rfl) (ev_var rfl) (ev_jnL (ev_var rfl) (ev_var rfl) (ev_var rfl) hJ6 hy hz) hM6 hx (g.jn_lt hy hz))
          (ev_jnL (ev_var rfl) (ev_jnL (L := L.dual) (ev_var rfl) (ev_var rfl) (ev_var rfl) hM6 hx hy) (ev_jnL (L := L.dual) (ev_var rfl) (ev_var rfl) (ev_var rfl) hM6 hx hz) hJ6 (g.mt_lt hx hy) (g.mt_lt hx hz)) (rv_neN _ _))) (fun c H7 e7 => ?_) (fun c H7 e7 => ⟨e6.trans e7, ⟨_, rfl⟩, fun z h1 h2 h3 => ?_⟩)
        · have hne : ¬ L.mt x (L.jn y (y + 1 + k)) = L.jn (L.mt x y) (L.mt x (y + 1 + k)) := by simpa using c
          rw [distr_not hx hy hz (by omega) hne] at q
          exact s_ret ev_c fun H8 e8 => q H8 ((e6.trans e7).trans e8)
        · by_cases cz : z < y + 1 + k
          · exact hz' z cz h2 h3
          · rw [show z = y + 1 + k by omega]
            simpa using c
      · obtain ⟨e6, ⟨v6, rfl⟩, hz'⟩ := hP
        refine ⟨e6, ⟨_, _, rfl⟩, fun y' z h1 h2 h3 => ?_⟩
        by_cases cy : y' < y
        · exact hy' y' z cy h2 h3
        · have ey : y' = y := by omega
          subst ey
          exact hz' z (by omega) h2 h3
    · obtain ⟨e5, ⟨v5, v6, rfl⟩, hy'⟩ := hP
      refine ⟨e5, ⟨_, _, _, rfl⟩, fun x' y z h1 h2 h3 h4 => ?_⟩
      by_cases cx : x' < x
      · exact hx' x' y z cx h2 h3 h4
      · have ex : x' = x := by omega
        subst ex
        exact hy' y z (by omega) h3 h4
  · obtain ⟨e4, ⟨v4, v5, v6, rfl⟩, hx'⟩ := hP
    rw [distr_of fun x y z h1 h2 h3 h4 => hx' x y z (by omega) h2 h3 h4] at q
    exact s_ret ev_c fun H8 e8 => q H8 (e4.trans e8)
/-! ## KL6: ### _law_value -/
abbrev nl_l_value : List Str := ["_law_plain", "_law_context", "_law_worth"]
theorem sc_l_value : FnScope nl_l_value ["_law_plain", "_law_context", "_law_worth"] (defScope s_l_value) := ⟨rfl, rfl, rfl, by decide +kernel, rfl, by decide +kernel, by decide +kernel⟩
-- slots: 0:~plain 1:~context 2:~worth
def spValue : Sp := fun vs H Q _ => ∃ (p t : Addr) (L : Lt) (a b v : Nat), vs = [.ref p, .ref t, .int (v : Int)] ∧ Good L ∧ PL H p L ∧ H t = some (.tup [.int (a : Int), .int (b : Int)]) ∧ a < L.n ∧ b < L.n ∧ v < L.n ∧ RetV (.int ((L.jn a (L.mt b v) : Nat) : Int)) H Q
theorem ok_l_value (F : At K "_law_value" "_law_value" s_l_value f fd) (T : Tx K mg) : FnOk P w K mg base CX 1 f fd ["_law_plain", "_law_context", "_law_worth"] spValue := by
  refine F.ok sc_l_value (fun vs H Q E h => ?_) (fun cdv A outer s H vs Q E hr h => ?_)
  · obtain ⟨p, t, L, a, b, v, rfl, _⟩ := h
    rfl
  obtain ⟨p, t, L, a, b, v, rfl, g, hp, ht, ha, hb, hv, q⟩ := h
  refine ⟨_, PSs.nox (pss_one (ps_ret (pe_ix (ixq (K := K)) (pe_ix (ixq (K := K)) (pe_ix (ixq (K := K)) (pv 0) pe_int (fun _ _ => rfl)) (pe_ix (ixq (K := K)) (pv 1) pe_int (fun _ _ => rfl)) (fun _ _ => rfl)) (pe_ix (ixq (K := K)) (pe_ix (ixq (K := K)) (pe_ix (ixq (K := K)) (pv 0) pe_int (fun _ _ => rfl)) (pe_ix (ixq (K := K)) (pv 1) pe_int (fun _ _ => rfl)) (fun _ _ => rfl)) (pv 2) (fun _ _ => rfl)) (fun _ _ => rfl)))), ?_⟩
  exact s_ret (ev_plJ (ev_var rfl) (ev_xT (i := 0) (ev_var rfl) ev_c ht rfl) (ev_plM (ev_var rfl) (ev_xT (i := 1) (ev_var rfl) ev_c ht rfl) (ev_var rfl) hp hb hv) hp ha (g.mt_lt hb hv)) q
/-! ## KL6: ### _law_spoilt -/
abbrev nl_l_spoilt : List Str := ["_law_one", "_law_other", "_law_values", "_law_x", "_law_y"]
theorem sc_l_spoilt : FnScope nl_l_spoilt ["_law_one", "_law_other", "_law_values"] (defScope s_l_spoilt) := ⟨rfl, rfl, rfl, by decide +kernel, rfl, by decide +kernel, by decide +kernel⟩
-- slots: 0:~one 1:~other 2:~values 3:~x 4:~y
def spLSpoilt : Sp := fun vs H Q _ => ∃ (a b : Addr) (v : V) (A B : Lt) (g : List Nat), vs = [.ref a, .ref b, v] ∧ PL H a A ∧ PL H b B ∧ Good A ∧ Good B ∧ RowOf H v (some (intsV g)) ∧ g.length = A.n ∧ (∀ k, k ∈ g → k < B.n) ∧ RetF (mfault A B g) H Q
theorem ok_l_spoilt (F : At K "_law_spoilt" "_law_spoilt" s_l_spoilt f fd) (T : Tx K mg) : FnOk P w K mg base CX 1 f fd ["_law_one", "_law_other", "_law_values"] spLSpoilt := by
  refine F.ok sc_l_spoilt (fun vs H Q E h => ?_) (fun cdv A outer s H vs Q E hr h => ?_)
  · obtain ⟨a, b, v, A, B, g, rfl, _⟩ := h
    rfl
  obtain ⟨a, b, v, A, B, g, rfl, hA, hB, gA, gB, hv, hl, hg, q⟩ := h
  refine ⟨_, PSs.nox (pss_cons (ps_for PassesOwn.never rfl (pi_range1 (by rfl) T.m_range (pa_cons (pe_ix (ixq (K := K)) (pv 0) pe_int (fun _ _ => rfl)) pa_nil)) (pg_name (i := 3) sc_l_spoilt.nd rfl (by first | exact Or.inl rfl | exact Or.inr rfl))
      (pss_one (ps_for PassesOwn.never rfl (pi_range2 (by rfl) T.m_range (pa_cons (pe_op op_add (pv 3) pe_int) (pa_cons (pe_ix (ixq (K := K)) (pv 0) pe_int (fun _ _ => rfl)) pa_nil))) (pg_name (i := 4) sc_l_spoilt.nd rfl (by first | exact Or.inl rfl | exact Or.inr rfl))
        (pss_cons (ps_if (pt_cmpR op_ne (pe_ix (ixq (K := K)) (pv 2) (pe_ix (ixq (K := K)) (pe_ix (ixq (K := K)) (pe_ix (ixq (K := K)) (pv 0) pe_int (fun _ _ => rfl)) (pv 3) (fun _ _ => rfl)) (pv 4) (fun _ _ => rfl)) (fun _ _ => rfl)) (pe_ix (ixq (K := K)) (pe_ix (ixq (K := K)) (pe_ix (ixq (K := K)) (pv 1) pe_int (fun _ _ => rfl)) (pe_ix (ixq (K := K)) (pv 2) (pv 3) (fun _ _ => rfl)) (fun _ _ => rfl)) (pe_ix (ixq (K := K)) (pv 2) (pv 4) (fun _ _ => rfl)) (fun _ _ => rfl)) (nomark _))
          (pss_one (ps_ret (pe_tup (pa_cons (pv 3) (pa_cons (pv 4) (pa_cons pe_str pa_nil))))))
          pss_nil)
        (pss_one (ps_if (pt_cmpR op_ne (pe_ix (ixq (K := K)) (pv 2) (pe_ix (ixq (K := K)) (pe_ix (ixq (K := K)) (pe_ix (ixq (K := K)) (pv 0) pe_int (fun _ _ => rfl)) (pv 3) (fun _ _ => rfl)) (pv 4) (fun _ _ => rfl)) (fun _ _ => rfl)) (pe_ix (ixq (K := K)) (pe_ix (ixq (K := K)) (pe_ix (ixq (K := K)) (pv 1) pe_int (fun _ _ => rfl)) (pe_ix (ixq (K := K)) (pv 2) (pv 3) (fun _ _ => rfl)) (fun _ _ => rfl)) (pe_ix (ixq (K := K)) (pv 2) (pv 4) (fun _ _ => rfl)) (fun _ _ => rfl)) (nomark _))
          (pss_one (ps_ret (pe_tup (pa_cons (pv 3) (pa_cons (pv 4) (pa_cons pe_str pa_nil))))))
          pss_nil))))))
    (pss_one (ps_ret pe_non))), ?_⟩
  have n16 := gA.small
  refine q_forR1 (n := (A.n : Int)) (ea_cons (ev_plN (ev_var rfl) hA) ea_nil) (by omega) (fun i σ' H' => Ex H H' ∧ (∃ v3 v4, σ' = [some (.ref a), some (.ref b), some v, v3, v4]) ∧ mcol A B g i = none)
    (fun H2 e2 => ⟨e2, ⟨none, none, rfl⟩, rfl⟩) (fun x σ' H' hx hP => ?_) (fun σ' H' hP => ?_)
  · obtain ⟨e2, ⟨v3, v4, rfl⟩, hc⟩ := hP
    have hx : x < A.n := by omega
    refine s_forR2 (lo := (x : Int) + 1) (n := (A.n : Int)) (ea_cons (ev_addI (ev_var rfl) ev_c) (ea_cons (ev_plN (ev_var rfl) (hA.ex e2)) ea_nil)) (by omega) (fun i σ' H' => Ex H H' ∧ (∃ v4, σ' = [some (.ref a), some (.ref b), some v, some (.int (x : Int)), v4]) ∧ mrow A B g x i = none)
      (fun H2 e3 => ⟨e2.trans e3, ⟨_, rfl⟩, rfl⟩) (fun k σ' H' hk hP => ?_) (fun σ' H' hP => ?_)
    · obtain ⟨e3, ⟨v4, rfl⟩, hm⟩ := hP
      have ek : (x : Int) + 1 + (k : Int) = ((x + 1 + k : Nat) : Int) := by omega
      have hy : x + 1 + k < A.n := by omega
      rw [ek]
      generalize hyd : x + 1 + k = y at hy ⊢
      have gx := at_lt hg (by omega : x < g.length)
      have gy := at_lt hg (by omega : y < g.length)
      refine q_when (b := !decide (at_ g (A.jn x y) = B.jn (at_ g x) (at_ g y))) (et_test (ev_op (ev_xR (ev_var rfl) (ev_plJ (ev_var rfl) (ev_var rfl) (ev_var rfl) (hA.ex e3) hx hy) (hv.ex e3) (intsV_at (by rw [hl]; exact gA.jn_lt hx hy)))
        (ev_plJ (ev_var rfl) (ev_xR (ev_var rfl) (ev_var rfl) (hv.ex e3) (intsV_at (by omega))) (ev_xR (ev_var rfl) (ev_var rfl) (hv.ex e3) (intsV_at (by omega))) (hB.ex e3) gx gy) (rv_neN _ _))) (fun c H4 e4 => ?_) (fun c H4 e4 => ?_)
      · have c' : at_ g (A.jn x y) ≠ B.jn (at_ g x) (at_ g y) := by simpa using c
        have hw : spoil A B g x y = some true := if_pos c'
        have hmf := mfault_some hx hc (by omega) (show mrow A B g x (k + 1) = some (x, y, true) by rw [mrow_succ, hm, hyd, hw]; rfl)
        rw [hmf] at q
        exact s_retU (eu_tup (ea_cons (ev_var rfl) (ea_cons (ev_var rfl) (ea_cons ev_c ea_nil))) (by show 3 ≤ 100000; decide)) fun p H6 hp e6 h6 => q p H6 (fresh_back (e3.trans e4) hp) ((e3.trans e4).trans e6) h6
      · have c' : ¬ at_ g (A.jn x y) ≠ B.jn (at_ g x) (at_ g y) := by simpa using c
        have e34 := e3.trans e4
        refine s_when (b := !decide (at_ g (A.mt x y) = B.mt (at_ g x) (at_ g y))) (et_test (ev_op (ev_xR (ev_var rfl) (ev_plM (ev_var rfl) (ev_var rfl) (ev_var rfl) (hA.ex e34) hx hy) (hv.ex e34) (intsV_at (by rw [hl]; exact gA.mt_lt hx hy)))
          (ev_plM (ev_var rfl) (ev_xR (ev_var rfl) (ev_var rfl) (hv.ex e34) (intsV_at (by omega))) (ev_xR (ev_var rfl) (ev_var rfl) (hv.ex e34) (intsV_at (by omega))) (hB.ex e34) gx gy) (rv_neN _ _))) (fun d H5 e5 => ?_) (fun d H5 e5 => ⟨e34.trans e5, ⟨_, rfl⟩, ?_⟩)
        · have d' : at_ g (A.mt x y) ≠ B.mt (at_ g x) (at_ g y) := by simpa using d
          have hw : spoil A B g x y = some false := (if_neg c').trans (if_pos d')
          have hmf := mfault_some hx hc (by omega) (show mrow A B g x (k + 1) = some (x, y, false) by rw [mrow_succ, hm, hyd, hw]; rfl)
          rw [hmf] at q
          exact s_retU (eu_tup (ea_cons (ev_var rfl) (ea_cons (ev_var rfl) (ea_cons ev_c ea_nil))) (by show 3 ≤ 100000; decide)) fun p H6 hp e6 h6 => q p H6 (fresh_back (e34.trans e5) hp) ((e34.trans e5).trans e6) h6
        · have d' : ¬ at_ g (A.mt x y) ≠ B.mt (at_ g x) (at_ g y) := by simpa using d
          have hw : spoil A B g x y = none := (if_neg c').trans (if_neg d')
          rw [mrow_succ, hm, hyd, hw]
          rfl
    · obtain ⟨e3, ⟨v4, rfl⟩, hm⟩ := hP
      refine ⟨e3, ⟨_, _, rfl⟩, ?_⟩
      rw [mcol_succ, hc, show A.n - (x + 1) = ((A.n : Int) - ((x : Int) + 1)).toNat by omega, hm]
      rfl
  · obtain ⟨e2, ⟨v3, v4, rfl⟩, hc⟩ := hP
    have hmf : mfault A B g = none := by
      have e : ((A.n : Int)).toNat = A.n := by omega
      rw [e] at hc
      exact hc
    rw [hmf] at q
    exact s_ret ev_c fun H3 e3 => q H3 (e2.trans e3)
/-! ## KL6: ### _law_fault_of_map -/
abbrev nl_l_fault_of_map : List Str := ["_law_one", "_law_other", "_law_values", "_law_k"]
theorem sc_l_fault_of_map : FnScope nl_l_fault_of_map ["_law_one", "_law_other", "_law_values"] (defScope s_l_fault_of_map) := ⟨rfl, rfl, rfl, by decide +kernel, rfl, by decide +kernel, by decide +kernel⟩
-- slots: 0:~one 1:~other 2:~values 3:~k
def faultV : Option Int → V
  | some k => .int k
  | none => .non
def spLFault : Sp := fun vs H Q _ => ∃ (a b : Addr) (v : V) (A B : Lt) (r : Option (List V)), vs = [.ref a, .ref b, v] ∧ PL H a A ∧ PL H b B ∧ A.n ≤ 16 ∧ RowOf H v r ∧ ScR r ∧ RetV (faultV (faultOf A.n B.n r)) H Q
theorem whole_eq (m : Nat) {v : V} (h : scI v = true) : (!(isI v && !isB v) || !inR m v) = !okI m v := by
  cases v with
  | int i => rfl
  | bl i => rfl
  | non => rfl
  | str s => rfl
  | _ => cases h
theorem ok_l_fault_of_map {f1 : Addr} {d1 : FuncData} (h_l_whole : Has P w K mg base CX0 1 "_law_whole" ["_law_thing"] spWhole f1 d1) (F : At K "_law_fault_of_map" "_law_fault_of_map" s_l_fault_of_map f fd) (T : Tx K mg) : FnOk P w K mg base CX 2 f fd ["_law_one", "_law_other", "_law_values"] spLFault := by
  refine F.ok sc_l_fault_of_map (fun vs H Q E h => ?_) (fun cdv A outer s H vs Q E hr h => ?_)
  · obtain ⟨a, b, v, A, B, r, rfl, _⟩ := h
    rfl
  obtain ⟨a, b, v, A, B, r, rfl, hA, hB, n16, hv, hs, q⟩ := h
  refine ⟨_, PSs.nox (pss_cons (ps_if (PW.pt (pw_or (pt_not (pt_val (pe_callB (cisiT (K := K)) (by rfl) T.m_isinstance (by decide +kernel) (pa_cons (pv 2) (pa_cons (pe_tup (pa_cons (pe_bltn (v := .ty "list") (by rfl) T.m_list (by decide +kernel) rfl) (pa_cons (pe_bltn (v := .ty "tuple") (by rfl) T.m_tuple (by decide +kernel) rfl) pa_nil))) pa_nil))))) (pw_or1 (pt_cmpR op_ne (pe_callB (clen (K := K)) (by rfl) T.m_len (by decide +kernel) (pa_cons (pv 2) pa_nil)) (pe_ix (ixq (K := K)) (pv 0) pe_int (fun _ _ => rfl)) (nomark _)))))
      (pss_one (ps_ret (pe_un un_neg pe_int)))
      pss_nil)
    (pss_cons (ps_for PassesOwn.never rfl (pi_range1 (by rfl) T.m_range (pa_cons (pe_callB (clen (K := K)) (by rfl) T.m_len (by decide +kernel) (pa_cons (pv 2) pa_nil)) pa_nil)) (pg_name (i := 3) sc_l_fault_of_map.nd rfl (by first | exact Or.inl rfl | exact Or.inr rfl))
      (pss_one (ps_if (PW.pt (pw_or (pt_not (pt_val (pe_call h_l_whole.ok (hr.mono (by decide)) rfl h_l_whole.g h_l_whole.kp h_l_whole.b .nil pass0 (pa_cons (pe_ix (ixq (K := K)) (pv 2) (pv 3) (fun _ _ => rfl)) pa_nil)))) (pw_or1 (pt_not (pt_chain op_le op_lt pe_int (pe_ix (ixq (K := K)) (pv 2) (pv 3) (fun _ _ => rfl)) (pe_ix (ixq (K := K)) (pv 1) pe_int (fun _ _ => rfl)))))))
        (pss_one (ps_ret (pv 3)))
        pss_nil)))
    (pss_one (ps_ret pe_non)))), ?_⟩
  cases r with
  | none =>
    refine q_when (b := !false || true) (et_or (et_not (et_B (ev_isRow (ev_var rfl) hv))) fun c => by cases c) (fun _ H1 e1 => ?_) (fun c => by cases c)
    exact s_ret (ev_un ev_c ru_neg) fun H2 e2 => q H2 (e1.trans e2)
  | some xs =>
    refine q_when (b := !true || !decide (xs.length = A.n)) (et_or (et_not (et_B (ev_isRow (ev_var rfl) hv))) fun _ => et_test (ev_op (ev_lenR (ea_cons (ev_var rfl) ea_nil) hv) (ev_plN (ev_var rfl) hA) (rv_neN _ _))) (fun c H1 e1 => ?_) (fun c H1 e1 => ?_)
    · have hne : ¬ xs.length = A.n := by simpa using c
      have e : faultOf A.n B.n (some xs) = some (-1) := if_neg hne
      rw [e] at q
      exact s_ret (ev_un ev_c ru_neg) fun H2 e2 => q H2 (e1.trans e2)
    have hlen : xs.length = A.n := by simpa using c
    refine q_forR1 (n := (xs.length : Int)) (ea_cons (ev_lenR (ea_cons (ev_var rfl) ea_nil) (hv.ex e1)) ea_nil) (by omega) (fun i σ' H' => Ex H H' ∧ (∃ v3, σ' = [some (.ref a), some (.ref b), some v, v3]) ∧ ∀ (j : Nat) y, j < i → xs[j]? = some y → okI B.n y = true)
      (fun H2 e2 => ⟨e1.trans e2, ⟨none, rfl⟩, fun j y hj => absurd hj (Nat.not_lt_zero j)⟩) (fun i σ' H' hi hP => ?_) (fun σ' H' hP => ?_)
    · obtain ⟨e3, ⟨v3, rfl⟩, hg⟩ := hP
      have hi : i < xs.length := by omega
      have hx : xs[i]? = some xs[i] := List.getElem?_eq_getElem hi
      have hsx : scI xs[i] = true := hs xs _ rfl (List.getElem_mem hi)
      generalize xs[i] = x at hx hsx
      have hv3 := hv.ex e3
      refine s_when (b := !okI B.n x) (et_is (et_or (et_not (et_B (ev_call (ea_cons (ev_xR (ev_var rfl) (ev_var rfl) hv3 hx) ea_nil) fun H4 e4 Q k E => ⟨x, rfl, hsx, fun H5 e5 => k H5 e5⟩))) fun h1 => et_not (et_inR (m := B.n) ev_c (ev_xR (ev_var rfl) (ev_var rfl) hv3 hx) (ev_plN (ev_var rfl) (hB.ex e3)) hsx ?_ ?_)) (whole_eq _ hsx)) (fun c H3 e4 => ?_) (fun c H3 e4 => ⟨e3.trans e4, ⟨_, rfl⟩, fun j y hj hy => ?_⟩)
      · have : (isI x && !isB x) = true := by simpa using h1
        exact (Bool.and_eq_true_iff.mp this).1
      · have : (isI x && !isB x) = true := by simpa using h1
        simpa using (Bool.and_eq_true_iff.mp this).2
      · have hbad : okI B.n x = false := by simpa using c
        have e : faultOf A.n B.n (some xs) = some (i : Int) := by
          show (if xs.length = A.n then (badAt B.n xs).map fun (k : Nat) => (k : Int) else some (-1)) = _
          rw [if_pos hlen, badAt_some hx hbad hg]
          rfl
        rw [e] at q
        exact s_ret (ev_var rfl) fun H4 e5 => q H4 ((e3.trans e4).trans e5)
      · by_cases cj : j < i
        · exact hg j y cj hy
        · have e7 : j = i := by omega
          subst e7
          rw [hx] at hy
          rw [← Option.some.inj hy]
          simpa using c
    · obtain ⟨e3, ⟨v3, rfl⟩, hg⟩ := hP
      have e : faultOf A.n B.n (some xs) = none := by
        show (if xs.length = A.n then (badAt B.n xs).map fun (k : Nat) => (k : Int) else some (-1)) = _
        rw [if_pos hlen, badAt_none fun j y hy => hg j y (by have := (List.getElem?_eq_some_iff.mp hy).1; omega) hy]
        rfl
      rw [e] at q
      exact s_ret ev_c fun H4 e4 => q H4 (e3.trans e4)
/-! ## KL6: ### _law_all_due -/
abbrev nl_l_all_due : List Str := ["_law_one", "_law_other", "_law_told", "_law_number", "_law_values", "_law_rest", "_law_x"]
theorem sc_l_all_due : FnScope nl_l_all_due ["_law_one", "_law_other"] (defScope s_l_all_due) := ⟨rfl, rfl, rfl, by decide +kernel, rfl, by decide +kernel, by decide +kernel⟩
-- slots: 0:~one 1:~other 2:~told 3:~number 4:~values 5:~rest 6:~x
def spDue : Sp := fun vs H Q _ => ∃ (a b : Addr) (A B : Lt), vs = [.ref a, .ref b] ∧ PL H a A ∧ PL H b B ∧ Good A ∧ Good B ∧ A.n ≤ 5 ∧ B.n ≤ 5 ∧ ∀ q H2, H q = none → Ex H H2 → S2 .lst .tup H2 q ((allMaps A B).map intsV) → Q (.ref q) H2
theorem dle_snoc (m : Nat) : ∀ (i N : Nat), dle (i + 1) m N = dle i m N ++ [N / m ^ i % m]
  | 0, N => by
    show [N % m] = [N / m ^ 0 % m]
    rw [Nat.pow_zero, Nat.div_one]
  | i + 1, N => by
    show N % m :: dle (i + 1) m (N / m) = N % m :: (dle i m (N / m) ++ [N / m ^ (i + 1) % m])
    rw [dle_snoc m i (N / m), Nat.div_div_eq_div_mul, ← Nat.pow_succ']
theorem ok_l_all_due {f1 f2 : Addr} {d1 d2 : FuncData} (h_l_power : Has P w K mg base CX0 1 "_law_power" ["_law_base", "_law_exponent"] spPower f1 d1) (h_l_spoilt : Has P w K mg base CX0 1 "_law_spoilt" ["_law_one", "_law_other", "_law_values"] spLSpoilt f2 d2)
    (F : At K "_law_all_due" "_law_all_due" s_l_all_due f fd) (T : Tx K mg) : FnOk P w K mg base CX 2 f fd ["_law_one", "_law_other"] spDue := by
  refine F.ok sc_l_all_due (fun vs H Q E h => ?_) (fun cdv A outer s H vs Q E hr h => ?_)
  · obtain ⟨a, b, A, B, rfl, _⟩ := h
    rfl
  obtain ⟨a, b, A, B, rfl, hA, hB, gA, gB, nA, nB, q⟩ := h
  refine ⟨_, PSs.nox (pss_cons (ps_set (i := 2) sc_l_all_due.nd rfl (by first | exact Or.inl rfl | exact Or.inr rfl) (pe_lst pa_nil))
    (pss_cons (ps_for PassesOwn.never rfl (pi_range1 (by rfl) T.m_range (pa_cons (pe_call h_l_power.ok (hr.mono (by decide)) rfl h_l_power.g h_l_power.kp h_l_power.b .nil pass0 (pa_cons (pe_ix (ixq (K := K)) (pv 1) pe_int (fun _ _ => rfl)) (pa_cons (pe_ix (ixq (K := K)) (pv 0) pe_int (fun _ _ => rfl)) pa_nil))) pa_nil)) (pg_name (i := 3) sc_l_all_due.nd rfl (by first | exact Or.inl rfl | exact Or.inr rfl))
      (pss_cons (ps_set (i := 4) sc_l_all_due.nd rfl (by first | exact Or.inl rfl | exact Or.inr rfl) (pe_lst pa_nil))
      (pss_cons (ps_set (i := 5) sc_l_all_due.nd rfl (by first | exact Or.inl rfl | exact Or.inr rfl) (pv 3))
      (pss_cons (ps_for PassesOwn.never rfl (pi_range1 (by rfl) T.m_range (pa_cons (pe_ix (ixq (K := K)) (pv 0) pe_int (fun _ _ => rfl)) pa_nil)) (pg_name (i := 6) sc_l_all_due.nd rfl (by first | exact Or.inl rfl | exact Or.inr rfl))
        (pss_cons (ps_expr (pe_bm PySem.F.plainAttrs_list PySem.F.slot_list_append PySem.F.type_list_append mt_append (pv 4) (pa_cons (pe_op op_mod (pe_callTy call_int1 (by rfl) T.m_int (by decide +kernel) (pa_cons (pv 5) pa_nil)) (pe_ix (ixq (K := K)) (pv 1) pe_int (fun _ _ => rfl))) pa_nil)))
        (pss_one (ps_set (i := 5) sc_l_all_due.nd rfl (by first | exact Or.inl rfl | exact Or.inr rfl) (pe_op op_fdiv (pv 5) (pe_ix (ixq (K := K)) (pv 1) pe_int (fun _ _ => rfl)))))))
      (pss_cons (ps_expr (pe_bm0 PySem.F.plainAttrs_list PySem.F.slot_list_reverse PySem.F.type_list_reverse mt_reverse (pv 4)))
      (pss_one (ps_if (pt_cmp (pc_isN (pe_call h_l_spoilt.ok (hr.mono (by decide)) rfl h_l_spoilt.g h_l_spoilt.kp h_l_spoilt.b .nil pass0 (pa_cons (pv 0) (pa_cons (pv 1) (pa_cons (pv 4) pa_nil))))))
        (pss_one (ps_expr (pe_bm PySem.F.plainAttrs_list PySem.F.slot_list_append PySem.F.type_list_append mt_append (pv 2) (pa_cons (pe_callTy (ctup (K := K)) (by rfl) T.m_tuple (by decide +kernel) (pa_cons (pv 4) pa_nil)) pa_nil))))
        pss_nil)))))))
    (pss_one (ps_ret (pv 2))))), ?_⟩
  have pB : 0 < B.n := gB.pos
  have e3125 := pow_small nA nB
  refine q_asgL (el_lst ea_nil (by decide)) fun D H1 hD e1 h1 => ?_
  refine q_forR1 (n := ((B.n ^ A.n : Nat) : Int)) (ea_cons (ev_call (ea_cons (ev_plN (ev_var rfl) (hB.ex e1)) (ea_cons (ev_plN (ev_var rfl) (hA.ex e1)) ea_nil)) fun H2 e2 Q k E => ⟨B.n, A.n, rfl, by omega, by omega, fun H3 e3 => k H3 e3⟩) ea_nil) (by omega)
    (fun N σ' H' => Acc .tup H D ((mapsTo A B N).map intsV) H' ∧ ∃ v3 v4 v5 v6, σ' = [some (.ref a), some (.ref b), some (.ref D), v3, v4, v5, v6]) (fun H2 e2 => ⟨Acc.nil hD (e1.trans e2) (e2 _ _ h1), none, none, none, none, rfl⟩) (fun N σ' H' hN hP => ?_) (fun σ' H' hP => ?_)
  · obtain ⟨c, v3, v4, v5, v6, rfl⟩ := hP
    have hN : N < B.n ^ A.n := by omega
    refine q_asgL (el_lst ea_nil (by decide)) fun vl H2 hvl e2 h2 => ?_
    have hvl0 : H vl = none := fresh_back c.2.1 hvl
    refine q_asg (v := .int (N : Int)) (ev_var rfl) fun H3 e3 => ?_
    have cH2 := c.2.1
    refine q_forR1 (n := (A.n : Int)) (ea_cons (ev_plN (ev_var rfl) (hA.ex ((cH2.trans e2).trans e3))) ea_nil) (by omega) (fun i σ' H4 => Ex H' H4 ∧ H4 vl = some (.lst (intsV (dle i B.n N))) ∧ ∃ v6, σ' = [some (.ref a), some (.ref b), some (.ref D), some (.int (N : Int)), some (.ref vl), some (.int ((N / B.n ^ i : Nat) : Int)), v6])
      (fun H4 e4 => ⟨(e2.trans e3).trans e4, (e3.trans e4) _ _ h2, v6, by rw [Nat.pow_zero, Nat.div_one]; rfl⟩) (fun i σ' H4 hi hP => ?_) (fun σ' H4 hP => ?_)
    · obtain ⟨e4, h4, v6, rfl⟩ := hP
      have e04 := cH2.trans e4
      have em : (((N / B.n ^ i : Nat) : Int)) % (B.n : Int) = ((N / B.n ^ i % B.n : Nat) : Int) := by rw [Int.natCast_emod]
      have ed : (((N / B.n ^ i : Nat) : Int)) / (B.n : Int) = ((N / B.n ^ (i + 1) : Nat) : Int) := by
        rw [Nat.pow_succ, ← Nat.div_div_eq_div_mul]
        exact (Int.natCast_ediv _ _).symm
      refine q_app (xs := intsV (dle i B.n N)) (v := .int ((N / B.n ^ i % B.n : Nat) : Int)) h4 (ev_var rfl) (ev_is (ev_modC (ev_int (ea_cons (ev_var rfl) ea_nil)) (ev_plN (ev_var rfl) (hB.ex e04)) (by omega)) (congrArg V.int em)) (by rw [intsV_len, dle_len]; omega) fun H5 e5 => ?_
      have E5 : Ex H' (upd H5 vl (.lst (intsV (dle i B.n N) ++ [.int ((N / B.n ^ i % B.n : Nat) : Int)]))) := Ex.mut (e4.trans e5) hvl
      have h6 : upd H5 vl (.lst (intsV (dle i B.n N) ++ [.int ((N / B.n ^ i % B.n : Nat) : Int)])) vl = some (.lst (intsV (dle (i + 1) B.n N))) := by
        rw [upd_same, dle_snoc]
        unfold intsV
        rw [List.map_append]
        rfl
      generalize upd H5 vl (.lst (intsV (dle i B.n N) ++ [.int ((N / B.n ^ i % B.n : Nat) : Int)])) = H6 at E5 h6
      exact s_asg (v := .int ((N / B.n ^ (i + 1) : Nat) : Int)) (ev_is (ev_divC (ev_var rfl) (ev_plN (ev_var rfl) (hB.ex (cH2.trans E5))) (by constructor <;> omega)) (congrArg V.int ed)) fun H7 e7 => ⟨E5.trans e7, e7 _ _ h6, _, rfl⟩
    · obtain ⟨e4, h4, v6, rfl⟩ := hP
      have ei : ((A.n : Int)).toNat = A.n := by omega
      rw [ei] at h4 ⊢
      -- values.reverse()
      refine ⟨_, rfl, Or.inl ⟨rfl, _, sq_of h4⟩, vl, _, rfl, rfl, h4, ?_⟩
      have er : (intsV (dle A.n B.n N)).reverse = intsV (dg A.n B.n N) := by
        unfold intsV dg
        rw [List.map_reverse]
      rw [er]
      have E5 : Ex H' (upd H4 vl (.lst (intsV (dg A.n B.n N)))) := Ex.mut e4 hvl
      have h5 : upd H4 vl (.lst (intsV (dg A.n B.n N))) vl = some (.lst (intsV (dg A.n B.n N))) := upd_same
      generalize upd H4 vl (.lst (intsV (dg A.n B.n N))) = H5 at E5 h5
      have E05 := cH2.trans E5
      have t2 : EvT (tB (tIsN (tCall spLSpoilt [] E0 (tCons (tVar 0) (tCons (tVar 1) (tCons (tVar 4) tNil)))))) [some (.ref a), some (.ref b), some (.ref D), some (.int (N : Int)), some (.ref vl), some (.int ((N / B.n ^ A.n : Nat) : Int)), v6] H5 (mfault A B (dg A.n B.n N)).isNone := fun H6 e6 Q2 k2 =>
        ⟨_, rfl, _, rfl, _, rfl, a, b, .ref vl, A, B, dg A.n B.n N, rfl, hA.ex (E05.trans e6), hB.ex (E05.trans e6), gA, gB, ⟨vl, HO.lst, rfl, Or.inl rfl, e6 _ _ h5⟩, dg_len _ _ _, fun d hd => dg_lt pB hd, by
          cases hm : mfault A B (dg A.n B.n N) with
          | none =>
            rw [hm] at k2
            exact fun H5 e5 => ⟨_, rfl, k2 H5 e5⟩
          | some o =>
            rw [hm] at k2
            exact fun p5 H5 hp5 e5 h5 => ⟨_, rfl, k2 H5 e5⟩⟩
      refine s_when t2 (fun cc H6 e6 => ?_) (fun cc H6 e6 => ⟨?_, _, _, _, _, rfl⟩)
      · have hm : mfault A B (dg A.n B.n N) = none := by simpa using cc
        refine s_appA (c.ex (E5.trans e6)) (by
          rw [List.length_map]
          have := mapsTo_len A B N
          omega) (ev_var rfl) (r := intsV (dg A.n B.n N)) (eu_tupL (ea_cons (ev_var rfl) ea_nil) (e6 _ _ h5)) fun H7 c7 _ => ⟨?_, _, _, _, _, rfl⟩
        rw [mapsTo_yes hm, List.map_append]
        exact c7
      · rw [mapsTo_no fun c3 => by rw [c3] at cc; cases cc]
        exact c.ex (E5.trans e6)
  · obtain ⟨c, v3, v4, v5, v6, rfl⟩ := hP
    have ei : (((B.n ^ A.n : Nat) : Int)).toNat = B.n ^ A.n := by omega
    rw [ei] at c
    exact s_ret (ev_var rfl) fun H3 e3 => q D H3 hD (c.2.1.trans e3) (c.ex e3).s2
end
end KM

/-! ## KL7: the law's helpers: the maps' module asked, its errors caught -/
namespace KM
open PySem PySem.Spec PyProof.Rows L2 Evl
theorem takesF {X : Cx} : Takes X (fun _ _ _ _ => False) := fun u s' x => by
  obtain ⟨_, _, _, _, _, _, _, _, _, _, _, _, _, _, _, _, z⟩ := x
  exact z.elim
section
variable {K : PySem.W.Frag} {σ : L2.St} {H H' : Hp} {te : TE} {D : Ends} {tz : TS} {f : Str} {C a dd : Addr} {v : V}
theorem q_try {tb : WX → TS} {c : Value} {i : Nat} {ts : Addr → Value → Option Addr → TS} {Wout : WX} (h : tb (wAs K c i ts Wout { D with nx := tz D }) { D with nx := tz D } σ H) : tSeq (fun D σ H => tb (wAs K c i ts Wout D) D σ H) tz D σ H := h
theorem s_callS {sp : Sp} {E : L2.St → XK} {ta : TA} {i : Nat} {vs : List V} (ha : EvA ta σ H vs) (k : ∀ H1, Ex H H1 → sp vs H1 (fun v H2 => D.nx (σ.set i (some v)) H2) (E σ)) : tAsg (tCallS sp E ta) (gName i) D σ H := ha H (Ex.refl H) _ fun H1 e1 => k H1 e1
theorem s_listG {sp : SpG} {dvs : List V} {E : XK} {ta : TA} {i : Nat} {vs : List V} (ha : EvA ta σ H vs) (k : ∀ H1, Ex H H1 → sp (vs ++ dvs) H1 (fun out H2 => ∀ p, H2 p = none → D.nx (σ.set i (some (.ref p))) (upd H2 p (.lst out))) E) : tAsg (tListG (tCallG sp dvs E ta)) (gName i) D σ H := ha H (Ex.refl H) _ fun H1 e1 => k H1 e1
theorem ev_byF (h : Ev te σ H (.ref a)) (hd : H dd = some (.xd [(f, v)])) : Ev (tByF C a (.ref C) (some dd) f te) σ H v := fun H1 e Q q => h H1 e _ fun H2 e2 => ⟨rfl, rfl, dd, v, rfl, e2 _ _ (e _ _ hd), q H2 e2⟩
end
/-- what map_fault tells, as a value -/
def FV (o : Option (Nat × Nat × Bool)) (y : V) (H : Hp) : Prop := match o with
  | none => y = .non
  | some (x, z, w) => ∃ t, y = .ref t ∧ H t = some (.tup [.int (x : Int), .int (z : Int), .str (wordS w)])
theorem FV.ex {o : Option (Nat × Nat × Bool)} {y : V} {H H' : Hp} (h : FV o y H) (e : Ex H H') : FV o y H' := by
  match o, h with
  | none, h => exact h
  | some (x, z, w), ⟨t, h1, h2⟩ => exact ⟨t, h1, e _ _ h2⟩
/-- what is handed back of asking in the way j -/
def AskR (j : Nat) (A B : Lt) (r : Option (List V)) (x : Int) (y : V) (H : Hp) : Prop := match faultOf A.n B.n r with
  | some k => x = 1 ∧ y = .int k
  | none => x = 0 ∧ ∃ g, r = some (intsV g) ∧ (j = 0 → ∃ t, y = .ref t ∧ H t = some (.tup (intsV g))) ∧ (j = 1 → FV (mfault A B g) y H) ∧ (j = 2 → y = .bl (endsB A B g))
section
variable {P : Program} {w : World} {K : PySem.W.Frag} {mg : Str → Option Value} {base : Heap} {CX : CXT} {f C CB CT fB fT : Addr} {fd fdB fdT : FuncData}
/-! ## KL7: ### _law_asked -/
abbrev nl_l_asked : List Str := ["_law_way", "_law_first", "_law_second", "_law_values", "_law_told", "e"]
theorem sc_l_asked : FnScope nl_l_asked ["_law_way", "_law_first", "_law_second", "_law_values"] (defScope s_l_asked) := ⟨rfl, rfl, rfl, by decide +kernel, rfl, by decide +kernel, by decide +kernel⟩
-- slots: 0:~way 1:~first 2:~second 3:~values 4:~told 5:e
def spAsked (C : Addr) : Sp := fun vs H Q _ => ∃ (a b : Addr) (v : V) (A B : Lt) (r : Option (List V)) (j : Nat), vs = [.int (j : Int), .ref a, .ref b, v] ∧ j < 3 ∧ LI C H a A ∧ LI C H b B ∧ Good A ∧ Good B ∧ RowOf H v r ∧ ScR r ∧
  ∀ q x y H2, H q = none → Ex H H2 → H2 q = some (.lst [.int x, y]) → AskR j A B r x y H2 → Q (.ref q) H2
abbrev tArgs : TA := tCons (tVar 1) (tCons (tVar 2) (tCons (tVar 3) tNil))
abbrev tbA (C CB : Addr) (W : WX) : TS := tIfS (tTest (tOp rEq (tVar 0) (tC (.int 0)))) (tAsg (tCallS (spCheck C CB) (WE W) tArgs) (gName 4))
  (tIfS (tTest (tOp rEq (tVar 0) (tC (.int 1)))) (tAsg (tCallS (spFault C CB) (WE W) tArgs) (gName 4)) (tAsg (tCallS (spEnds C CB) (WE W) tArgs) (gName 4)))
abbrev tsA (CB a : Addr) (cls : Value) (d : Option Addr) : TS := tRet (tLst (tCons (tC (.int 1)) (tCons (tByF CB a cls d "index" (tVar 5)) tNil)))
theorem ok_l_asked {f1 f2 f3 : Addr} {d1 d2 d3 : FuncData} (h_check_map : Has P w K mg base (L2.CX P w) 3 "check_map" ["one", "other", "values"] (spCheck C CB) f1 d1) (h_map_fault : Has P w K mg base (L2.CX P w) 4 "map_fault" ["one", "other", "values"] (spFault C CB) f2 d2) (h_keeps_ends : Has P w K mg base (L2.CX P w) 4 "keeps_ends" ["one", "other", "values"] (spEnds C CB) f3 d3)
    (B1 : XC K mg "BadMap" "index" CB fB) (F : At K "_law_asked" "_law_asked" s_l_asked f fd) (T : Tx K mg) : FnOk P w K mg base CX 5 f fd ["_law_way", "_law_first", "_law_second", "_law_values"] (spAsked C) := by
  refine F.ok sc_l_asked (fun vs H Q E h => ?_) (fun cdv A outer s H vs Q E hr h => ?_)
  · obtain ⟨a, b, v, A, B, r, j, rfl, _⟩ := h
    rfl
  obtain ⟨a, b, v, A, B, r, j, rfl, hj, hA, hB, gA, gB, hv, hs, q⟩ := h
  have hr3 := hr.mono (show 3 ≤ 4 by decide)
  refine ⟨_, PSs.nox (pss_cons (ps_try_as (i := 5) (tb := tbA C CB) (ts := tsA CB) (Wout := fun _ _ _ _ => False) rfl rfl sc_l_asked.nd rfl rfl ⟨rfl, by decide, Or.inl B1.g⟩ takesF
    (fun W pn xe tk _ => pss_one (ps_if (pt_cmpR op_eq (pv 0) pe_int (nomark _))
      (pss_one (ps_set (i := 4) sc_l_asked.nd rfl (by first | exact Or.inl rfl | exact Or.inr rfl) (by exact (pe_callS h_check_map.ok hr3 rfl h_check_map.g h_check_map.kp h_check_map.b (fun σ => passAt tk σ) (by exact (pa_cons (pv 1) (pa_cons (pv 2) (pa_cons (pv 3) pa_nil))))))))
      (pss_one (ps_if (pt_cmpR op_eq (pv 0) pe_int (nomark _))
        (pss_one (ps_set (i := 4) sc_l_asked.nd rfl (by first | exact Or.inl rfl | exact Or.inr rfl) (by exact (pe_callS h_map_fault.ok hr rfl h_map_fault.g h_map_fault.kp h_map_fault.b (fun σ => passAt tk σ) (by exact (pa_cons (pv 1) (pa_cons (pv 2) (pa_cons (pv 3) pa_nil))))))))
        (pss_one (ps_set (i := 4) sc_l_asked.nd rfl (by first | exact Or.inl rfl | exact Or.inr rfl) (by exact (pe_callS h_keeps_ends.ok hr rfl h_keeps_ends.g h_keeps_ends.kp h_keeps_ends.b (fun σ => passAt tk σ) (by exact (pa_cons (pv 1) (pa_cons (pv 2) (pa_cons (pv 3) pa_nil))))))))))))
    (fun a oe cls d pn hz hf => pss_one (ps_ret (pe_lst (pa_cons pe_int (pa_cons (by exact pe_byF B1 hz hf (pv 5)) pa_nil))))))
    (pss_one (ps_ret (pe_lst (pa_cons pe_int (pa_cons (pv 4) pa_nil)))))), ?_⟩
  refine q_try ?_
  -- the error's way
  have bad : ∀ (D : Ends) H1, Ex H H1 → (∀ v H2, D.rt v H2 = Q v H2) → ∀ k, faultOf A.n B.n r = some k → BadX CB k H1 (WE (wAs K (.ref CB) 5 (tsA CB) (fun _ _ _ _ => False) D) (start nl_l_asked [.int (j : Int), .ref a, .ref b, v])) := fun D H1 e1 hD k hk H2 d e2 hd =>
    ⟨true, B1.te, fun _ a0 ha0 => by
      refine s_retL (el_lst (ea_cons ev_c (ea_cons (ev_byF (v := .int k) (dd := d) (ev_var rfl) upd_same) ea_nil)) (by show 2 ≤ 100000; decide)) fun p H3 hp e3 h3 => ?_
      show D.rt _ _
      rw [hD]
      have e13 := (e1.trans e2).trans (Ex.new (o := .xd [(("index" : Str), V.int k)]) hd)
      refine q p 1 (.int k) H3 (fresh_back e13 hp) (e13.trans e3) h3 ?_
      unfold AskR
      rw [hk]
      exact ⟨rfl, rfl⟩, fun c => by cases c⟩
  have args : ∀ H1, EvA tArgs (start nl_l_asked [.int (j : Int), .ref a, .ref b, v]) H1 [.ref a, .ref b, v] := fun H1 => ea_cons (ev_var rfl) (ea_cons (ev_var rfl) (ea_cons (ev_var rfl) ea_nil))
  -- [0, told]
  have good : ∀ y H1, Ex H H1 → faultOf A.n B.n r = none → AskR j A B r 0 y H1 → (∀ H2, Ex H1 H2 → AskR j A B r 0 y H2) → tRet (tLst (tCons (tC (.int 0)) (tCons (tVar 4) tNil))) { nx := fun x H' => Q V.non H', rt := Q } ((start nl_l_asked [.int (j : Int), .ref a, .ref b, v]).set 4 (some y)) H1 := fun y H1 e1 hn _ hy => by
    refine s_retL (el_lst (ea_cons ev_c (ea_cons (ev_var rfl) ea_nil)) (by show 2 ≤ 100000; decide)) fun p H3 hp e3 h3 => q p 0 y H3 (fresh_back e1 hp) (e1.trans e3) h3 (hy H3 e3)
  refine s_if (b := decide (j = 0)) (et_test (ev_op (ev_var rfl) ev_c (rv_eqN j 0))) (fun c H1 e1 => ?_) (fun c H1 e1 => ?_)
  · have hj0 := of_decide_eq_true c
    refine s_callS (args H1) fun H2 e2 => ⟨a, b, v, A, B, r, rfl, hA.ex (e1.trans e2), hB.ex (e1.trans e2), hv.ex (e1.trans e2), hs, bad _ H2 (e1.trans e2) (fun _ _ => rfl), fun hn xs hx p H3 e3 h3 => ?_⟩
    obtain ⟨g, hg, _⟩ := fault_none hn
    rw [hx] at hg
    have hxg := Option.some.inj hg
    have key : ∀ H4, Ex H3 H4 → AskR j A B r 0 (.ref p) H4 := fun H4 e4 => by
      unfold AskR
      rw [hn]
      exact ⟨rfl, g, by rw [hx, hxg], fun _ => ⟨p, rfl, by rw [← hxg]; exact e4 _ _ h3⟩, fun c => by omega, fun c => by omega⟩
    exact good _ H3 ((e1.trans e2).trans e3) hn (key H3 (Ex.refl H3)) key
  have hj0 := of_decide_eq_false c
  refine s_if (b := decide (j = 1)) (et_test (ev_op (ev_var rfl) ev_c (rv_eqN j 1))) (fun c2 H2 e2 => ?_) (fun c2 H2 e2 => ?_)
  · have hj1 := of_decide_eq_true c2
    have e12 := e1.trans e2
    refine s_callS (args H2) fun H3 e3 => ⟨a, b, v, A, B, r, rfl, hA.ex (e12.trans e3), hB.ex (e12.trans e3), gA, gB, hv.ex (e12.trans e3), hs, bad _ H3 (e12.trans e3) (fun _ _ => rfl), fun g hn hg => ?_⟩
    have key : ∀ y H4, FV (mfault A B g) y H4 → AskR j A B r 0 y H4 := fun y H4 hf => by
      unfold AskR
      rw [hn]
      exact ⟨rfl, g, hg, fun c => by omega, fun _ => hf, fun c => by omega⟩
    cases hm : mfault A B g with
    | none => exact fun H4 e4 => good _ H4 ((e12.trans e3).trans e4) hn (key _ _ (by rw [hm]; rfl)) fun H5 e5 => key _ _ (by rw [hm]; rfl)
    | some o =>
      obtain ⟨x, z, wd⟩ := o
      exact fun p H4 hp e4 h4 => good _ H4 ((e12.trans e3).trans e4) hn (key _ _ (by rw [hm]; exact ⟨p, rfl, h4⟩)) fun H5 e5 => key _ _ (by rw [hm]; exact ⟨p, rfl, e5 _ _ h4⟩)
  · have hj1 := of_decide_eq_false c2
    have e12 := e1.trans e2
    refine s_callS (args H2) fun H3 e3 => ⟨a, b, v, A, B, r, rfl, hA.ex (e12.trans e3), hB.ex (e12.trans e3), gA, gB, hv.ex (e12.trans e3), hs, bad _ H3 (e12.trans e3) (fun _ _ => rfl), fun g hn hg H4 e4 => ?_⟩
    have key : ∀ H5, AskR j A B r 0 (.bl (endsB A B g)) H5 := fun H5 => by
      unfold AskR
      rw [hn]
      exact ⟨rfl, g, hg, fun c => by omega, fun c => by omega, fun _ => rfl⟩
    exact good _ H4 ((e12.trans e3).trans e4) hn (key H4) fun H5 _ => key H5
/-! ## KL7: ### _law_all -/
abbrev nl_l_all : List Str := ["_law_first", "_law_second", "_law_told", "e"]
theorem sc_l_all : FnScope nl_l_all ["_law_first", "_law_second"] (defScope s_l_all) := ⟨rfl, rfl, rfl, by decide +kernel, rfl, by decide +kernel, by decide +kernel⟩
-- slots: 0:~first 1:~second 2:~told 3:e
def spAll (C : Addr) : Sp := fun vs H Q _ => ∃ (a b : Addr) (A B : Lt), vs = [.ref a, .ref b] ∧ LI C H a A ∧ LI C H b B ∧ Good A ∧ Good B ∧ (∀ q H2, H q = none → Ex H H2 → (5 < A.n ∨ 5 < B.n) → H2 q = some (.lst [.int 1, .int 5]) → Q (.ref q) H2) ∧
  (∀ q t H2, H q = none → Ex H H2 → A.n ≤ 5 → B.n ≤ 5 → H2 q = some (.lst [.int 0, .ref t]) → S2 .lst .tup H2 t ((allMaps A B).map intsV) → Q (.ref q) H2)
abbrev EL (CT : Addr) (W : WX) : XK := fun cls d H' => cls = .ref CT ∧ ∀ σ : L2.St, σ.length = 4 → W cls d σ H'
abbrev tbL (C CT : Addr) (W : WX) : TS := tAsg (tListG (tCallG (spMaps C CT) [] (EL CT W) (tCons (tVar 0) (tCons (tVar 1) tNil)))) (gName 2)
abbrev tsL (CT a : Addr) (cls : Value) (d : Option Addr) : TS := tRet (tLst (tCons (tC (.int 1)) (tCons (tByF CT a cls d "most" (tVar 3)) tNil)))
theorem outT_s2 {H : Hp} {out : List V} {fs : List (List Nat)} {p : Addr} (h : OutT H out fs) (hp : H p = none) : S2 .lst .tup (upd H p (.lst out)) p (fs.map intsV) := by
  have key : ∀ {out : List V} {fs : List (List Nat)}, OutT H out fs → ∃ as : List Addr, out = as.map V.ref ∧ Paired (fun b r => H b = some (HO.tup r)) as (fs.map intsV) := by
    intro out fs h
    induction h with
    | nil => exact ⟨[], rfl, .nil⟩
    | cons a _ ih =>
      obtain ⟨as, rfl, h2⟩ := ih
      obtain ⟨q, rfl, hq⟩ := a
      exact ⟨q :: as, rfl, .cons hq h2⟩
  obtain ⟨as, rfl, h2⟩ := key h
  exact ⟨as, upd_same, Paired.imp2 h2 fun b r _ z => by
    rw [upd_ne (ne_of_none z hp)]
    exact z⟩
theorem ok_l_all {f1 : Addr} {d1 : FuncData} (g1 : mg "all_maps" = some (.ref f1)) (k1 : PySem.W.keepIn K (.ref f1) = true) (b1 : Binds K d1 ["one", "other"] []) (G1 : GFn P w K mg base 5 f1 d1 ["one", "other"] (spMaps C CT)) (B1 : XC K mg "TooMany" "most" CT fT) (hS : PySem.W.subIn K (.ref CT) (.type "StopIteration") = some false)
    (F : At K "_law_all" "_law_all" s_l_all f fd) (T : Tx K mg) : FnOk P w K mg base CX 9 f fd ["_law_first", "_law_second"] (spAll C) := by
  refine F.ok sc_l_all (fun vs H Q E h => ?_) (fun cdv A outer s H vs Q E hr h => ?_)
  · obtain ⟨a, b, A, B, rfl, _⟩ := h
    rfl
  obtain ⟨a, b, A, B, rfl, hA, hB, gA, gB, kx, kq⟩ := h
  have hr5 := hr.mono (show 5 ≤ 8 by decide)
  refine ⟨_, PSs.nox (pss_cons (ps_try_as (i := 3) (tb := tbL C CT) (ts := tsL CT) (Wout := fun _ _ _ _ => False) rfl rfl sc_l_all.nd rfl rfl ⟨rfl, by decide, Or.inl B1.g⟩ takesF
    (fun W pn xe tk _ => pss_one (ps_set (i := 2) sc_l_all.nd rfl (by first | exact Or.inl rfl | exact Or.inr rfl) (by exact pe_listG (k := 5) (E := EL CT W) (pgen_call G1 hr5 rfl g1 k1 b1 .nil (by exact (pa_cons (pv 0) (pa_cons (pv 1) pa_nil)))) (fun pins σ H s e s' I c => tk e s' (XE.of_call I (fun cls d H' h => h.2 σ I.len) c)) (fun cls d H h => by rw [h.1]; exact hS) hr rfl T.m_list (by decide +kernel))))
    (fun a oe cls d pn hz hf => pss_one (ps_ret (pe_lst (pa_cons pe_int (pa_cons (by exact pe_byF B1 hz hf (pv 3)) pa_nil))))))
    (pss_one (ps_ret (pe_lst (pa_cons pe_int (pa_cons (pv 2) pa_nil)))))), ?_⟩
  refine q_try ?_
  have args : EvA (tCons (tVar 0) (tCons (tVar 1) tNil)) (start nl_l_all [.ref a, .ref b]) H [.ref a, .ref b] := ea_cons (ev_var rfl) (ea_cons (ev_var rfl) ea_nil)
  refine s_listG args fun H1 e1 => ⟨a, b, A, B, rfl, hA.ex e1, hB.ex e1, gA, gB, fun hc H2 d e2 hd => ⟨rfl, fun σ hσ => ⟨true, B1.te, fun _ a0 ha0 => ?_, fun c => by cases c⟩⟩, fun nA nB out H2 e2 ho p hp => ?_⟩
  · match σ, hσ with
    | [s0, s1, s2, s3], _ =>
      refine s_retL (el_lst (ea_cons ev_c (ea_cons (ev_byF (v := .int 5) (dd := d) (ev_var rfl) upd_same) ea_nil)) (by show 2 ≤ 100000; decide)) fun p H3 hp e3 h3 => ?_
      have e13 := (e1.trans e2).trans (Ex.new (o := .xd [(("most" : Str), V.int 5)]) hd)
      exact kx p H3 (fresh_back e13 hp) (e13.trans e3) hc h3
  · refine s_retL (el_lst (ea_cons ev_c (ea_cons (ev_var (v := .ref p) rfl) ea_nil)) (by show 2 ≤ 100000; decide)) fun z H3 hz e3 h3 => ?_
    have e13 := (e1.trans e2).trans (Ex.new (o := .lst out) hp)
    exact kq z p H3 (fresh_back e13 hz) (e13.trans e3) nA nB h3 ((outT_s2 ho hp).ex e3)
end
end KM

/-! ## KL8: the law's helpers: one map -/
namespace KM
open PySem PySem.Spec PyProof.Rows L2 Evl
mutual
theorem Dp.ex {K : PySem.W.Frag} {H H' : Hp} (e : Ex H H') : ∀ (d : PyData) (v : V), Dp K H v d → Dp K H' v d
  | .none, v, h => by
    cases h
    exact .non
  | .bool b, v, h => by
    cases h
    exact .bl _
  | .int i, v, h => by
    cases h
    exact .int _
  | .str s, v, h => by
    cases h
    exact .str _
  | .list ds, v, h => by
    cases h with
    | lst h1 h2 => exact .lst (ex_l e h1) (DpAll.ex e ds _ h2)
  | .tuple ds, v, h => by
    cases h with
    | tup h1 h2 => exact .tup (ex_t e h1) (DpAll.ex e ds _ h2)
  | .dict _, v, h => nomatch h
theorem DpAll.ex {K : PySem.W.Frag} {H H' : Hp} (e : Ex H H') : ∀ (ds : List PyData) (vs : List V), DpAll K H vs ds → DpAll K H' vs ds
  | [], vs, h => by
    cases h
    exact .nil
  | d :: ds, vs, h => by
    cases h with
    | cons h1 h2 => exact .cons (Dp.ex e d _ h1) (DpAll.ex e ds _ h2)
end
/-- a value of which the data are known -/
def EvD (K : PySem.W.Frag) (te : TE) (σ : L2.St) (H : Hp) (d : PyData) : Prop := ∀ H1, Ex H H1 → ∀ Q : VK, (∀ v H2, Ex H1 H2 → Dp K H2 v d → Q v H2) → te σ H1 Q
theorem shaped_pair {x : Int} {d : PyData} (h : d.canLay0 = true) (hd : d.depth ≤ 10) : SeqAt.shaped (.list [.int x, d]) = true := by
  unfold SeqAt.shaped
  rw [Bool.and_eq_true]
  refine ⟨?_, decide_eq_true ?_⟩
  · simp only [PyData.canLay0, PyData.canLayAll0, h]
    rfl
  · simp only [PyData.depth, PyData.depthAll]
    omega
theorem eqv_pair {x : Int} {d : PyData} (h : d.canLay0 = true) : PyData.eqv (.list [.int x, d]) (.list [.int x, d]) = true := by
  refine PySem.SeqAt.eqv_refl _ ?_
  simp only [PyData.canLay0, PyData.canLayAll0, h]
  rfl
section
variable {K : PySem.W.Frag} {σ : L2.St} {H H' : Hp} {ta tb te : TE} {v : V} {x : Int} {d : PyData}
/-- a list [x, y] that is just made -/
theorem ed_pair {ty : TE} (h : EvD K ty σ H d) : EvD K (tLst (tCons (tC (.int x)) (tCons ty tNil))) σ H (.list [.int x, d]) := fun H1 e Q q =>
  h H1 e _ fun v H2 e2 dv => ⟨by show 2 ≤ sizeLine; decide, fun p hp => q _ _ (e2.trans (Ex.new hp)) (.lst (SqL.of upd_same) (.cons (.int _) (.cons (Dp.ex (Ex.new hp) _ _ dv) .nil)))⟩
theorem ed_val (h : Ev te σ H v) (hd : ∀ H1, Ex H H1 → Dp K H1 v d) : EvD K te σ H d := fun H1 e Q q => h H1 e _ fun H2 e2 => q v H2 e2 (hd H2 (e.trans e2))
/-- a != b, alike -/
theorem et_neD (ha : EvD K ta σ H (.list [.int x, d])) (hb : EvD K tb σ H (.list [.int x, d])) (hl : d.canLay0 = true) (hz : d.depth ≤ 10) : EvT (tTest (tOp (rNeD K) ta tb)) σ H false := fun H1 e Q q =>
  ha H1 e _ fun v H2 e2 d2 => hb H2 (e.trans e2) _ fun u H3 e3 d3 => ⟨_, _, Dp.ex e3 _ _ d2, d3, shaped_pair hl hz, shaped_pair hl hz, _, rfl, by
    rw [eqv_pair hl]
    exact q H3 (e2.trans e3)⟩
theorem ev_eqD (ha : EvD K ta σ H (.list [.int x, d])) (hb : EvD K tb σ H (.list [.int x, d])) (hl : d.canLay0 = true) (hz : d.depth ≤ 10) : Ev (tOp (rEqD K) ta tb) σ H (.bl true) := fun H1 e Q q =>
  ha H1 e _ fun v H2 e2 d2 => hb H2 (e.trans e2) _ fun u H3 e3 d3 => ⟨_, _, Dp.ex e3 _ _ d2, d3, shaped_pair hl hz, shaped_pair hl hz, by
    rw [eqv_pair hl]
    exact q H3 (e2.trans e3)⟩
/-- tuple(values), values a list or a tuple -/
theorem tup_row {xs : List V} (hx : Ev ta σ H v) (h : RowOf H v (some xs)) : ∀ H1, Ex H H1 → ∀ Q : VK, (∀ t H2, Ex H1 H2 → H2 t = some (.tup xs) → Q (.ref t) H2) → tCB (rTupS K) (tCons ta tNil) σ H1 Q := fun H1 e Q q => by
  obtain ⟨a, m, rfl, hm, ha⟩ := h
  rcases hm with rfl | rfl
  · exact eu_tupL (ea_cons hx ea_nil) ha H1 e Q fun p H2 hp e2 h2 => q p H2 e2 h2
  · exact ev_tupT (ea_cons hx ea_nil) ha H1 e Q fun H2 e2 => q a H2 e2 ((e.trans e2) _ _ ha)
end
def faultD : Option (Nat × Nat × Bool) → PyData
  | none => .none
  | some (x, z, w) => .tuple [.int (x : Int), .int (z : Int), .str (wordS w)]
theorem faultD_lay (o : Option (Nat × Nat × Bool)) : (faultD o).canLay0 = true ∧ (faultD o).depth ≤ 10 := by
  match o with
  | none => exact ⟨rfl, by decide⟩
  | some (x, z, w) =>
    constructor
    · show PyData.canLay0 (.tuple [.int (x : Int), .int (z : Int), .str (wordS w)]) = true
      simp only [PyData.canLay0, PyData.canLayAll0]
      cases w <;> decide +kernel
    · show PyData.depth (.tuple [.int (x : Int), .int (z : Int), .str (wordS w)]) ≤ 10
      simp only [PyData.depth, PyData.depthAll]
      decide
theorem FV.dp {K : PySem.W.Frag} {o : Option (Nat × Nat × Bool)} {y : V} {H : Hp} (h : FV o y H) : Dp K H y (faultD o) := by
  match o, h with
  | none, h =>
    have h : y = .non := h
    rw [h]
    exact .non
  | some (x, z, w), ⟨t, h1, h2⟩ =>
    rw [h1]
    exact .tup (SqT.of h2) (.cons (.int _) (.cons (.int _) (.cons (.str _) .nil)))
theorem lay_ints (g : List Nat) : PyData.canLay0 (.tuple (intsD g)) = true ∧ PyData.depth (.tuple (intsD g)) ≤ 10 := by
  have := depth_ints g
  constructor
  · simp only [PyData.canLay0]
    exact canLay_ints g
  · simp only [PyData.depth]
    omega
section
variable {P : Program} {w : World} {K : PySem.W.Frag} {mg : Str → Option Value} {base : Heap} {CX : CXT} {f C : Addr} {fd : FuncData}
/-! ## KL8: ### _law_one_map -/
abbrev nl_l_one_map : List Str := ["_law_one", "_law_other", "_law_first", "_law_second", "_law_values", "_law_due", "_law_way", "_law_ends", "_law_told"]
theorem sc_l_one_map : FnScope nl_l_one_map ["_law_one", "_law_other", "_law_first", "_law_second", "_law_values"] (defScope s_l_one_map) := ⟨rfl, rfl, rfl, by decide +kernel, rfl, by decide +kernel, by decide +kernel⟩
-- slots: 0:~one 1:~other 2:~first 3:~second 4:~values 5:~due 6:~way 7:~ends 8:~told
def spOneMap (C : Addr) : Sp := fun vs H Q _ => ∃ (pa pb a b : Addr) (v : V) (A B : Lt) (r : Option (List V)), vs = [.ref pa, .ref pb, .ref a, .ref b, v] ∧ PL H pa A ∧ PL H pb B ∧ LI C H a A ∧ LI C H b B ∧ Good A ∧ Good B ∧ RowOf H v r ∧ ScR r ∧ RetV (.bl true) H Q
theorem ok_l_one_map {f1 f2 f3 : Addr} {d1 d2 d3 : FuncData} (h_l_fault_of_map : Has P w K mg base CX0 2 "_law_fault_of_map" ["_law_one", "_law_other", "_law_values"] spLFault f1 d1) (h_l_asked : Has P w K mg base CX0 5 "_law_asked" ["_law_way", "_law_first", "_law_second", "_law_values"] (spAsked C) f2 d2)
    (h_l_spoilt : Has P w K mg base CX0 1 "_law_spoilt" ["_law_one", "_law_other", "_law_values"] spLSpoilt f3 d3) (F : At K "_law_one_map" "_law_one_map" s_l_one_map f fd) (T : Tx K mg) : FnOk P w K mg base CX 6 f fd ["_law_one", "_law_other", "_law_first", "_law_second", "_law_values"] (spOneMap C) := by
  refine F.ok sc_l_one_map (fun vs H Q E h => ?_) (fun cdv A outer s H vs Q E hr h => ?_)
  · obtain ⟨pa, pb, a, b, v, A, B, r, rfl, _⟩ := h
    rfl
  obtain ⟨pa, pb, a, b, v, A, B, r, rfl, hPA, hPB, hA, hB, gA, gB, hv, hs, q⟩ := h
  have hu64 := rm64 (k := 5) hr.un
  refine ⟨_, PSs.nox (pss_cons (ps_set (i := 5) sc_l_one_map.nd rfl (by first | exact Or.inl rfl | exact Or.inr rfl) (pe_call h_l_fault_of_map.ok (hr.mono (by decide)) rfl h_l_fault_of_map.g h_l_fault_of_map.kp h_l_fault_of_map.b .nil pass0 (pa_cons (pv 0) (pa_cons (pv 1) (pa_cons (pv 4) pa_nil)))))
    (pss_cons (ps_if (pt_cmp (pc_notN (pv 5)))
      (pss_cons (ps_for PassesOwn.never rfl (pi_range1 (by rfl) T.m_range (pa_cons pe_int pa_nil)) (pg_name (i := 6) sc_l_one_map.nd rfl (by first | exact Or.inl rfl | exact Or.inr rfl))
        (pss_one (ps_if (pt_cmpR (oneD (K := K) hu64) (pe_call h_l_asked.ok (hr.mono (by decide)) rfl h_l_asked.g h_l_asked.kp h_l_asked.b .nil pass0 (pa_cons (pv 6) (pa_cons (pv 2) (pa_cons (pv 3) (pa_cons (pv 4) pa_nil))))) (pe_lst (pa_cons pe_int (pa_cons (pv 5) pa_nil))) (nomark _))
          (pss_one (ps_ret pe_bl))
          pss_nil)))
      (pss_one (ps_ret pe_bl)))
      pss_nil)
    (pss_cons (ps_if (pt_cmpR (oneD (K := K) hu64) (pe_call h_l_asked.ok (hr.mono (by decide)) rfl h_l_asked.g h_l_asked.kp h_l_asked.b .nil pass0 (pa_cons pe_int (pa_cons (pv 2) (pa_cons (pv 3) (pa_cons (pv 4) pa_nil))))) (pe_lst (pa_cons pe_int (pa_cons (pe_callTy (ctup (K := K)) (by rfl) T.m_tuple (by decide +kernel) (pa_cons (pv 4) pa_nil)) pa_nil))) (nomark _))
      (pss_one (ps_ret pe_bl))
      pss_nil)
    (pss_cons (ps_if (pt_cmpR (oneD (K := K) hu64) (pe_call h_l_asked.ok (hr.mono (by decide)) rfl h_l_asked.g h_l_asked.kp h_l_asked.b .nil pass0 (pa_cons pe_int (pa_cons (pv 2) (pa_cons (pv 3) (pa_cons (pv 4) pa_nil))))) (pe_lst (pa_cons pe_int (pa_cons (pe_call h_l_spoilt.ok (hr.mono (by decide)) rfl h_l_spoilt.g h_l_spoilt.kp h_l_spoilt.b .nil pass0 (pa_cons (pv 0) (pa_cons (pv 1) (pa_cons (pv 4) pa_nil)))) pa_nil))) (nomark _))
      (pss_one (ps_ret pe_bl))
      pss_nil)
    (pss_cons (ps_set (i := 7) sc_l_one_map.nd rfl (by first | exact Or.inl rfl | exact Or.inr rfl) (pe_and (pe_cmpR op_eq (pe_ix (ixq (K := K)) (pv 4) (pe_ix (ixq (K := K)) (pv 0) pe_int (fun _ _ => rfl)) (fun _ _ => rfl)) (pe_ix (ixq (K := K)) (pv 1) pe_int (fun _ _ => rfl)) (nomark _)) (pe_one (pe_cmpR op_eq (pe_ix (ixq (K := K)) (pv 4) (pe_ix (ixq (K := K)) (pv 0) pe_int (fun _ _ => rfl)) (fun _ _ => rfl)) (pe_ix (ixq (K := K)) (pv 1) pe_int (fun _ _ => rfl)) (nomark _)))))
    (pss_cons (ps_set (i := 8) sc_l_one_map.nd rfl (by first | exact Or.inl rfl | exact Or.inr rfl) (pe_call h_l_asked.ok (hr.mono (by decide)) rfl h_l_asked.g h_l_asked.kp h_l_asked.b .nil pass0 (pa_cons pe_int (pa_cons (pv 2) (pa_cons (pv 3) (pa_cons (pe_callTy (ctup (K := K)) (by rfl) T.m_tuple (by decide +kernel) (pa_cons (pv 4) pa_nil)) pa_nil))))))
    (pss_one (ps_ret (pe_and (pe_cmpR op_eq (pe_ix (ixq (K := K)) (pv 8) pe_int (fun _ _ => rfl)) pe_int (nomark _)) (pe_and (pe_callB (cisi (K := K)) (by rfl) T.m_isinstance (by decide +kernel) (pa_cons (pe_ix (ixq (K := K)) (pv 8) pe_int (fun _ _ => rfl)) (pa_cons (pe_bltn (v := .ty "bool") (by rfl) T.m_bool (by decide +kernel) rfl) pa_nil))) (pe_one (pe_cmpR op_eq (pe_ix (ixq (K := K)) (pv 8) pe_int (fun _ _ => rfl)) (pv 7) (nomark _))))))))))))), ?_⟩
  refine q_asg (v := faultV (faultOf A.n B.n r)) (ev_call (ea_cons (ev_var rfl) (ea_cons (ev_var rfl) (ea_cons (ev_var rfl) ea_nil))) fun H1 e1 Q k E => ⟨pa, pb, v, A, B, r, rfl, hPA.ex e1, hPB.ex e1, gA.small, hv.ex e1, hs, fun H2 e2 => k H2 e2⟩) fun H1 e1 => ?_
  -- asking
  have ask : ∀ (σ : L2.St) (j : Nat) (ta : TA) H2, Ex H H2 → j < 3 → (∀ H3, Ex H2 H3 → EvA ta σ H3 [.int (j : Int), .ref a, .ref b, v]) → ∀ H3, Ex H2 H3 → ∀ Q : VK, (∀ q x y H4, H3 q = none → Ex H3 H4 → H4 q = some (.lst [.int x, y]) → AskR j A B r x y H4 → Q (.ref q) H4) → tCall (spAsked C) [] E0 ta σ H3 Q :=
    fun σ j ta H2 e2 hj ha H3 e3 Q k => ha H3 e3 H3 (Ex.refl H3) _ fun H4 e4 => ⟨a, b, v, A, B, r, j, rfl, hj, hA.ex ((e2.trans e3).trans e4), hB.ex ((e2.trans e3).trans e4), gA, gB, hv.ex ((e2.trans e3).trans e4), hs, fun q x y H5 hq e5 h5 h6 => k q x y H5 (fresh_back e4 hq) (e4.trans e5) h5 h6⟩
  cases hf : faultOf A.n B.n r with
  | some k =>
    refine q_when (b := true) (et_B (ev_is (ev_notN (ev_var (v := .int k) rfl)) rfl)) (fun _ H2 e2 => ?_) (fun c => by cases c)
    refine q_forR1 (n := 3) (ea_cons ev_c ea_nil) (by decide) (fun i σ' H' => Ex H H' ∧ ∃ v6, σ' = [some (.ref pa), some (.ref pb), some (.ref a), some (.ref b), some v, some (.int k), v6, none, none]) (fun H3 e3 => ⟨(e1.trans e2).trans e3, none, rfl⟩) (fun i σ' H' hi hP => ?_) (fun σ' H' hP => ?_)
    · obtain ⟨e3, v6, rfl⟩ := hP
      refine s_when (b := false) (et_neD (x := 1) (d := .int k) (fun H4 e4 Q k2 => ask _ i _ H' e3 (by omega) (fun H5 e5 => ea_cons (ev_var rfl) (ea_cons (ev_var rfl) (ea_cons (ev_var rfl) (ea_cons (ev_var rfl) ea_nil)))) H4 e4 Q fun q x y H5 hq e5 h5 h6 => ?_) (ed_pair (ed_val (ev_var rfl) fun H4 e4 => .int k)) (by simp only [PyData.canLay0]) (by simp only [PyData.depth]; decide)) (fun c => by cases c) fun _ H4 e4 => ⟨e3.trans e4, _, rfl⟩
      unfold AskR at h6
      rw [hf] at h6
      obtain ⟨rfl, rfl⟩ := h6
      exact k2 _ H5 e5 (.lst (SqL.of h5) (.cons (.int _) (.cons (.int _) .nil)))
    · obtain ⟨e3, v6, rfl⟩ := hP
      exact s_ret ev_c fun H4 e4 => q H4 (e3.trans e4)
  | none =>
    obtain ⟨g, hg, hl, hlt⟩ := fault_none hf
    subst hg
    refine q_when (b := false) (et_B (ev_is (ev_notN (ev_var (v := .non) rfl)) rfl)) (fun c => by cases c) (fun _ H2 e2 => ?_)
    have e12 := e1.trans e2
    -- check_map
    refine q_when (b := false) (et_neD (x := 0) (d := .tuple (intsD g)) (fun H4 e4 Q k2 => ask _ 0 _ H2 e12 (by omega) (fun H5 e5 => ea_cons ev_c (ea_cons (ev_var rfl) (ea_cons (ev_var rfl) (ea_cons (ev_var rfl) ea_nil)))) H4 e4 Q fun q x y H5 hq e5 h5 h6 => ?_)
      (ed_pair fun H4 e4 Q k2 => tup_row (ev_var rfl) (hv.ex e12) H4 e4 Q fun t H5 e5 h5 => k2 _ H5 e5 (dp_tup h5)) (lay_ints g).1 (lay_ints g).2) (fun c => by cases c) (fun _ H3 e3 => ?_)
    · unfold AskR at h6
      rw [hf] at h6
      obtain ⟨rfl, g', hg', h0, _⟩ := h6
      obtain ⟨t, rfl, ht⟩ := h0 rfl
      rw [← intsV_inj (Option.some.inj hg')] at ht
      exact k2 _ H5 e5 (.lst (SqL.of h5) (.cons (.int _) (.cons (dp_tup ht) .nil)))
    have e13 := e12.trans e3
    -- map_fault
    refine q_when (b := false) (et_neD (x := 0) (d := faultD (mfault A B g)) (fun H4 e4 Q k2 => ask _ 1 _ H3 e13 (by omega) (fun H5 e5 => ea_cons ev_c (ea_cons (ev_var rfl) (ea_cons (ev_var rfl) (ea_cons (ev_var rfl) ea_nil)))) H4 e4 Q fun q x y H5 hq e5 h5 h6 => ?_)
      (ed_pair fun H4 e4 Q k2 => ⟨_, rfl, _, rfl, _, rfl, pa, pb, v, A, B, g, rfl, hPA.ex (e13.trans e4), hPB.ex (e13.trans e4), gA, gB, hv.ex (e13.trans e4), hl, hlt, ?_⟩) (faultD_lay _).1 (faultD_lay _).2) (fun c => by cases c) (fun _ H4 e4 => ?_)
    · unfold AskR at h6
      rw [hf] at h6
      obtain ⟨rfl, g', hg', _, h1, _⟩ := h6
      have hfv := h1 rfl
      rw [← intsV_inj (Option.some.inj hg')] at hfv
      exact k2 _ H5 e5 (.lst (SqL.of h5) (.cons (.int _) (.cons hfv.dp .nil)))
    · cases hm : mfault A B g with
      | none =>
        rw [hm] at k2
        exact fun H5 e5 => k2 _ H5 e5 .non
      | some o =>
        obtain ⟨x, z, wd⟩ := o
        rw [hm] at k2
        exact fun p H5 hp e5 h5 => k2 _ H5 e5 (.tup (SqT.of h5) (.cons (.int _) (.cons (.int _) (.cons (.str _) .nil))))
    have e14 := e13.trans e4
    have hv4 := hv.ex e14
    -- the ends
    refine q_asg (v := .bl (endsB A B g)) (ev_andV (ev_op (ev_xR (ev_var rfl) (ev_plB (ev_var rfl) (hPA.ex e14)) hv4 (intsV_at (by rw [hl]; exact gA.bot_lt))) (ev_plB (ev_var rfl) (hPB.ex e14)) (rv_eqN _ _))
      fun _ => ev_op (ev_xR (ev_var rfl) (ev_plT (ev_var rfl) (hPA.ex e14)) hv4 (intsV_at (by rw [hl]; exact gA.top_lt))) (ev_plT (ev_var rfl) (hPB.ex e14)) (rv_eqN _ _)) fun H5 e5 => ?_
    have e15 := e14.trans e5
    -- keeps_ends
    have told : ∀ (D : Ends) (tz : TS), (∀ t H6, Ex H H6 → H6 t = some (.lst [.int 0, .bl (endsB A B g)]) → tz D [some (.ref pa), some (.ref pb), some (.ref a), some (.ref b), some v, some .non, none, some (.bl (endsB A B g)), some (.ref t)] H6) →
        tSeq (tAsg (tCall (spAsked C) [] E0 (tCons (tC (.int 2)) (tCons (tVar 2) (tCons (tVar 3) (tCons (tCB (rTupS K) (tCons (tVar 4) tNil)) tNil))))) (gName 8)) tz D [some (.ref pa), some (.ref pb), some (.ref a), some (.ref b), some v, some .non, none, some (.bl (endsB A B g)), none] H5 := fun D tz k =>
      ⟨_, rfl, _, rfl, tup_row (ev_var rfl) (hv.ex e15) H5 (Ex.refl H5) _ fun t H6 e6 h6 => ⟨a, b, .ref t, A, B, some (intsV g), 2, rfl, by decide, hA.ex (e15.trans e6), hB.ex (e15.trans e6), gA, gB, ⟨t, HO.tup, rfl, Or.inr rfl, h6⟩, scI_ints, fun q x y H7 hq e7 h7 h8 => by
        unfold AskR at h8
        rw [hf] at h8
        obtain ⟨rfl, g', hg', _, _, h2⟩ := h8
        have hy := h2 rfl
        rw [← intsV_inj (Option.some.inj hg')] at hy
        subst hy
        exact k q H7 ((e15.trans e6).trans e7) h7⟩⟩
    refine told _ _ fun t H6 e6 h6 => ?_
    refine s_ret (ev_is (ev_andV (ev_op (ev_xL (i := 0) (ev_var rfl) ev_c h6 rfl) ev_c (rv_eqN 0 0)) fun _ => ev_andV (ev_isi (b := true) (ev_xL (i := 1) (ev_var rfl) ev_c h6 rfl) ty_bl (by decide +kernel)) fun _ => ev_op (ev_xL (i := 1) (ev_var rfl) ev_c h6 rfl) (ev_var rfl) (rv_eq rfl)) ?_) fun H7 e7 => q H7 (e6.trans e7)
    rw [decide_eq_true (rfl : V.bl (endsB A B g) = V.bl (endsB A B g))]
    rfl
end
end KM

/-! ## KL9: the law's helpers: drawn maps, maps within one lattice -/
namespace KM
open PySem PySem.Spec PyProof.Rows L2 Evl
section
variable {P : Program} {w : World} {K : PySem.W.Frag} {mg : Str → Option Value} {base : Heap} {CX : CXT} {f C CB : Addr} {fd : FuncData}
/-! ## KL9: ### _law_drawn_map -/
abbrev nl_l_drawn_map : List Str := ["_law_hand_here", "_law_one", "_law_other", "_law_way", "_law_worth", "_law_firm", "_law_low", "_law_x"]
theorem sc_l_drawn_map : FnScope nl_l_drawn_map ["_law_hand_here", "_law_one", "_law_other"] (defScope s_l_drawn_map) := ⟨rfl, rfl, rfl, by decide +kernel, rfl, by decide +kernel, by decide +kernel⟩
-- slots: 0:~hand_here 1:~one 2:~other 3:~way 4:~worth 5:~firm 6:~low 7:~x
def spDMap : Sp := fun vs H Q _ => ∃ (h c pa pb : Addr) (cs : List Int) (A B : Lt), vs = [.ref h, .ref pa, .ref pb] ∧ Hd H h c cs ∧ PL H pa A ∧ PL H pb B ∧ Good A ∧ Good B ∧
  ∀ q g H2, H q = none → Kp H H2 → Hd H2 h c cs → H2 q = some (.lst (intsV g)) → g.length = A.n → (∀ k, k ∈ g → k < B.n) → Q (.ref q) H2
theorem ok_l_drawn_map {f1 : Addr} {d1 : FuncData} (h_l_take : Has P w K mg base CX0 2 "_law_take" ["_law_hand_here", "_law_many"] spTake f1 d1) (F : At K "_law_drawn_map" "_law_drawn_map" s_l_drawn_map f fd) (T : Tx K mg) : FnOk P w K mg base CX 3 f fd ["_law_hand_here", "_law_one", "_law_other"] spDMap := by
  refine F.ok sc_l_drawn_map (fun vs H Q E h => ?_) (fun cdv A outer s H vs Q E hr h => ?_)
  · obtain ⟨h, c, pa, pb, cs, A, B, rfl, _⟩ := h
    rfl
  obtain ⟨h, c, pa, pb, cs, A, B, rfl, hd, hA, hB, gA, gB, q⟩ := h
  refine ⟨_, PSs.nox (pss_cons (ps_set (i := 3) sc_l_drawn_map.nd rfl (by first | exact Or.inl rfl | exact Or.inr rfl) (pe_call h_l_take.ok (hr.mono (by decide)) rfl h_l_take.g h_l_take.kp h_l_take.b .nil pass0 (pa_cons (pv 0) (pa_cons pe_int pa_nil))))
    (pss_cons (ps_set (i := 4) sc_l_drawn_map.nd rfl (by first | exact Or.inl rfl | exact Or.inr rfl) (pe_call h_l_take.ok (hr.mono (by decide)) rfl h_l_take.g h_l_take.kp h_l_take.b .nil pass0 (pa_cons (pv 0) (pa_cons (pe_ix (ixq (K := K)) (pv 2) pe_int (fun _ _ => rfl)) pa_nil))))
    (pss_cons (ps_if (pt_cmpR op_eq (pv 3) pe_int (nomark _))
      (pss_one (ps_ret (pe_lc (own := [("_law_x", 7)]) (g := gName 7) (tt := tYes) rfl sc_l_drawn_map.nd (pi_range1 (by rfl) T.m_range (pa_cons (pe_ix (ixq (K := K)) (pv 1) pe_int (fun _ _ => rfl)) pa_nil)) (blkOk_by (N := nl_l_drawn_map) (sc := (defScope s_l_drawn_map)) (by decide +kernel)) (fun _ _ _ _ _ => pg_name (i := 7) sc_l_drawn_map.nd rfl (by first | exact Or.inl rfl | exact Or.inr rfl)) (fun _ _ _ _ _ => pts_nil) (by intro _ _ _ _ _; exact (pe_call h_l_take.ok (hr.mono (by decide)) rfl h_l_take.g h_l_take.kp h_l_take.b .nil pass0 (pa_cons (pv 0) (pa_cons (pe_ix (ixq (K := K)) (pv 2) pe_int (fun _ _ => rfl)) pa_nil)))))))
      pss_nil)
    (pss_cons (ps_if (pt_cmpR op_eq (pv 3) pe_int (nomark _))
      (pss_one (ps_ret (pe_lc (own := [("_law_x", 7)]) (g := gName 7) (tt := tYes) rfl sc_l_drawn_map.nd (pi_range1 (by rfl) T.m_range (pa_cons (pe_ix (ixq (K := K)) (pv 1) pe_int (fun _ _ => rfl)) pa_nil)) (blkOk_by (N := nl_l_drawn_map) (sc := (defScope s_l_drawn_map)) (by decide +kernel)) (fun _ _ _ _ _ => pg_name (i := 7) sc_l_drawn_map.nd rfl (by first | exact Or.inl rfl | exact Or.inr rfl)) (fun _ _ _ _ _ => pts_nil) (by intro _ _ _ _ _; exact (pv 4)))))
      pss_nil)
    (pss_cons (ps_set (i := 5) sc_l_drawn_map.nd rfl (by first | exact Or.inl rfl | exact Or.inr rfl) (pe_call h_l_take.ok (hr.mono (by decide)) rfl h_l_take.g h_l_take.kp h_l_take.b .nil pass0 (pa_cons (pv 0) (pa_cons (pe_ix (ixq (K := K)) (pv 1) pe_int (fun _ _ => rfl)) pa_nil))))
    (pss_cons (ps_set (i := 6) sc_l_drawn_map.nd rfl (by first | exact Or.inl rfl | exact Or.inr rfl) (pe_ix (ixq (K := K)) (pe_ix (ixq (K := K)) (pe_ix (ixq (K := K)) (pv 2) pe_int (fun _ _ => rfl)) (pv 4) (fun _ _ => rfl)) (pe_call h_l_take.ok (hr.mono (by decide)) rfl h_l_take.g h_l_take.kp h_l_take.b .nil pass0 (pa_cons (pv 0) (pa_cons (pe_ix (ixq (K := K)) (pv 2) pe_int (fun _ _ => rfl)) pa_nil))) (fun _ _ => rfl)))
    (pss_one (ps_ret (pe_lc (own := [("_law_x", 7)]) (g := gName 7) (tt := tYes) rfl sc_l_drawn_map.nd (pi_range1 (by rfl) T.m_range (pa_cons (pe_ix (ixq (K := K)) (pv 1) pe_int (fun _ _ => rfl)) pa_nil)) (blkOk_by (N := nl_l_drawn_map) (sc := (defScope s_l_drawn_map)) (by decide +kernel)) (fun _ _ _ _ _ => pg_name (i := 7) sc_l_drawn_map.nd rfl (by first | exact Or.inl rfl | exact Or.inr rfl)) (fun _ _ _ _ _ => pts_nil) (by intro _ _ _ _ _; exact (pe_ix (ixq (K := K)) (pe_lst (pa_cons (pv 6) (pa_cons (pv 4) pa_nil))) (pe_callTy call_int1 (by rfl) T.m_int (by decide +kernel) (pa_cons (pe_ix (ixq (K := K)) (pe_ix (ixq (K := K)) (pe_ix (ixq (K := K)) (pv 1) pe_int (fun _ _ => rfl)) (pv 5) (fun _ _ => rfl)) (pv 7) (fun _ _ => rfl)) pa_nil)) (fun _ _ => rfl)))))))))))), ?_⟩
  have nA := gA.small
  have nB := gB.small
  have pB := gB.pos
  have pA := gA.pos
  refine q_asgK (ek_take (n := 4) (fun H1 k1 => ea_cons (ev_var rfl) (ea_cons ev_c ea_nil)) (by decide) (by decide)) hd fun v H1 k1 d1 o => ?_
  obtain ⟨way, hway, rfl⟩ := o
  refine q_asgK (ek_take (n := B.n) (fun H2 k2 => ea_cons (ev_var rfl) (ea_cons (ev_plN (ev_var rfl) (hB.kp (k1.trans k2))) ea_nil)) pB (by omega)) d1 fun v H2 k2 d2 o => ?_
  obtain ⟨worth, hworth, rfl⟩ := o
  have k02 := k1.trans k2
  -- a row of drawn worths
  refine q_when (b := decide (way = 0)) (et_test (ev_op (ev_var rfl) ev_c (rv_eqN way 0))) (fun _ H3 e3 => ?_) (fun _ H3 e3 => ?_)
  · have k03 := k02.ex e3
    refine s_retK (ek_lcR (n := A.n) (fun i l => l.length = i ∧ ∀ k, k ∈ l → k < B.n) (fun b => b = true) (fun _ r => r < B.n) (fun H4 k4 => ea_cons (ev_plN (ev_var rfl) (hA.kp (k03.trans k4))) ea_nil) (by omega) (fun _ => rfl) (fun i hi H4 k4 d4 Q q => q true H4 (.refl _) d4 rfl)
      (fun i hi => (ek_take (n := B.n) (fun H4 k4 => ea_cons (ev_var rfl) (ea_cons (ev_plN (ev_var rfl) (hB.kp (k03.trans k4))) ea_nil)) pB (by omega)).imp fun v H4 _ ⟨r, hr, e⟩ => ⟨r, hr, e⟩) ⟨rfl, fun _ hk => by cases hk⟩
      (fun i l r _ _ _ hr ⟨h1, h2⟩ => ⟨by rw [List.length_append, h1]; rfl, fun k hk => by
        rcases List.mem_append.mp hk with z | z
        · exact h2 k z
        · rw [List.mem_singleton.mp z]
          exact hr⟩) (fun i l _ c _ => by cases c)) (d2.ex e3) fun v H4 k4 d4 o => ?_
    obtain ⟨p, l, rfl, hp, hpl, ⟨hl1, hl2⟩, _⟩ := o
    exact q p l H4 (k03.dom _ hp) (k03.trans k4) d4 hpl hl1 hl2
  have k03 := k02.ex e3
  refine q_when (b := decide (way = 1)) (et_test (ev_op (ev_var rfl) ev_c (rv_eqN way 1))) (fun _ H4 e4 => ?_) (fun _ H4 e4 => ?_)
  · have k04 := k03.ex e4
    refine s_retL (xs := intsV ((List.range A.n).map fun _ => worth)) ?_ fun p H5 hp e5 h5 => q p _ H5 (k04.dom _ hp) (k04.ex e5) (d2.ex ((e3.trans e4).trans e5)) h5 (by rw [List.length_map, List.length_range]) fun k hk => ?_
    · unfold intsV
      rw [List.map_map]
      exact el_lcRy (fun _ => V.int (worth : Int)) (ea_cons (ev_plN (ev_var rfl) (hA.kp k04)) ea_nil) (by omega) (fun _ => rfl) fun k H5 e5 hk => ev_var rfl
    · obtain ⟨i, _, rfl⟩ := List.mem_map.mp hk
      exact hworth
  have k04 := k03.ex e4
  have d4 := d2.ex (e3.trans e4)
  refine q_asgK (ek_take (n := A.n) (fun H5 k5 => ea_cons (ev_var rfl) (ea_cons (ev_plN (ev_var rfl) (hA.kp (k04.trans k5))) ea_nil)) pA (by omega)) d4 fun v H5 k5 d5 o => ?_
  obtain ⟨firm, hfirm, rfl⟩ := o
  have k05 := k04.trans k5
  obtain ⟨t, j, m, b1, _, _, ⟨ms, m1, m2⟩⟩ := hB.kp k05
  obtain ⟨row, r1, r2⟩ := Paired.nth m2 (rowsTo_get (f := rowJ B.dual) (i := worth) hworth)
  have r3 : (ms.map V.ref)[worth]? = some (.ref row) := by rw [List.getElem?_map, r1]; rfl
  have hrow : rowJ B.dual worth = intsV ((List.range B.n).map fun y => B.mt worth y) := by
    unfold rowJ intsV
    rw [List.map_map]
    rfl
  rw [hrow] at r2
  -- the low one
  have low : ∀ (D : Ends) (tz : TS), (∀ lo H6, lo < B.n → Kp H5 H6 → Hd H6 h c cs → tz D [some (.ref h), some (.ref pa), some (.ref pb), some (.int (way : Int)), some (.int (worth : Int)), some (.int (firm : Int)), some (.int (lo : Int)), none] H6) →
      tSeq (tAsg (tOp (rIx K) (tOp (rIx K) (tOp (rIx K) (tVar 2) (tC (.int 3))) (tVar 4)) (tCall spTake [] E0 (tCons (tVar 0) (tCons (tOp (rIx K) (tVar 2) (tC (.int 0))) tNil)))) (gName 6)) tz D [some (.ref h), some (.ref pa), some (.ref pb), some (.int (way : Int)), some (.int (worth : Int)), some (.int (firm : Int)), none, none] H5 := fun D tz k => by
    refine (ev_xL (K := K) (i := worth) (ev_xL (i := 3) (ev_var rfl) ev_c b1 rfl) (ev_var rfl) m1 r3 : Ev (tOp (rIx K) (tOp (rIx K) (tVar 2) (tC (.int 3))) (tVar 4)) [some (.ref h), some (.ref pa), some (.ref pb), some (.int (way : Int)), some (.int (worth : Int)), some (.int (firm : Int)), none, none] H5 (.ref row)) H5 (Ex.refl H5) _ fun H6 e6 => ?_
    refine ek_take (h := h) (c := c) (cs := cs) (H := H6) (n := B.n) (fun H7 k7 => ea_cons (ev_var rfl) (ea_cons (ev_plN (ev_var rfl) (hB.kp ((k05.ex e6).trans k7))) ea_nil)) pB (by omega) H6 (.refl _) (d5.ex e6) _ fun v H7 k7 d7 o => ?_
    obtain ⟨z, hz, rfl⟩ := o
    have r7 := k7.kp _ _ (e6 _ _ r2) not_intsV
    have hz2 : (intsV ((List.range B.n).map fun y => B.mt worth y))[z]? = some (.int ((B.mt worth z : Nat) : Int)) := by
      unfold intsV
      rw [List.map_map]
      exact mapR_get hz
    exact Or.inl ⟨row, _, (z : Int), _, rfl, rfl, SqL.of r7, atI_nat hz2, k (B.mt worth z) H7 (gB.mt_lt hworth hz) (Kp.pre e6 k7) d7⟩
  refine low _ _ fun lo H6 hlo k6 d6 => ?_
  have k06 := k05.trans k6
  refine s_retL (xs := intsV ((List.range A.n).map fun x => if A.le firm x then worth else lo)) ?_ fun p H7 hp e7 h7 => q p _ H7 (k06.dom _ hp) (k06.ex e7) (d6.ex e7) h7 (by rw [List.length_map, List.length_range]) fun k hk => ?_
  · unfold intsV
    rw [List.map_map]
    obtain ⟨t, j, m, a1, hT, _⟩ := hA.kp k06
    refine el_lcRy (fun x => V.int (((if A.le firm x then worth else lo) : Nat) : Int)) (ea_cons (ev_plN (ev_var rfl) (hA.kp k06)) ea_nil) (by omega) (fun _ => rfl) fun x H7 e7 hx => ?_
    refine ev_opL1 (xs := [.int (lo : Int), .int (worth : Int)]) (y := .int (((if A.le firm x then 1 else 0) : Nat) : Int)) (el_lst (ea_cons (ev_var rfl) (ea_cons (ev_var rfl) ea_nil)) (by show 2 ≤ 100000; decide)) (fun H8 e8 => ?_) fun p H8 hp e8 => rv_xL hp ?_
    · refine ev_is (ev_intB (ea_cons (ev_tblL (ev_xL (i := 1) (ev_var rfl) ev_c ((e7.trans e8) _ _ a1) rfl) (ev_var rfl) (ev_var rfl) (hT.ex (e7.trans e8)) hfirm hx) ea_nil)) ?_
      cases A.le firm x <;> rfl
    · cases A.le firm x <;> rfl
  · obtain ⟨x, _, rfl⟩ := List.mem_map.mp hk
    by_cases cc : A.le firm x = true
    · rw [if_pos cc]
      exact hworth
    · rw [if_neg cc]
      exact hlo
/-! ## KL9: ### _law_within -/
abbrev nl_l_within : List Str := ["_law_hand_here", "_law_one", "_law_first", "_law_turn", "_law_context", "_law_values", "_law_x"]
theorem sc_l_within : FnScope nl_l_within ["_law_hand_here", "_law_one", "_law_first"] (defScope s_l_within) := ⟨rfl, rfl, rfl, by decide +kernel, rfl, by decide +kernel, by decide +kernel⟩
-- slots: 0:~hand_here 1:~one 2:~first 3:~turn 4:~context 5:~values 6:~x
def spWithin (C : Addr) : Sp := fun vs H Q _ => ∃ (h c p a : Addr) (cs : List Int) (L : Lt), vs = [.ref h, .ref p, .ref a] ∧ Hd H h c cs ∧ PL H p L ∧ LI C H a L ∧ Good L ∧ ∀ H2, Kp H H2 → Hd H2 h c cs → Q (.bl true) H2
theorem ctx_lt {L : Lt} (g : Good L) {a b k : Nat} (ha : a < L.n) (hb : b < L.n) (hk : k ∈ ctx L a b) : k < L.n := by
  obtain ⟨v, hv, rfl⟩ := List.mem_map.mp hk
  exact g.jn_lt ha (g.mt_lt hb (List.mem_range.mp hv))
theorem ok_l_within {f1 f2 f3 f4 f5 : Addr} {d1 d2 d3 d4 d5 : FuncData} (h_l_take : Has P w K mg base CX0 2 "_law_take" ["_law_hand_here", "_law_many"] spTake f1 d1) (h_l_value : Has P w K mg base CX0 1 "_law_value" ["_law_plain", "_law_context", "_law_worth"] spValue f2 d2)
    (h_l_one_map : Has P w K mg base CX0 6 "_law_one_map" ["_law_one", "_law_other", "_law_first", "_law_second", "_law_values"] (spOneMap C) f3 d3) (h_l_distributive : Has P w K mg base CX0 1 "_law_distributive" ["_law_plain"] spDistr f4 d4)
    (h_map_fault : Has P w K mg base (L2.CX P w) 4 "map_fault" ["one", "other", "values"] (spFault C CB) f5 d5) (F : At K "_law_within" "_law_within" s_l_within f fd) (T : Tx K mg) : FnOk P w K mg base CX 7 f fd ["_law_hand_here", "_law_one", "_law_first"] (spWithin C) := by
  refine F.ok sc_l_within (fun vs H Q E h => ?_) (fun cdv A outer s H vs Q E hr h => ?_)
  · obtain ⟨h, c, p, a, cs, L, rfl, _⟩ := h
    rfl
  obtain ⟨h, c, p, a, cs, L, rfl, hd, hp, ha, g, q⟩ := h
  refine ⟨_, PSs.nox (pss_cons (ps_for PassesOwn.never rfl (pi_range1 (by rfl) T.m_range (pa_cons pe_int pa_nil)) (pg_name (i := 3) sc_l_within.nd rfl (by first | exact Or.inl rfl | exact Or.inr rfl))
      (pss_cons (ps_set (i := 4) sc_l_within.nd rfl (by first | exact Or.inl rfl | exact Or.inr rfl) (pe_tup (pa_cons (pe_call h_l_take.ok (hr.mono (by decide)) rfl h_l_take.g h_l_take.kp h_l_take.b .nil pass0 (pa_cons (pv 0) (pa_cons (pe_ix (ixq (K := K)) (pv 1) pe_int (fun _ _ => rfl)) pa_nil))) (pa_cons (pe_call h_l_take.ok (hr.mono (by decide)) rfl h_l_take.g h_l_take.kp h_l_take.b .nil pass0 (pa_cons (pv 0) (pa_cons (pe_ix (ixq (K := K)) (pv 1) pe_int (fun _ _ => rfl)) pa_nil))) pa_nil))))
      (pss_cons (ps_setLc (i := 5) (own := [("_law_x", 6)]) (g := gName 6) (tt := tYes) rfl sc_l_within.nd rfl rfl (sw_true rfl rfl rfl (by decide +kernel)) (pi_range1 (by rfl) T.m_range (pa_cons (pe_ix (ixq (K := K)) (pv 1) pe_int (fun _ _ => rfl)) pa_nil)) (blkOk_by (N := nl_l_within) (sc := (defScope s_l_within)) (by decide +kernel)) (fun _ _ _ _ _ => pg_name (i := 6) sc_l_within.nd rfl (by first | exact Or.inl rfl | exact Or.inr rfl)) (fun _ _ _ _ _ => pts_nil) (by intro _ _ _ _ _; exact (pe_call h_l_value.ok (hr.mono (by decide)) rfl h_l_value.g h_l_value.kp h_l_value.b .nil pass0 (pa_cons (pv 1) (pa_cons (pv 4) (pa_cons (pv 6) pa_nil))))))
      (pss_cons (ps_if (pt_not (pt_val (pe_call h_l_one_map.ok (hr.mono (by decide)) rfl h_l_one_map.g h_l_one_map.kp h_l_one_map.b .nil pass0 (pa_cons (pv 1) (pa_cons (pv 1) (pa_cons (pv 2) (pa_cons (pv 2) (pa_cons (pv 5) pa_nil))))))))
        (pss_one (ps_ret pe_bl))
        pss_nil)
      (pss_one (ps_if (PW.pt (pw_and (pt_val (pe_call h_l_distributive.ok (hr.mono (by decide)) rfl h_l_distributive.g h_l_distributive.kp h_l_distributive.b .nil pass0 (pa_cons (pv 1) pa_nil))) (pw_and1 (pt_cmp (pc_notN (pe_call h_map_fault.ok (hr.mono (by decide)) rfl h_map_fault.g h_map_fault.kp h_map_fault.b .nil (passes_call (E := fun _ _ _ => False) takesF (fun _ _ _ _ q => q.elim)) (pa_cons (pv 2) (pa_cons (pv 2) (pa_cons (pv 5) pa_nil)))))))))
        (pss_one (ps_ret pe_bl))
        pss_nil))))))
    (pss_one (ps_ret pe_bl))), ?_⟩
  have n16 := g.small
  have pos := g.pos
  refine q_forR1 (n := 2) (ea_cons ev_c ea_nil) (by decide) (fun i σ' H' => Kp H H' ∧ Hd H' h c cs ∧ ∃ v3 v4 v5 v6, σ' = [some (.ref h), some (.ref p), some (.ref a), v3, v4, v5, v6]) (fun H1 e1 => ⟨.of e1, hd.ex e1, none, none, none, none, rfl⟩) (fun i σ' H' hi hP => ?_) (fun σ' H' hP => ?_)
  · obtain ⟨k, d, v3, v4, v5, v6, rfl⟩ := hP
    -- a context
    have drawn : ∀ (D : Ends) (tz : TS), (∀ t x y H1, x < L.n → y < L.n → Kp H' H1 → Hd H1 h c cs → H1 t = some (.tup [.int (x : Int), .int (y : Int)]) → tz D [some (.ref h), some (.ref p), some (.ref a), some (.int (i : Int)), some (.ref t), v5, v6] H1) →
        tSeq (tAsg (tTup (tCons (tCall spTake [] E0 (tCons (tVar 0) (tCons (tOp (rIx K) (tVar 1) (tC (.int 0))) tNil))) (tCons (tCall spTake [] E0 (tCons (tVar 0) (tCons (tOp (rIx K) (tVar 1) (tC (.int 0))) tNil))) tNil))) (gName 4)) tz D [some (.ref h), some (.ref p), some (.ref a), some (.int (i : Int)), v4, v5, v6] H' := fun D tz kk => by
      refine ek_take (h := h) (c := c) (cs := cs) (H := H') (n := L.n) (fun H7 k7 => ea_cons (ev_var rfl) (ea_cons (ev_plN (ev_var rfl) (hp.kp (k.trans k7))) ea_nil)) pos (by omega) H' (.refl _) d _ fun v H1 k1 d1 o => ?_
      obtain ⟨x, hx, rfl⟩ := o
      refine ek_take (h := h) (c := c) (cs := cs) (H := H1) (n := L.n) (fun H7 k7 => ea_cons (ev_var rfl) (ea_cons (ev_plN (ev_var rfl) (hp.kp ((k.trans k1).trans k7))) ea_nil)) pos (by omega) H1 (.refl _) d1 _ fun v H2 k2 d2 o => ?_
      obtain ⟨y, hy, rfl⟩ := o
      exact ⟨by show 2 ≤ sizeLine; decide, fun t ht => kk t x y _ hx hy ((k1.trans k2).ex (Ex.new ht)) (d2.ex (Ex.new ht)) upd_same⟩
    refine drawn _ _ fun t x y H1 hx hy k1 d1 ht => ?_
    clear drawn
    have k01 := k.trans k1
    have hp1 := hp.kp k01
    have ha1 := ha.kp k01
    refine q_asgL (xs := intsV (ctx L x y)) ?_ fun vl H2 hvl e2 h2 => ?_
    · unfold ctx intsV
      rw [List.map_map]
      exact el_lcRy (fun v => V.int ((L.jn x (L.mt y v) : Nat) : Int)) (ea_cons (ev_plN (ev_var rfl) hp1) ea_nil) (by omega) (fun _ => rfl) fun v H2 e2 hv => ev_call (ea_cons (ev_var rfl) (ea_cons (ev_var rfl) (ea_cons (ev_var rfl) ea_nil))) fun H3 e3 Q k E => ⟨p, t, L, x, y, v, rfl, g, hp1.ex (e2.trans e3), (e2.trans e3) _ _ ht, hx, hy, hv, fun H4 e4 => k H4 e4⟩
    have hcl : (ctx L x y).length = L.n := by
      unfold ctx
      rw [List.length_map, List.length_range]
    have hct : ∀ k, k ∈ ctx L x y → k < L.n := fun k hk => ctx_lt g hx hy hk
    have row : ∀ H3, Ex H2 H3 → RowOf H3 (.ref vl) (some (intsV (ctx L x y))) := fun H3 e3 => ⟨vl, HO.lst, rfl, Or.inl rfl, e3 _ _ h2⟩
    refine q_when (b := false) (et_not (et_B (b := true) (ev_call (ea_cons (ev_var rfl) (ea_cons (ev_var rfl) (ea_cons (ev_var rfl) (ea_cons (ev_var rfl) (ea_cons (ev_var rfl) ea_nil))))) fun H3 e3 Q k E => ⟨p, p, a, a, .ref vl, L, L, some (intsV (ctx L x y)), rfl, hp1.ex (e2.trans e3), hp1.ex (e2.trans e3), ha1.ex (e2.trans e3), ha1.ex (e2.trans e3), g, g, row H3 e3, scI_ints, fun H4 e4 => k H4 e4⟩))) (fun c => by cases c) (fun _ H3 e3 => ?_)
    have e13 := e2.trans e3
    refine s_when (b := false) (et_is (et_and (b := false) (et_B (b := L.distr) (ev_call (ea_cons (ev_var rfl) ea_nil) fun H4 e4 Q k E => ⟨p, L, rfl, g, hp1.ex (e13.trans e4), fun H5 e5 => k H5 e5⟩)) fun hdis H4 e4 Q k2 => ?_) (by cases L.distr <;> rfl)) (fun c => by cases c) fun _ H4 e4 => ⟨k01.ex (e13.trans e4), d1.ex (e13.trans e4), _, _, _, _, rfl⟩
    have fo : faultOf L.n L.n (some (intsV (ctx L x y))) = none := fault_ints hcl hct
    exact ⟨_, rfl, _, rfl, _, rfl, a, a, .ref vl, L, L, some (intsV (ctx L x y)), rfl, ha1.ex (e13.trans e4), ha1.ex (e13.trans e4), g, g, row H4 (e3.trans e4), scI_ints, fun k hk => (by rw [fo] at hk; cases hk), fun g' _ hg' => by
      rw [← intsV_inj (Option.some.inj hg'), ctx_keeps g hdis hx hy]
      exact fun H5 e5 => ⟨_, rfl, k2 H5 e5⟩⟩
  · obtain ⟨k, d, v3, v4, v5, v6, rfl⟩ := hP
    exact s_ret ev_c fun H1 e1 => q H1 (k.ex e1) (d.ex e1)
end
end KM

/-! ## KLa: the law: its parts -/
namespace KM
open PySem PySem.Spec PyProof.Rows L2 Evl
theorem oeqD {X : Cx} {K : PySem.W.Frag} (hu : X.A.units + 64 < cLine) (hK : X.K = K := by rfl) : OpR X (compareOp .Eq) (rEqD K) := by
  subst hK
  exact op_eqD hu
/-- a test while the hand is drawn from -/
def EvTK (t : TT) (σ : L2.St) (h c : Addr) (cs : List Int) (H : Hp) (ok : Bool → Prop) : Prop := ∀ H1, Kp H H1 → Hd H1 h c cs → ∀ Q : Bool → Hp → Prop, (∀ b H2, Kp H1 H2 → Hd H2 h c cs → ok b → Q b H2) → t σ H1 Q
section
variable {K : PySem.W.Frag} {σ : L2.St} {H H' H0 : Hp} {ta tb tc te tx tl tv : TE} {t u : TT} {x y z v : V} {tr : TA} {D : Ends} {tu tz : TS} {h c : Addr} {cs : List Int} {ok ok' : V → Hp → Prop}
theorem EvTK.mono {ok : Bool → Prop} (e : EvTK t σ h c cs H ok) (k : Kp H H') : EvTK t σ h c cs H' ok := fun H1 k1 => e H1 (k.trans k1)
theorem etk_B {b : Bool} (e : EvK te σ h c cs H (fun v _ => v = .bl b)) : EvTK (tB te) σ h c cs H (fun d => d = b) := fun H1 k1 d1 Q q => e H1 k1 d1 _ fun v H2 k2 d2 o => ⟨b, o, q b H2 k2 d2 rfl⟩
theorem etk_not {b : Bool} (e : EvTK t σ h c cs H (fun d => d = b)) : EvTK (tNot t) σ h c cs H (fun d => d = !b) := fun H1 k1 d1 Q q => e H1 k1 d1 _ fun d H2 k2 d2 o => q _ H2 k2 d2 (by rw [o])
theorem etk_orF (e : EvTK t σ h c cs H (fun d => d = false)) (e2 : EvTK u σ h c cs H (fun d => d = false)) : EvTK (tOr t u) σ h c cs H (fun d => d = false) := fun H1 k1 d1 Q q => e H1 k1 d1 _ fun d H2 k2 d2 o => by
  subst o
  show u σ H2 Q
  exact e2 H2 (k1.trans k2) d2 Q fun d' H3 k3 d3 o3 => q d' H3 (k2.trans k3) d3 o3
/-- a drawn number is nought, or not -/
theorem etk_take0 {ta : TA} {n : Nat} (ha : ∀ H1, Kp H H1 → EvA ta σ H1 [.ref h, .int (n : Int)]) (h1 : 1 ≤ n) (h2 : n < 1073741824) : EvTK (tTest (tOp rEq (tCall spTake [] E0 ta) (tC (.int 0)))) σ h c cs H (fun _ => True) := fun H1 k1 d1 Q q =>
  (ek_take ha h1 h2) H1 k1 d1 _ fun v H2 k2 d2 ⟨r, hr, e⟩ => by
    subst e
    exact ⟨rfl, _, rfl, q _ H2 k2 d2 trivial⟩
theorem etk_and {b : Bool} {ok : Bool → Prop} (e : ∀ H1, Kp H H1 → EvT t σ H1 b) (e2 : EvTK u σ h c cs H ok) : EvTK (tAnd t u) σ h c cs H (fun _ => True) := fun H1 k1 d1 Q q => e H1 k1 H1 (Ex.refl H1) _ fun H2 e2' => by
  cases b with
  | true =>
    show u σ H2 Q
    exact e2 H2 (k1.ex e2') (d1.ex e2') Q fun d H3 k3 d3 _ => q d H3 (Kp.pre e2' k3) d3 trivial
  | false =>
    show Q false H2
    exact q false H2 (.of e2') (d1.ex e2') trivial
theorem s_whenK {ok : Bool → Prop} (e : EvTK t σ h c cs H ok) (d : Hd H h c cs) (h1 : ok true → ∀ H1, Kp H H1 → Hd H1 h c cs → tu D σ H1) (h2 : ok false → ∀ H1, Kp H H1 → Hd H1 h c cs → D.nx σ H1) : tIfS t tu tNext D σ H := e H (.refl H) d _ fun b H1 k1 d1 o => by
  cases b with
  | true =>
    show tu D σ H1
    exact h1 o H1 k1 d1
  | false =>
    show D.nx σ H1
    exact h2 o H1 k1 d1
theorem q_whenK {ok : Bool → Prop} (e : EvTK t σ h c cs H ok) (d : Hd H h c cs) (h1 : ok true → ∀ H1, Kp H H1 → Hd H1 h c cs → tu { D with nx := tz D } σ H1) (h2 : ok false → ∀ H1, Kp H H1 → Hd H1 h c cs → tz D σ H1) : tSeq (tIfS t tu tNext) tz D σ H :=
  s_whenK (D := { D with nx := tz D }) e d h1 h2
/-- a lattice of the text, its sets drawn and shuffled -/
def NewPL (H : Hp) (most : Nat) : V → Hp → Prop := fun v H2 => ∃ (q : Addr) (G : List Nat), v = .ref q ∧ H q = none ∧ PL H2 q (latOf G) ∧ Fam G ∧ G.length ≤ most
theorem call_of {sp : Sp} {E : XK} {ta : TA} {Q : VK} (h : ta σ H fun vs H1 => sp (vs ++ []) H1 Q E) : tCall sp [] E ta σ H Q := h
theorem cons_of {ta : TE} {tr : TA} {Q : List V → Hp → Prop} (h : ta σ H fun x H1 => tr σ H1 fun xs H2 => Q (x :: xs) H2) : tCons ta tr σ H Q := h
theorem ek_draw {td : TE} {most : Nat} (hm : most ≤ 16) (h1 : ∀ H1, Kp H H1 → Ev (tVar 1) σ H1 (.ref h)) (hdraw : ∀ H1, Kp H H1 → Hd H1 h c cs → ∀ Q, spFamK h c cs H1 most Q → td σ H1 Q) :
    EvK (tCall spLattice [] E0 (tCons (tCall spShuf [] E0 (tCons (tVar 1) (tCons td tNil))) tNil)) σ h c cs H (NewPL H most) := fun H1 k1 d1 Q q => call_of (cons_of (call_of (cons_of (
  h1 H1 k1 H1 (Ex.refl H1) _ fun H2 e2 => hdraw H2 (k1.ex e2) (d1.ex e2) _ fun q1 H3 G k3 d3 hq1 hF fam hl => ⟨h, c, q1, cs, G, rfl, d3, hF, by omega, fun q2 H4 G' k4 d4 hq2 hF' perm =>
    ⟨q2, G', rfl, fam.perm perm, by rw [← perm.length_eq]; omega, hF', fun q3 H5 hq3 e5 hP => q _ H5 (((Kp.pre e2 k3).trans k4).ex e5) (d4.ex e5) ⟨q3, G', rfl, k1.dom _ ((Kp.of e2).dom _ (k3.dom _ (k4.dom _ hq3))), hP, fam.perm perm, by rw [← perm.length_eq]; exact hl⟩⟩⟩))))
theorem dfam_of {pts most : Nat} (hp : pts ≤ 4) (h1 : 1 ≤ most) (h2 : most ≤ 16) (hv : ∀ H1, Kp H H1 → Ev (tVar 1) σ H1 (.ref h)) : ∀ H1, Kp H H1 → Hd H1 h c cs → ∀ Q, spFamK h c cs H1 most Q → tCall spDFam [] E0 (tCons (tVar 1) (tCons (tC (.int (pts : Int))) (tCons (tC (.int (most : Int))) tNil))) σ H1 Q := fun H1 k1 d1 Q q =>
  hv H1 k1 H1 (Ex.refl H1) _ fun H2 e2 => ⟨h, c, cs, pts, most, rfl, hp, h1, h2, d1.ex e2, fun q3 H3 G k3 d3 hq hF fam hl => q q3 H3 G (Kp.pre e2 k3) d3 (fresh_back e2 hq) hF fam hl⟩
theorem dlow_of (hv : ∀ H1, Kp H H1 → Ev (tVar 1) σ H1 (.ref h)) : ∀ H1, Kp H H1 → Hd H1 h c cs → ∀ Q, spFamK h c cs H1 8 Q → tCall spDLowers [] E0 (tCons (tVar 1) (tCons (tC (.int 3)) (tCons (tC (.int 8)) tNil))) σ H1 Q := fun H1 k1 d1 Q q =>
  hv H1 k1 H1 (Ex.refl H1) _ fun H2 e2 => ⟨h, c, cs, rfl, d1.ex e2, fun q3 H3 G k3 d3 hq hF fam hl => q q3 H3 G (Kp.pre e2 k3) d3 (fresh_back e2 hq) hF fam hl⟩
/-- Lattice(a table) -/
theorem ep_make {C a : Addr} {ta : TA} {L : Lt} (ha : EvA ta σ H [.ref a]) (hs : S2 .lst .lst H a (tblV L)) (g : Good L) : EvP (tMake C (spInit C) [] E0 ta) σ H (fun q H2 => LI C H2 q L) := fun H1 e1 Q q =>
  ha H1 e1 _ fun H2 e2 => fun x dx hx hdx hne => ⟨x, dx, a, L, rfl, g, upd_same, (hs.ex (e1.trans e2)).ex (fun b o hb => by
    rw [upd_ne (ne_of_none hb hx), upd_ne (ne_of_none hb hdx)]
    exact hb), fun H3 k3 hL => ⟨rfl, q x H3 (fresh_back e2 hx) (e2.trans fun b o hb => k3 b o (ne_of_none hb hx) (by
    rw [upd_ne (ne_of_none hb hx), upd_ne (ne_of_none hb hdx)]
    exact hb)) hL⟩⟩
theorem ep_makeL {C p : Addr} {L : Lt} (ha : Ev ta σ H (.ref p)) (hp : PL H p L) (g : Good L) : EvP (tMake C (spInit C) [] E0 (tCons (tOp (rIx K) ta (tC (.int 1))) tNil)) σ H (fun q H2 => LI C H2 q L) := by
  obtain ⟨t, j, m, h1, hT, _⟩ := hp
  exact ep_make (ea_cons (ev_xL (i := 1) ha ev_c h1 rfl) ea_nil) hT g
end
/-! ## KLa: ### data of what all tells -/
theorem lay_fam (F : List (List Nat)) : PyData.canLay0 (.list (famD F)) = true ∧ PyData.depth (.list (famD F)) ≤ 10 := by
  have := depth_fam F
  constructor
  · simp only [PyData.canLay0]
    exact canLay_fam F
  · simp only [PyData.depth]
    omega
section
variable {K : PySem.W.Frag} {σ : L2.St} {H H' H0 : Hp} {ta tb : TE} {C a b : Addr} {A B : Lt}
/-- all(a, b), both evaluated by what makes a lattice -/
theorem ed_all (ha : EvP ta σ H (fun q H2 => LI C H2 q A)) (hb : ∀ H1, Ex H H1 → EvP tb σ H1 (fun q H2 => LI C H2 q B)) (gA : Good A) (gB : Good B) (nA : A.n ≤ 5) (nB : B.n ≤ 5) : EvD K (tCall (spAll C) [] E0 (tCons ta (tCons tb tNil))) σ H (.list [.int 0, .list (famD (allMaps A B))]) := fun H1 e1 Q q =>
  ha H1 e1 _ fun qa H2 hqa e2 hA => hb H2 (e1.trans e2) H2 (Ex.refl H2) _ fun qb H3 hqb e3 hB => ⟨qa, qb, A, B, rfl, hA.ex e3, hB, gA, gB, fun z H4 hz e4 c h4 => (by omega), fun z t H4 hz e4 _ _ h4 h5 => q _ H4 ((e2.trans e3).trans e4) (.lst (SqL.of h4) (.cons (.int _) (.cons (dp_fam h5) .nil)))⟩
theorem ed_all5 (ha : Ev ta σ H (.ref a)) (hb : ∀ H1, Ex H H1 → Ev tb σ H1 (.ref b)) (hA : LI C H a A) (hB : LI C H b B) (gA : Good A) (gB : Good B) (hc : 5 < A.n ∨ 5 < B.n) : EvD K (tCall (spAll C) [] E0 (tCons ta (tCons tb tNil))) σ H (.list [.int 1, .int 5]) := fun H1 e1 Q q =>
  ha H1 e1 _ fun H2 e2 => hb H2 (e1.trans e2) H2 (Ex.refl H2) _ fun H3 e3 => ⟨a, b, A, B, rfl, hA.ex ((e1.trans e2).trans e3), hB.ex ((e1.trans e2).trans e3), gA, gB, fun z H4 hz e4 c h4 => q _ H4 ((e2.trans e3).trans e4) (.lst (SqL.of h4) (.cons (.int _) (.cons (.int _) .nil))), fun z t H4 hz e4 nA nB h4 h5 => (by omega)⟩
theorem ed_all5m (ha : EvP ta σ H (fun q H2 => LI C H2 q A)) (hb : ∀ H1, Ex H H1 → Ev tb σ H1 (.ref b)) (hB : LI C H b B) (gA : Good A) (gB : Good B) (hc : 5 < A.n ∨ 5 < B.n) : EvD K (tCall (spAll C) [] E0 (tCons ta (tCons tb tNil))) σ H (.list [.int 1, .int 5]) := fun H1 e1 Q q =>
  ha H1 e1 _ fun qa H2 hqa e2 hA => hb H2 (e1.trans e2) H2 (Ex.refl H2) _ fun H3 e3 => ⟨qa, b, A, B, rfl, hA.ex e3, hB.ex ((e1.trans e2).trans e3), gA, gB, fun z H4 hz e4 c h4 => q _ H4 ((e2.trans e3).trans e4) (.lst (SqL.of h4) (.cons (.int _) (.cons (.int _) .nil))), fun z t H4 hz e4 nA nB h4 h5 => (by omega)⟩
end
/-! ## KLa: ### a chain of six -/
def chain6 : Lt := ⟨6, fun x y => decide (x ≤ y)⟩
theorem chain6_good : Good chain6 := by
  have k : natBelow 6 (fun x => natBelow 6 fun y => !(chain6.lubs x y).isEmpty && !(chain6.dual.lubs x y).isEmpty) = true := by decide +kernel
  have ne : ∀ {l : List Nat}, (!l.isEmpty) = true → l ≠ [] := fun h c => by
    rw [c] at h
    cases h
  refine ⟨by decide, by decide, ⟨fun x _ => decide_eq_true (Nat.le_refl x), fun x y _ _ h1 h2 => Nat.le_antisymm (of_decide_eq_true h1) (of_decide_eq_true h2), fun x y z _ _ _ h1 h2 => decide_eq_true (Nat.le_trans (of_decide_eq_true h1) (of_decide_eq_true h2))⟩,
    fun x y hx hy => ne (Bool.and_eq_true_iff.mp (natBelow_ok (natBelow_ok k hx) hy)).1, fun x y hx hy => ne (Bool.and_eq_true_iff.mp (natBelow_ok (natBelow_ok k hx) hy)).2, ?_, ?_⟩
  · exact ne (by decide +kernel)
  · exact ne (by decide +kernel)
end KM

/-! ## KLb: the law -/
namespace KM
open PySem PySem.Spec PyProof.Rows L2 Evl
def EvX (te : TE) (σ : L2.St) (H : Hp) (ok : V → Hp → Prop) : Prop := ∀ H1, Ex H H1 → ∀ Q : VK, (∀ v H2, Ex H1 H2 → ok v H2 → Q v H2) → te σ H1 Q
theorem q_asgX {te : TE} {σ : L2.St} {H : Hp} {ok : V → Hp → Prop} {D : Ends} {tz : TS} {i : Nat} (h : EvX te σ H ok) (k : ∀ v H1, Ex H H1 → ok v H1 → tz D (σ.set i (some v)) H1) : tSeq (tAsg te (gName i)) tz D σ H := h H (Ex.refl H) _ k
theorem op_of {r : R2} {ta tb : TE} {σ : L2.St} {H : Hp} {Q : VK} (h : ta σ H fun x H1 => tb σ H1 fun y H2 => r x y H2 Q) : tOp r ta tb σ H Q := h
theorem c_of {v : V} {σ : L2.St} {H : Hp} {Q : VK} (h : Q v H) : tC v σ H Q := h
theorem make_of {C : Addr} {sp : Sp} {E : XK} {t : TA} {σ : L2.St} {H : Hp} {Q : VK} (h : t σ H fun vs H1 => ∀ x dx, H1 x = none → H1 dx = none → dx ≠ x → sp (.ref x :: (vs ++ [])) (upd (upd H1 dx (.own x)) x (.ins C dx [])) (fun v H2 => v = .non ∧ Q (.ref x) H2) E) : tMake C sp [] E t σ H Q := h
theorem lst_of {ta : TA} {σ : L2.St} {H : Hp} {Q : VK} (h : ta σ H fun vs H1 => vs.length ≤ sizeLine ∧ ∀ p, H1 p = none → Q (.ref p) (upd H1 p (.lst vs))) : tLst ta σ H Q := h
theorem not_sc {xs : List V} (h : ∀ x, x ∈ xs → scI x = true) : ¬ isHand (.lst xs) := fun ⟨c, p, g, m, e⟩ => by
  have e2 := HO.lst.inj e
  have := h (.ref c) (by rw [e2]; exact List.mem_cons_self)
  cases this
theorem not_ref2 {a b : Addr} {r : List V} : ¬ isHand (.lst (.ref a :: .ref b :: r)) := fun ⟨_, _, _, _, e⟩ => by cases e
theorem cut_mem {xs : List V} {a b : Option Int} {x : V} (h : x ∈ cutV xs a b) : x ∈ xs := List.mem_of_mem_drop (List.mem_of_mem_take h)
section
variable {P : Program} {w : World} {K : PySem.W.Frag} {mg : Str → Option Value} {base : Heap} {CX : CXT} {f C fC : Addr} {fd fdC : FuncData}
abbrev nl_law : List Str := ["_law_script", "_law_hand_here", "_law_one", "_law_other", "_law_first", "_law_second", "_law_turn", "_law_values", "_law_k", "_law_chain", "_law_y", "_law_x"]
theorem sc_law : FnScope nl_law ["_law_script"] (defScope s_law) := ⟨rfl, rfl, rfl, by decide +kernel, rfl, by decide +kernel, by decide +kernel⟩
-- slots: 0:~script 1:~hand_here 2:~one 3:~other 4:~first 5:~second 6:~turn 7:~values 8:~k 9:~chain 10:~y 11:~x
def spLaw (K : PySem.W.Frag) : Sp := fun vs H Q _ => ∃ (a : Addr) (ns : List Int), vs = [.ref a] ∧ SqL K H a (ns.map V.int) ∧ ns.length ≤ 63 ∧ ∀ H2, Q (.bl true) H2
theorem ok_law {f1 f2 f3 f4 f5 f6 f7 f8 f9 f10 f11 : Addr} {d1 d2 d3 d4 d5 d6 d7 d8 d9 d10 d11 : FuncData} (h_l_hand : Has P w K mg base CX0 1 "_law_hand" ["_law_script"] (spHand K) f1 d1) (h_l_lattice : Has P w K mg base CX0 2 "_law_lattice" ["_law_sets"] spLattice f2 d2)
    (h_l_shuffled : Has P w K mg base CX0 3 "_law_shuffled" ["_law_hand_here", "_law_things"] spShuf f3 d3) (h_l_drawn_family : Has P w K mg base CX0 3 "_law_drawn_family" ["_law_hand_here", "_law_points", "_law_most"] spDFam f4 d4)
    (h_l_drawn_lowers : Has P w K mg base CX0 3 "_law_drawn_lowers" ["_law_hand_here", "_law_points", "_law_most"] spDLowers f5 d5) (h_Lattice : HasC P w K mg base CX0 3 "Lattice" ["self", "table"] (spInit C) C fC fdC)
    (h_l_within : Has P w K mg base CX0 7 "_law_within" ["_law_hand_here", "_law_one", "_law_first"] (spWithin C) f6 d6) (h_l_drawn_map : Has P w K mg base CX0 3 "_law_drawn_map" ["_law_hand_here", "_law_one", "_law_other"] spDMap f7 d7)
    (h_l_take : Has P w K mg base CX0 2 "_law_take" ["_law_hand_here", "_law_many"] spTake f8 d8) (h_l_one_map : Has P w K mg base CX0 6 "_law_one_map" ["_law_one", "_law_other", "_law_first", "_law_second", "_law_values"] (spOneMap C) f9 d9)
    (h_l_all : Has P w K mg base CX0 9 "_law_all" ["_law_first", "_law_second"] (spAll C) f10 d10) (h_l_all_due : Has P w K mg base CX0 2 "_law_all_due" ["_law_one", "_law_other"] spDue f11 d11)
    (F : At K "law" "law" s_law f fd) (T : Tx K mg) : FnOk P w K mg base CX 10 f fd ["_law_script"] (spLaw K) := by
  refine F.ok sc_law (fun vs H Q E h => ?_) (fun cdv Ar outer s H vs Q E hr h => ?_)
  · obtain ⟨a, ns, rfl, _⟩ := h
    rfl
  obtain ⟨sa, ns, rfl, hS, hn, q⟩ := h
  have hu64 := rm64 (k := 9) hr.un
  refine ⟨_, PSs.nox (pss_cons (ps_set (i := 1) sc_law.nd rfl (by first | exact Or.inl rfl | exact Or.inr rfl) (pe_call h_l_hand.ok (hr.mono (by decide)) rfl h_l_hand.g h_l_hand.kp h_l_hand.b .nil pass0 (pa_cons (pv 0) pa_nil)))
    (pss_cons (ps_set (i := 2) sc_law.nd rfl (by first | exact Or.inl rfl | exact Or.inr rfl) (pe_call h_l_lattice.ok (hr.mono (by decide)) rfl h_l_lattice.g h_l_lattice.kp h_l_lattice.b .nil pass0 (pa_cons (pe_call h_l_shuffled.ok (hr.mono (by decide)) rfl h_l_shuffled.g h_l_shuffled.kp h_l_shuffled.b .nil pass0 (pa_cons (pv 1) (pa_cons (pe_call h_l_drawn_family.ok (hr.mono (by decide)) rfl h_l_drawn_family.g h_l_drawn_family.kp h_l_drawn_family.b .nil pass0 (pa_cons (pv 1) (pa_cons pe_int (pa_cons pe_int pa_nil)))) pa_nil))) pa_nil)))
    (pss_cons (ps_set (i := 3) sc_law.nd rfl (by first | exact Or.inl rfl | exact Or.inr rfl) (pe_call h_l_lattice.ok (hr.mono (by decide)) rfl h_l_lattice.g h_l_lattice.kp h_l_lattice.b .nil pass0 (pa_cons (pe_call h_l_shuffled.ok (hr.mono (by decide)) rfl h_l_shuffled.g h_l_shuffled.kp h_l_shuffled.b .nil pass0 (pa_cons (pv 1) (pa_cons (pe_call h_l_drawn_lowers.ok (hr.mono (by decide)) rfl h_l_drawn_lowers.g h_l_drawn_lowers.kp h_l_drawn_lowers.b .nil pass0 (pa_cons (pv 1) (pa_cons pe_int (pa_cons pe_int pa_nil)))) pa_nil))) pa_nil)))
    (pss_cons (ps_set (i := 4) sc_law.nd rfl (by first | exact Or.inl rfl | exact Or.inr rfl) (pe_make h_Lattice.mkc h_Lattice.ok (hr.mono (by decide)) rfl h_Lattice.g h_Lattice.b .nil pass0 (pa_cons (pe_ix (ixq (K := K)) (pv 2) pe_int (fun _ _ => rfl)) pa_nil)))
    (pss_cons (ps_set (i := 5) sc_law.nd rfl (by first | exact Or.inl rfl | exact Or.inr rfl) (pe_make h_Lattice.mkc h_Lattice.ok (hr.mono (by decide)) rfl h_Lattice.g h_Lattice.b .nil pass0 (pa_cons (pe_ix (ixq (K := K)) (pv 3) pe_int (fun _ _ => rfl)) pa_nil)))
    (pss_cons (ps_if (PW.pt (pw_or (pt_not (pt_val (pe_call h_l_within.ok (hr.mono (by decide)) rfl h_l_within.g h_l_within.kp h_l_within.b .nil pass0 (pa_cons (pv 1) (pa_cons (pv 2) (pa_cons (pv 4) pa_nil)))))) (pw_or1 (pt_not (pt_val (pe_call h_l_within.ok (hr.mono (by decide)) rfl h_l_within.g h_l_within.kp h_l_within.b .nil pass0 (pa_cons (pv 1) (pa_cons (pv 3) (pa_cons (pv 5) pa_nil)))))))))
      (pss_one (ps_ret pe_bl))
      pss_nil)
    (pss_cons (ps_for PassesOwn.never rfl (pi_range1 (by rfl) T.m_range (pa_cons pe_int pa_nil)) (pg_name (i := 6) sc_law.nd rfl (by first | exact Or.inl rfl | exact Or.inr rfl))
      (pss_cons (ps_set (i := 7) sc_law.nd rfl (by first | exact Or.inl rfl | exact Or.inr rfl) (pe_call h_l_drawn_map.ok (hr.mono (by decide)) rfl h_l_drawn_map.g h_l_drawn_map.kp h_l_drawn_map.b .nil pass0 (pa_cons (pv 1) (pa_cons (pv 2) (pa_cons (pv 3) pa_nil)))))
      (pss_cut (ps_if (pt_cmpR op_gt (pv 6) pe_int (nomark _))
        (pss_cons (ps_set (i := 8) sc_law.nd rfl (by first | exact Or.inl rfl | exact Or.inr rfl) (pe_call h_l_take.ok (hr.mono (by decide)) rfl h_l_take.g h_l_take.kp h_l_take.b .nil pass0 (pa_cons (pv 1) (pa_cons (pe_ix (ixq (K := K)) (pv 2) pe_int (fun _ _ => rfl)) pa_nil))))
        (pss_one (ps_asg (pe_ix (ixq (K := K)) (pe_lst (pa_cons (pe_call h_l_take.ok (hr.mono (by decide)) rfl h_l_take.g h_l_take.kp h_l_take.b .nil pass0 (pa_cons (pv 1) (pa_cons (pe_ix (ixq (K := K)) (pv 3) pe_int (fun _ _ => rfl)) pa_nil))) (pa_cons (pe_ix (ixq (K := K)) (pv 3) pe_int (fun _ _ => rfl)) (pa_cons (pe_un un_neg pe_int) (pa_cons pe_non (pa_cons pe_bl (pa_cons pe_str pa_nil))))))) (pe_call h_l_take.ok (hr.mono (by decide)) rfl h_l_take.g h_l_take.kp h_l_take.b .nil pass0 (pa_cons (pv 1) (pa_cons pe_int pa_nil))) (fun _ _ => rfl)) (pg_sub (pv 7) (pv 8) set_list))))
        pss_nil)
      (pss_cut (ps_if (PW.pt (pw_and (pt_cmpR op_eq (pv 6) pe_int (nomark _)) (pw_and1 (pt_cmpR op_eq (pe_call h_l_take.ok (hr.mono (by decide)) rfl h_l_take.g h_l_take.kp h_l_take.b .nil pass0 (pa_cons (pv 1) (pa_cons pe_int pa_nil))) pe_int (nomark _)))))
        (pss_one (ps_set (i := 7) sc_law.nd rfl (by first | exact Or.inl rfl | exact Or.inr rfl) (pe_ix (ixq (K := K)) (pe_lst (pa_cons (pe_slice (slL (K := K)) (pv 7) (po_some pe_int) po_none) (pa_cons (pe_op op_cat (pv 7) (pe_lst (pa_cons pe_int pa_nil))) (pa_cons pe_non (pa_cons (pe_op op_mulS pe_str (pe_ix (ixq (K := K)) (pv 2) pe_int (fun _ _ => rfl))) pa_nil))))) (pe_call h_l_take.ok (hr.mono (by decide)) rfl h_l_take.g h_l_take.kp h_l_take.b .nil pass0 (pa_cons (pv 1) (pa_cons pe_int pa_nil))) (fun _ _ => rfl))))
        pss_nil)
      (pss_one (ps_if (pt_not (pt_val (pe_call h_l_one_map.ok (hr.mono (by decide)) rfl h_l_one_map.g h_l_one_map.kp h_l_one_map.b .nil pass0 (pa_cons (pv 2) (pa_cons (pv 3) (pa_cons (pv 4) (pa_cons (pv 5) (pa_cons (pv 7) pa_nil))))))))
        (pss_one (ps_ret pe_bl))
        pss_nil))))))
    (pss_cons (ps_set (i := 2) sc_law.nd rfl (by first | exact Or.inl rfl | exact Or.inr rfl) (pe_call h_l_lattice.ok (hr.mono (by decide)) rfl h_l_lattice.g h_l_lattice.kp h_l_lattice.b .nil pass0 (pa_cons (pe_call h_l_shuffled.ok (hr.mono (by decide)) rfl h_l_shuffled.g h_l_shuffled.kp h_l_shuffled.b .nil pass0 (pa_cons (pv 1) (pa_cons (pe_call h_l_drawn_family.ok (hr.mono (by decide)) rfl h_l_drawn_family.g h_l_drawn_family.kp h_l_drawn_family.b .nil pass0 (pa_cons (pv 1) (pa_cons pe_int (pa_cons pe_int pa_nil)))) pa_nil))) pa_nil)))
    (pss_cons (ps_set (i := 3) sc_law.nd rfl (by first | exact Or.inl rfl | exact Or.inr rfl) (pe_call h_l_lattice.ok (hr.mono (by decide)) rfl h_l_lattice.g h_l_lattice.kp h_l_lattice.b .nil pass0 (pa_cons (pe_call h_l_shuffled.ok (hr.mono (by decide)) rfl h_l_shuffled.g h_l_shuffled.kp h_l_shuffled.b .nil pass0 (pa_cons (pv 1) (pa_cons (pe_call h_l_drawn_family.ok (hr.mono (by decide)) rfl h_l_drawn_family.g h_l_drawn_family.kp h_l_drawn_family.b .nil pass0 (pa_cons (pv 1) (pa_cons pe_int (pa_cons pe_int pa_nil)))) pa_nil))) pa_nil)))
    (pss_cut (ps_if (pt_cmpR op_eq (pe_call h_l_take.ok (hr.mono (by decide)) rfl h_l_take.g h_l_take.kp h_l_take.b .nil pass0 (pa_cons (pv 1) (pa_cons pe_int pa_nil))) pe_int (nomark _))
      (pss_one (ps_par (i := 2) (j := 3) rfl sc_law.nd rfl rfl (by decide) rfl rfl (pa_cons (pv 3) (pa_cons (pv 2) pa_nil)) rfl))
      pss_nil)
    (pss_cons (ps_if (pt_cmpR (oneD (K := K) hu64) (pe_call h_l_all.ok (hr.mono (by decide)) rfl h_l_all.g h_l_all.kp h_l_all.b .nil pass0 (pa_cons (pe_make h_Lattice.mkc h_Lattice.ok (hr.mono (by decide)) rfl h_Lattice.g h_Lattice.b .nil pass0 (pa_cons (pe_ix (ixq (K := K)) (pv 2) pe_int (fun _ _ => rfl)) pa_nil)) (pa_cons (pe_make h_Lattice.mkc h_Lattice.ok (hr.mono (by decide)) rfl h_Lattice.g h_Lattice.b .nil pass0 (pa_cons (pe_ix (ixq (K := K)) (pv 3) pe_int (fun _ _ => rfl)) pa_nil)) pa_nil))) (pe_lst (pa_cons pe_int (pa_cons (pe_call h_l_all_due.ok (hr.mono (by decide)) rfl h_l_all_due.g h_l_all_due.kp h_l_all_due.b .nil pass0 (pa_cons (pv 2) (pa_cons (pv 3) pa_nil))) pa_nil))) (nomark _))
      (pss_one (ps_ret pe_bl))
      pss_nil)
    (pss_cons (ps_set (i := 9) sc_law.nd rfl (by first | exact Or.inl rfl | exact Or.inr rfl) (pe_make h_Lattice.mkc h_Lattice.ok (hr.mono (by decide)) rfl h_Lattice.g h_Lattice.b .nil pass0 (pa_cons (pe_lc (own := [("_law_x", 11)]) (g := gName 11) (tt := tYes) rfl sc_law.nd (pi_range1 (by rfl) T.m_range (pa_cons pe_int pa_nil)) (blkOk_by (N := nl_law) (sc := (defScope s_law)) (by decide +kernel)) (fun _ _ _ _ _ => pg_name (i := 11) sc_law.nd rfl (by first | exact Or.inl rfl | exact Or.inr rfl)) (fun _ _ _ _ _ => pts_nil) (by intro _ _ _ _ _; exact (pe_lc (own := [("_law_y", 10)]) (g := gName 10) (tt := tYes) rfl sc_law.nd (pi_range1 (by rfl) T.m_range (pa_cons pe_int pa_nil)) (blkOk_by (N := nl_law) (sc := (relS _ (defScope s_law))) (by decide +kernel)) (fun _ _ _ _ _ => pg_name (i := 10) sc_law.nd rfl (by first | exact Or.inl rfl | exact Or.inr rfl)) (fun _ _ _ _ _ => pts_nil) (by intro _ _ _ _ _; exact (pe_cmpR op_le (pv 11) (pv 10) (nomark _)))))) pa_nil)))
    (pss_one (ps_ret (pe_and (pe_cmpR (oeqD (K := K) hu64) (pe_call h_l_all.ok (hr.mono (by decide)) rfl h_l_all.g h_l_all.kp h_l_all.b .nil pass0 (pa_cons (pv 9) (pa_cons (pv 5) pa_nil))) (pe_lst (pa_cons pe_int (pa_cons pe_int pa_nil))) (nomark _)) (pe_one (pe_cmpR (oeqD (K := K) hu64) (pe_call h_l_all.ok (hr.mono (by decide)) rfl h_l_all.g h_l_all.kp h_l_all.b .nil pass0 (pa_cons (pe_make h_Lattice.mkc h_Lattice.ok (hr.mono (by decide)) rfl h_Lattice.g h_Lattice.b .nil pass0 (pa_cons (pe_ix (ixq (K := K)) (pv 2) pe_int (fun _ _ => rfl)) pa_nil)) (pa_cons (pv 9) pa_nil))) (pe_lst (pa_cons pe_int (pa_cons pe_int pa_nil))) (nomark _)))))))))))))))))), ?_⟩
  -- the hand
  refine q_asgX (ok := fun v H1 => ∃ h c cs, v = .ref h ∧ Hd H1 h c cs) (fun H1 e1 Q k => ⟨_, rfl, sa, ns, rfl, ex_l e1 hS, hn, fun h c cs H2 e2 hd => k _ H2 e2 ⟨h, c, cs, rfl, hd⟩⟩) fun v H1 e1 o => ?_
  obtain ⟨h, c, cs, rfl, hd1⟩ := o
  -- the lattices
  refine q_asgK (ek_draw (by decide) (fun H2 _ => ev_var rfl) (dfam_of (pts := 4) (most := 9) (by decide) (by decide) (by decide) fun H2 _ => ev_var rfl)) hd1 fun v H2 k2 hd2 o => ?_
  obtain ⟨pa, F1, rfl, _, hPA2, fam1, len1⟩ := o
  refine q_asgK (ek_draw (by decide) (fun H3 _ => ev_var rfl) (dlow_of fun H3 _ => ev_var rfl)) hd2 fun v H3 k3 hd3 o => ?_
  obtain ⟨pb, F2, rfl, _, hPB3, fam2, len2⟩ := o
  have hPA3 := hPA2.kp k3
  have gA := fam_good fam1 (by omega)
  have gB := fam_good fam2 (by omega)
  generalize latOf F1 = A at *
  generalize latOf F2 = B at *
  refine q_asgP (ep_makeL (ev_var rfl) hPA3 gA) fun fa H4 hfa e4 hA4 => ?_
  refine q_asgP (ep_makeL (ev_var rfl) (hPB3.ex e4) gB) fun fb H5 hfb e5 hB5 => ?_
  have hA5 := hA4.ex e5
  have hPA5 := hPA3.ex (e4.trans e5)
  have hPB5 := hPB3.ex (e4.trans e5)
  have hd5 := hd3.ex (e4.trans e5)
  clear hPA2 hPA3 hPB3 hA4 hd1 hd2 hd3 e1 k2 k3 e4 e5 hS hn
  -- within each
  have win : ∀ (σ : L2.St) (i j : Nat) (p a : Addr) (L : Lt), σ[1]? = some (some (.ref h)) → σ[i]? = some (some (.ref p)) → σ[j]? = some (some (.ref a)) → PL H5 p L → LI C H5 a L → Good L → EvTK (tNot (tB (tCall (spWithin C) [] E0 (tCons (tVar 1) (tCons (tVar i) (tCons (tVar j) tNil)))))) σ h c cs H5 (fun d => d = false) :=
    fun σ i j p a L s1 s2 s3 hp ha g => etk_not (b := true) (etk_B fun H1 k1 d1 Q k => ⟨_, s1, _, s2, _, s3, h, c, p, a, cs, L, rfl, d1, hp.kp k1, ha.kp k1, g, fun H2 k2 d2 => k _ H2 k2 d2 rfl⟩)
  refine q_whenK (etk_orF (win _ 2 4 pa fa A rfl rfl rfl hPA5 hA5 gA) (win _ 3 5 pb fb B rfl rfl rfl hPB5 hB5 gB)) hd5 (fun c => by cases c) (fun _ H6 k6 hd6 => ?_)
  clear win
  have nA := gA.small
  have nB := gB.small
  have pA := gA.pos
  have pB := gB.pos
  -- four maps
  refine q_forR1 (n := 4) (ea_cons ev_c ea_nil) (by decide) (fun i σ' H' => Kp H5 H' ∧ Hd H' h c cs ∧ ∃ v6 v7 v8, σ' = [some (.ref sa), some (.ref h), some (.ref pa), some (.ref pb), some (.ref fa), some (.ref fb), v6, v7, v8, none, none, none]) (fun H7 e7 => ⟨k6.ex e7, hd6.ex e7, none, none, none, rfl⟩) (fun i σ' H' hi hP => ?_) (fun σ' H' hP => ?_)
  · obtain ⟨k, d, v6, v7, v8, rfl⟩ := hP
    have dm : EvK (tCall spDMap [] E0 (tCons (tVar 1) (tCons (tVar 2) (tCons (tVar 3) tNil)))) [some (.ref sa), some (.ref h), some (.ref pa), some (.ref pb), some (.ref fa), some (.ref fb), some (.int (i : Int)), v7, v8, none, none, none] h c cs H'
        (fun v H2 => ∃ vl g, v = .ref vl ∧ H' vl = none ∧ H2 vl = some (.lst (intsV g)) ∧ g.length = A.n) := fun H1 k1 d1 Q kk => ⟨_, rfl, _, rfl, _, rfl, h, c, pa, pb, cs, A, B, rfl, d1, hPA5.kp (k.trans k1), hPB5.kp (k.trans k1), gA, gB, fun q g H2 hq k2 d2 h2 hl _ => kk _ H2 k2 d2 ⟨q, g, rfl, k1.dom _ hq, h2, hl⟩⟩
    refine q_asgK dm d fun v H1 k1 d1 o => ?_
    clear dm
    obtain ⟨vl, g, rfl, hvl, hg, hgl⟩ := o
    have hvl5 := k.dom _ hvl
    -- a map that is spoilt at one place
    refine q_cut (M := fun σ' H2 => Kp H5 H2 ∧ Hd H2 h c cs ∧ ∃ xs v8, H2 vl = some (.lst xs) ∧ xs.length = A.n ∧ (∀ x, x ∈ xs → scI x = true) ∧ σ' = [some (.ref sa), some (.ref h), some (.ref pa), some (.ref pb), some (.ref fa), some (.ref fb), some (.int (i : Int)), some (.ref vl), v8, none, none, none]) ?_ (fun σ' H2 hM => ?_)
    · refine s_when (b := decide ((1 : Int) < (i : Int))) (et_test (ev_op (ev_var rfl) ev_c rv_I0)) (fun _ H2 e2 => ?_) (fun _ H2 e2 => ⟨(k.trans k1).ex e2, d1.ex e2, _, _, e2 _ _ hg, by rw [intsV_len]; exact hgl, fun x hx => scI_ints _ x rfl hx, rfl⟩)
      have k02 := (k.trans k1).ex e2
      refine q_asgK (ek_take (n := A.n) (fun H3 k3 => ea_cons (ev_var rfl) (ea_cons (ev_plN (ev_var rfl) (hPA5.kp (k02.trans k3))) ea_nil)) pA (by omega)) (d1.ex e2) fun v H3 k3 d3 o => ?_
      obtain ⟨pl, hpl, rfl⟩ := o
      have k03 := k02.trans k3
      have hg3 := k3.kp _ _ (e2 _ _ hg) not_intsV
      refine op_of (lst_of (cons_of ?_))
      refine ek_take (h := h) (c := c) (cs := cs) (H := H3) (n := B.n) (fun H4 k4 => ea_cons (ev_var rfl) (ea_cons (ev_plN (ev_var rfl) (hPB5.kp (k03.trans k4))) ea_nil)) pB (by omega) H3 (.refl _) d3 _ fun v H4 k4 d4 o => ?_
      obtain ⟨r, hr, rfl⟩ := o
      have k04 := k03.trans k4
      refine (ea_cons (ev_plN (ev_var rfl) (hPB5.kp k04)) (ea_cons (ev_un ev_c ru_neg) (ea_cons ev_c (ea_cons ev_c (ea_cons ev_c ea_nil)))) : EvA _ _ H4 [.int (B.n : Int), .int (-1), .non, .bl true, .str "0"]) H4 (Ex.refl H4) _ fun H6 e6 => ⟨by show 6 ≤ sizeLine; decide, fun p hp => ?_⟩
      have k46 := k4.ex e6
      have d6 := (d4.ex e6).ex (Ex.new (o := .lst [.int (r : Int), .int (B.n : Int), .int (-1), .non, .bl true, .str "0"]) hp)
      refine ek_take (h := h) (c := c) (cs := cs) (H := upd H6 p (.lst [.int (r : Int), .int (B.n : Int), .int (-1), .non, .bl true, .str "0"])) (n := 6) (fun H7 k7 => ea_cons (ev_var rfl) (ea_cons ev_c ea_nil)) (by decide) (by decide) _ (.refl _) d6 _ fun v H7 k7 d7 o => ?_
      obtain ⟨s, hs, rfl⟩ := o
      have hp7 := k7.kp _ _ upd_same (not_int1 (i := (r : Int)) (r := [.int (B.n : Int), .int (-1), .non, .bl true, .str "0"]))
      have k37 := (k46.ex (Ex.new (o := .lst [.int (r : Int), .int (B.n : Int), .int (-1), .non, .bl true, .str "0"]) hp)).trans k7
      have hg7 := k37.kp _ _ hg3 not_intsV
      have hlt : s < [V.int (r : Int), .int (B.n : Int), .int (-1), .non, .bl true, .str "0"].length := hs
      have hget := List.getElem?_eq_getElem hlt
      have hsc : scI [V.int (r : Int), .int (B.n : Int), .int (-1), .non, .bl true, .str "0"][s] = true := by
        have all : ∀ x, x ∈ [V.int (r : Int), .int (B.n : Int), .int (-1), .non, .bl true, .str "0"] → scI x = true := by
          intro x hx
          simp only [List.mem_cons, List.not_mem_nil, or_false] at hx
          rcases hx with e | e | e | e | e | e <;> (subst e; rfl)
        exact all _ (List.getElem_mem hlt)
      refine Or.inl ⟨p, _, (s : Int), _, rfl, rfl, SqL.of hp7, atI_nat hget, ?_⟩
      generalize [V.int (r : Int), .int (B.n : Int), .int (-1), .non, .bl true, .str "0"][s] = x at hsc
      refine ⟨_, rfl, _, rfl, vl, _, (pl : Int), pl, rfl, rfl, hg7, ixN_nat (by rw [intsV_len]; omega), ?_⟩
      refine ⟨(k03.trans k37).mut hvl5, hd5.mut hvl5 d7, (intsV g).set pl x, _, upd_same, by rw [List.length_set, intsV_len]; exact hgl, fun y hy => ?_, rfl⟩
      rcases List.mem_or_eq_of_mem_set hy with z | z
      · exact scI_ints _ y rfl z
      · rw [z]
        exact hsc
    obtain ⟨k2, d2, xs, v8, hxs, hxl, hsc, rfl⟩ := hM
    -- no map at all
    refine q_cut (M := fun σ' H3 => Kp H5 H3 ∧ Hd H3 h c cs ∧ ∃ (v : V) (r : Option (List V)), RowOf H3 v r ∧ ScR r ∧ σ' = [some (.ref sa), some (.ref h), some (.ref pa), some (.ref pb), some (.ref fa), some (.ref fb), some (.int (i : Int)), some v, v8, none, none, none]) ?_ (fun σ' H3 hM => ?_)
    · refine s_whenK (etk_and (b := decide (i = 3)) (fun H3 k3 => et_test (ev_op (ev_var rfl) ev_c (rv_eqN i 3))) (etk_take0 (n := 2) (fun H3 k3 => ea_cons (ev_var rfl) (ea_cons ev_c ea_nil)) (by decide) (by decide))) d2 (fun _ H3 k3 d3 => ?_)
        (fun _ H3 k3 d3 => ⟨k2.trans k3, d3, .ref vl, some xs, ⟨vl, HO.lst, rfl, Or.inl rfl, k3.kp _ _ hxs (not_sc hsc)⟩, fun ys y e hy => by
          cases e
          exact hsc y hy, rfl⟩)
      have hx3 := k3.kp _ _ hxs (not_sc hsc)
      have k03 := k2.trans k3
      refine op_of (lst_of (cons_of ?_))
      refine (el_sl (K := K) (lo := some 1) (hi := none) (ev_var rfl) (eo_some ev_c) eo_none (SqL.of hx3) : EvL (tSl (rSlL K) (tVar 7) (tPart (tC (.int 1))) tNoPart) [some (.ref sa), some (.ref h), some (.ref pa), some (.ref pb), some (.ref fa), some (.ref fb), some (.int (i : Int)), some (.ref vl), v8, none, none, none] H3 (cutV xs (some 1) none)) H3 (Ex.refl H3) _ fun p1 H4 hp1 e4 h4 => ?_
      refine cons_of ?_
      have hx4 := e4 _ _ hx3
      refine op_of ⟨_, rfl, ?_⟩
      refine (el_lst (ea_cons ev_c ea_nil) (by show 1 ≤ 100000; decide) : EvL (tLst (tCons (tC (.int 0)) tNil)) [some (.ref sa), some (.ref h), some (.ref pa), some (.ref pb), some (.ref fa), some (.ref fb), some (.int (i : Int)), some (.ref vl), v8, none, none, none] H4 [.int 0]) H4 (Ex.refl H4) _ fun pz H6 hpz e6 h6 => ?_
      refine ⟨vl, pz, xs, [.int 0], rfl, rfl, e6 _ _ hx4, h6, sz_of (by rw [List.length_singleton]; omega), fun p2 hp2 => ?_⟩
      have e37 : Ex H3 (upd H6 p2 (.lst (xs ++ [.int 0]))) := (e4.trans e6).trans (Ex.new hp2)
      have h17 : upd H6 p2 (.lst (xs ++ [.int 0])) p1 = some (.lst (cutV xs (some 1) none)) := by
        rw [upd_ne (ne_of_none (e6 _ _ h4) hp2)]
        exact e6 _ _ h4
      have h27 : upd H6 p2 (.lst (xs ++ [.int 0])) p2 = some (.lst (xs ++ [.int 0])) := upd_same
      generalize upd H6 p2 (.lst (xs ++ [.int 0])) = H7 at e37 h17 h27
      refine cons_of (c_of (cons_of (op_of (c_of ?_))))
      refine (ev_plN (ev_var rfl) (hPA5.kp (k03.ex e37)) : Ev (tOp (rIx K) (tVar 2) (tC (.int 0))) [some (.ref sa), some (.ref h), some (.ref pa), some (.ref pb), some (.ref fa), some (.ref fb), some (.int (i : Int)), some (.ref vl), v8, none, none, none] H7 (.int (A.n : Int))) H7 (Ex.refl H7) _ fun H8 e8 => ⟨_, A.n, rfl, rfl, ?_, by omega, fun r => ?_⟩
      · show 1 * A.n ≤ 1000
        omega
      refine ⟨by show 4 ≤ sizeLine; decide, fun p hp => ?_⟩
      have e38 : Ex H3 (upd H8 p (.lst [.ref p1, .ref p2, .non, .str r])) := (e37.trans e8).trans (Ex.new hp)
      have h18 := (Ex.new (o := .lst [.ref p1, .ref p2, .non, .str r]) hp) _ _ (e8 _ _ h17)
      have h28 := (Ex.new (o := .lst [.ref p1, .ref p2, .non, .str r]) hp) _ _ (e8 _ _ h27)
      have hp8 : upd H8 p (.lst [.ref p1, .ref p2, .non, .str r]) p = some (.lst [.ref p1, .ref p2, .non, .str r]) := upd_same
      generalize upd H8 p (.lst [.ref p1, .ref p2, .non, .str r]) = H9 at e38 h18 h28 hp8
      refine ek_take (h := h) (c := c) (cs := cs) (H := H9) (n := 4) (fun H7 k7 => ea_cons (ev_var rfl) (ea_cons ev_c ea_nil)) (by decide) (by decide) _ (.refl _) (d3.ex e38) _ fun v H10 k10 d10 o => ?_
      obtain ⟨s, hs, rfl⟩ := o
      have hp10 := k10.kp _ _ hp8 not_ref2
      have sc1 : ∀ x, x ∈ cutV xs (some 1) none → scI x = true := fun x hx => hsc x (cut_mem hx)
      have sc2 : ∀ x, x ∈ xs ++ [V.int 0] → scI x = true := fun x hx => by
        rcases List.mem_append.mp hx with z | z
        · exact hsc x z
        · rw [List.mem_singleton.mp z]
          rfl
      have h110 := k10.kp _ _ h18 (not_sc sc1)
      have h210 := k10.kp _ _ h28 (not_sc sc2)
      have K10 := (k03.ex e38).trans k10
      have hs4 : s = 0 ∨ s = 1 ∨ s = 2 ∨ s = 3 := by omega
      rcases hs4 with e | e | e | e
      · subst e
        exact Or.inl ⟨p, _, ((0 : Nat) : Int), .ref p1, rfl, rfl, SqL.of hp10, atI_nat rfl, K10, d10, .ref p1, some (cutV xs (some 1) none), ⟨p1, HO.lst, rfl, Or.inl rfl, h110⟩, fun ys y e hy => by
          cases e
          exact sc1 y hy, rfl⟩
      · subst e
        exact Or.inl ⟨p, _, ((1 : Nat) : Int), .ref p2, rfl, rfl, SqL.of hp10, atI_nat rfl, K10, d10, .ref p2, some (xs ++ [.int 0]), ⟨p2, HO.lst, rfl, Or.inl rfl, h210⟩, fun ys y e hy => by
          cases e
          exact sc2 y hy, rfl⟩
      · subst e
        exact Or.inl ⟨p, _, ((2 : Nat) : Int), .non, rfl, rfl, SqL.of hp10, atI_nat rfl, K10, d10, .non, none, Or.inl rfl, fun ys y e _ => (by cases e), rfl⟩
      · subst e
        exact Or.inl ⟨p, _, ((3 : Nat) : Int), .str r, rfl, rfl, SqL.of hp10, atI_nat rfl, K10, d10, .str r, none, Or.inr ⟨r, rfl⟩, fun ys y e _ => (by cases e), rfl⟩
    obtain ⟨k3, d3, v, r, hv, hsr, rfl⟩ := hM
    refine s_when (b := false) (et_not (et_B (b := true) (ev_call (ea_cons (ev_var rfl) (ea_cons (ev_var rfl) (ea_cons (ev_var rfl) (ea_cons (ev_var rfl) (ea_cons (ev_var rfl) ea_nil))))) fun H4 e4 Q kk E => ⟨pa, pb, fa, fb, v, A, B, r, rfl, hPA5.kp (k3.ex e4), hPB5.kp (k3.ex e4), hA5.kp (k3.ex e4), hB5.kp (k3.ex e4), gA, gB, hv.ex e4, hsr, fun H6 e6 => kk H6 e6⟩))) (fun c => by cases c) fun _ H4 e4 => ⟨k3.ex e4, d3.ex e4, _, _, _, rfl⟩
  obtain ⟨k, d, v6, v7, v8, rfl⟩ := hP
  have hB' := hB5.kp k
  clear hA5 hPA5 hPB5 hd5 hd6 k6 hfa hfb nA pA pB
  -- two more lattices
  refine q_asgK (ek_draw (by decide) (fun H2 _ => ev_var rfl) (dfam_of (pts := 3) (most := 5) (by decide) (by decide) (by decide) fun H2 _ => ev_var rfl)) d fun v H2 k2 hd2 o => ?_
  obtain ⟨pa', F3, rfl, _, hPA2, fam3, len3⟩ := o
  refine q_asgK (ek_draw (by decide) (fun H3 _ => ev_var rfl) (dfam_of (pts := 2) (most := 3) (by decide) (by decide) (by decide) fun H2 _ => ev_var rfl)) hd2 fun v H3 k3 hd3 o => ?_
  obtain ⟨pb', F4, rfl, _, hPB3, fam4, len4⟩ := o
  have hPA3 := hPA2.kp k3
  have hB3 := (hB'.kp k2).kp k3
  have gA2 := fam_good fam3 (by omega)
  have gB2 := fam_good fam4 (by omega)
  have nA2 : (latOf F3).n ≤ 5 := len3
  have nB2 : (latOf F4).n ≤ 5 := Nat.le_trans len4 (by decide)
  generalize latOf F3 = A2 at *
  generalize latOf F4 = B2 at *
  refine q_cut (M := fun σ' H4 => ∃ (p1 p2 : Addr) (L1 L2 : Lt), PL H4 p1 L1 ∧ PL H4 p2 L2 ∧ Good L1 ∧ Good L2 ∧ L1.n ≤ 5 ∧ L2.n ≤ 5 ∧ LI C H4 fb B ∧ σ' = [some (.ref sa), some (.ref h), some (.ref p1), some (.ref p2), some (.ref fa), some (.ref fb), v6, v7, v8, none, none, none]) ?_ (fun σ' H4 hM => ?_)
  · refine s_whenK (etk_take0 (n := 2) (fun H4 k4 => ea_cons (ev_var rfl) (ea_cons ev_c ea_nil)) (by decide) (by decide)) hd3 (fun _ H4 k4 d4 => ?_) (fun _ H4 k4 d4 => ⟨pa', pb', A2, B2, hPA3.kp k4, hPB3.kp k4, gA2, gB2, nA2, nB2, hB3.kp k4, rfl⟩)
    exact ⟨_, rfl, _, rfl, _, _, rfl, pb', pa', B2, A2, hPB3.kp k4, hPA3.kp k4, gB2, gA2, nB2, nA2, hB3.kp k4, rfl⟩
  obtain ⟨p1, p2, L1, L2, h1, h2, g1, g2, n1, n2, hB4, rfl⟩ := hM
  -- all of them
  refine q_when (b := false) (et_neD (x := 0) (d := .list (famD (allMaps L1 L2))) (ed_all (ep_makeL (ev_var rfl) h1 g1) (fun H5 e5 => ep_makeL (ev_var rfl) (h2.ex e5) g2) g1 g2 n1 n2)
    (ed_pair fun H5 e5 Q kk => ⟨_, rfl, _, rfl, p1, p2, L1, L2, rfl, h1.ex e5, h2.ex e5, g1, g2, n1, n2, fun z H6 hz e6 h6 => kk _ H6 e6 (dp_fam h6)⟩) (lay_fam _).1 (lay_fam _).2) (fun c => by cases c) (fun _ H5 e5 => ?_)
  -- the chain
  have ch : EvS .lst .lst (tLc (iRng1 (tCons (tC (.int 6)) tNil)) (gName 11) tYes (tLc (iRng1 (tCons (tC (.int 6)) tNil)) (gName 10) tYes (tOp (rI0 fun i j => .bl (decide (i ≤ j))) (tVar 11) (tVar 10)) [10]) [11]) [some (.ref sa), some (.ref h), some (.ref p1), some (.ref p2), some (.ref fa), some (.ref fb), v6, v7, v8, none, none, none] H5 (tblV chain6) :=
    es_lcR (n := 6) (rowB chain6) (ea_cons ev_c ea_nil) (by decide) (fun _ => rfl) fun x H6 e6 hx => el_lcRy (n := 6) (fun y => V.bl (chain6.le x y)) (ea_cons ev_c ea_nil) (by decide) (fun _ => rfl) fun y H7 e7 hy => ev_is (ev_op (ev_var rfl) (ev_var rfl) rv_I0) (congrArg V.bl (decide_eq_decide.mpr (by omega)))
  have mk : EvP (tMake C (spInit C) [] E0 (tCons (tLc (iRng1 (tCons (tC (.int 6)) tNil)) (gName 11) tYes (tLc (iRng1 (tCons (tC (.int 6)) tNil)) (gName 10) tYes (tOp (rI0 fun i j => .bl (decide (i ≤ j))) (tVar 11) (tVar 10)) [10]) [11]) tNil)) [some (.ref sa), some (.ref h), some (.ref p1), some (.ref p2), some (.ref fa), some (.ref fb), v6, v7, v8, none, none, none] H5 (fun q H2 => LI C H2 q chain6) :=
    fun H6 e6 Q kk => make_of (cons_of (ch H6 e6 _ fun t H7 ht e7 hS => fun x dx hx hdx hne => ⟨x, dx, t, chain6, rfl, chain6_good, upd_same, hS.ex (fun b o hb => by
      rw [upd_ne (ne_of_none hb hx), upd_ne (ne_of_none hb hdx)]
      exact hb), fun H8 k8 hL => ⟨rfl, kk x H8 (fresh_back e7 hx) (e7.trans fun b o hb => k8 b o (ne_of_none hb hx) (by
      rw [upd_ne (ne_of_none hb hx), upd_ne (ne_of_none hb hdx)]
      exact hb)) hL⟩⟩))
  refine q_asgP mk fun fc H6 hfc e6 hC => ?_
  have e56 := e5.trans e6
  refine s_ret (ev_is (ev_andV (ev_eqD (x := 1) (d := .int 5) (ed_all5 (ev_var rfl) (fun H7 e7 => ev_var rfl) hC (hB4.ex e56) chain6_good gB (Or.inl (by decide))) (ed_pair (ed_val ev_c fun H7 e7 => .int 5)) (by simp only [PyData.canLay0]) (by simp only [PyData.depth]; decide))
    fun _ => ev_eqD (x := 1) (d := .int 5) (ed_all5m (ep_makeL (ev_var rfl) (h1.ex e56) g1) (fun H7 e7 => ev_var rfl) hC g1 chain6_good (Or.inr (by decide))) (ed_pair (ed_val ev_c fun H7 e7 => .int 5)) (by simp only [PyData.canLay0]) (by simp only [PyData.depth]; decide)) rfl) fun H7 e7 => q H7
end
end KM

/-! ## KEnd: the end: what the top has made, joined with the walk -/
namespace KM
open PySem PySem.Spec PyProof.Rows L2
theorem oexB_ok {K : PySem.W.Frag} {x f : Str} (h : oexB K x f = true) : OexC K (He.ga K x) ∧ PySem.W.findIn K (.ref (He.ga K x)) "__getattribute__" = some (some (.builtin "BaseException.__getattribute__")) ∧ PySem.W.findIn K (.ref (He.ga K x)) "__getattr__" = some none ∧
    PySem.W.findIn K (.ref (He.ga K x)) f = some none ∧ PySem.W.hasDictIn K (He.ga K x) = true ∧ PySem.W.findIn K (.ref (He.ga K x)) "__init__" = some (some (.ref (He.ma K (He.ga K x) "__init__"))) ∧ PySem.W.typeIn K (.ref (He.ma K (He.ga K x) "__init__")) = some (.type "function") ∧
    PySem.W.subIn K (.ref (He.ga K x)) (.type "StopIteration") = some false := by
  obtain ⟨h0, h⟩ := He.ba h
  obtain ⟨h1, h⟩ := He.ba h
  obtain ⟨h2, h⟩ := He.ba h
  obtain ⟨h3, h⟩ := He.ba h
  obtain ⟨h4, h⟩ := He.ba h
  obtain ⟨h5, h⟩ := He.ba h
  obtain ⟨h6, h⟩ := He.ba h
  obtain ⟨h7, h⟩ := He.ba h
  obtain ⟨h8, h⟩ := He.ba h
  obtain ⟨h9, h⟩ := He.ba h
  obtain ⟨h10, h11⟩ := He.ba h
  refine ⟨⟨?_, He.eqO_ok h1, of_decide_eq_true h2, of_decide_eq_true h3, h4⟩, He.eqO_ok h5, He.eqO_ok h6, He.eqO_ok h7, h8, He.eqO_ok h9, of_decide_eq_true h10, of_decide_eq_true h11⟩
  cases q : K.lookup (He.ga K x) with
  | none =>
    rw [q] at h0
    cases h0
  | some ob =>
    obtain ⟨oc, od, dt, osl⟩ := ob
    rw [q] at h0
    cases oc with
    | type t =>
      cases dt with
      | cls cd =>
        obtain ⟨nm, bs, mro, ns, qn, hd, sn, sub, ab, col, del⟩ := cd
        obtain ⟨g1, g⟩ := He.ba h0
        obtain ⟨g2, g⟩ := He.ba g
        obtain ⟨g3, g⟩ := He.ba g
        obtain ⟨g4, g5⟩ := He.ba g
        have e1 : t = "type" := of_decide_eq_true g1
        have e3 : hd = true := g3
        have e4 : del = false := by simpa using g4
        subst e1 e3 e4
        cases mro with
        | nil => cases g2
        | cons m0 bm =>
          cases m0 with
          | ref C' =>
            obtain ⟨g6, g7⟩ := He.ba g2
            have e5 : C' = He.ga K x := of_decide_eq_true g6
            subst e5
            obtain ⟨sl⟩ := osl
            match sl, g5, q with
            | [k0, k1, k2, k3, some (.builtin n), k5], g5, q =>
              have e6 : n = "ValueError.__new__" := of_decide_eq_true g5
              subst e6
              exact ⟨nm, qn, ns, bs, bm, sn, sub, ab, col, od, k0, k1, k2, k3, k5, rfl, g7⟩
          | _ => cases g2
      | _ => cases h0
    | _ => cases dt <;> cases h0
theorem worthB_ok {K : PySem.W.Frag} {mg : Str → Option Value} (g : mg "WorthError" = some (.ref (He.ga K "WorthError"))) (h : worthB K = true) : WoC K mg (He.ga K "WorthError") := by
  obtain ⟨h1, h⟩ := He.ba h
  obtain ⟨h2, h⟩ := He.ba h
  obtain ⟨h3, h4⟩ := He.ba h
  refine ⟨g, h1, He.eqO_ok h3, ?_⟩
  cases q : PySem.W.findCls K (.ref (He.ga K "WorthError")) (.type "type") "__init__" with
  | none =>
    rw [q] at h4
    cases h4
  | some r =>
    rw [q] at h4
    match r, h4 with
    | .val (.builtin n), h4 =>
      have e : n = "ValueError.__init__" := of_decide_eq_true h4
      rw [e]
theorem facts {P : Program} {w : World} {K : PySem.W.Frag} {h : Heap} {mg : Str → Option Value} {f : Addr} (X : K.In h) (G : h.Ns mainGlobals mg) (hfa : mg ("law" : Str) = some (.ref f)) (c : He.SaysD fa fn K) (eB : exB K = true) :
    ∃ fd : FuncData, (∀ (s : Shared) (v : Value), BindsTo s fd ⟨[v], []⟩ [("_law_script", v)]) ∧ ∀ base : Heap, K.In base → base.Ns mainGlobals mg → FnOk P w K mg base CX0 10 f fd ["_law_script"] (spLaw K) := by
  obtain ⟨fd_BadMap_init, F_BadMap_init⟩ := c.def_ 0 (d := d_BadMap_init) rfl
  obtain ⟨fd_TooMany_init, F_TooMany_init⟩ := c.def_ 1 (d := d_TooMany_init) rfl
  obtain ⟨fd_checked_rows, F_checked_rows⟩ := c.def_ 2 (d := d_checked_rows) rfl
  obtain ⟨fd_check_order, F_check_order⟩ := c.def_ 3 (d := d_check_order) rfl
  obtain ⟨fd_turned_rows, F_turned_rows⟩ := c.def_ 4 (d := d_turned_rows) rfl
  obtain ⟨fd_least_above, F_least_above⟩ := c.def_ 5 (d := d_least_above) rfl
  obtain ⟨fd_bound_rows, F_bound_rows⟩ := c.def_ 6 (d := d_bound_rows) rfl
  obtain ⟨fd_lower_covers, F_lower_covers⟩ := c.def_ 7 (d := d_lower_covers) rfl
  obtain ⟨fd_Lattice_init, F_Lattice_init⟩ := c.def_ 8 (d := d_Lattice_init) rfl
  obtain ⟨fd_Lattice_join_of, F_Lattice_join_of⟩ := c.def_ 9 (d := d_Lattice_join_of) rfl
  obtain ⟨fd_Lattice_meet_of, F_Lattice_meet_of⟩ := c.def_ 10 (d := d_Lattice_meet_of) rfl
  obtain ⟨fd_check_map, F_check_map⟩ := c.def_ 11 (d := d_check_map) rfl
  obtain ⟨fd_spoilt_word, F_spoilt_word⟩ := c.def_ 12 (d := d_spoilt_word) rfl
  obtain ⟨fd_map_fault, F_map_fault⟩ := c.def_ 13 (d := d_map_fault) rfl
  obtain ⟨fd_keeps_ends, F_keeps_ends⟩ := c.def_ 14 (d := d_keeps_ends) rfl
  obtain ⟨fd_all_maps, F_all_maps⟩ := c.def_ 15 (d := d_all_maps) rfl
  obtain ⟨fd_l_hand, F_l_hand⟩ := c.def_ 16 (d := d_l_hand) rfl
  obtain ⟨fd_l_mixed, F_l_mixed⟩ := c.def_ 17 (d := d_l_mixed) rfl
  obtain ⟨fd_l_take, F_l_take⟩ := c.def_ 18 (d := d_l_take) rfl
  obtain ⟨fd_l_whole, F_l_whole⟩ := c.def_ 19 (d := d_l_whole) rfl
  obtain ⟨fd_l_lattice, F_l_lattice⟩ := c.def_ 20 (d := d_l_lattice) rfl
  obtain ⟨fd_l_bound, F_l_bound⟩ := c.def_ 21 (d := d_l_bound) rfl
  obtain ⟨fd_l_lowers, F_l_lowers⟩ := c.def_ 22 (d := d_l_lowers) rfl
  obtain ⟨fd_l_drawn_lowers, F_l_drawn_lowers⟩ := c.def_ 23 (d := d_l_drawn_lowers) rfl
  obtain ⟨fd_l_power, F_l_power⟩ := c.def_ 24 (d := d_l_power) rfl
  obtain ⟨fd_l_of_mask, F_l_of_mask⟩ := c.def_ 25 (d := d_l_of_mask) rfl
  obtain ⟨fd_l_drawn_family, F_l_drawn_family⟩ := c.def_ 26 (d := d_l_drawn_family) rfl
  obtain ⟨fd_l_shuffled, F_l_shuffled⟩ := c.def_ 27 (d := d_l_shuffled) rfl
  obtain ⟨fd_l_distributive, F_l_distributive⟩ := c.def_ 28 (d := d_l_distributive) rfl
  obtain ⟨fd_l_value, F_l_value⟩ := c.def_ 29 (d := d_l_value) rfl
  obtain ⟨fd_l_spoilt, F_l_spoilt⟩ := c.def_ 30 (d := d_l_spoilt) rfl
  obtain ⟨fd_l_fault_of_map, F_l_fault_of_map⟩ := c.def_ 31 (d := d_l_fault_of_map) rfl
  obtain ⟨fd_l_asked, F_l_asked⟩ := c.def_ 32 (d := d_l_asked) rfl
  obtain ⟨fd_l_all, F_l_all⟩ := c.def_ 33 (d := d_l_all) rfl
  obtain ⟨fd_l_drawn_map, F_l_drawn_map⟩ := c.def_ 34 (d := d_l_drawn_map) rfl
  obtain ⟨fd_l_one_map, F_l_one_map⟩ := c.def_ 35 (d := d_l_one_map) rfl
  obtain ⟨fd_l_within, F_l_within⟩ := c.def_ 36 (d := d_l_within) rfl
  obtain ⟨fd_l_all_due, F_l_all_due⟩ := c.def_ 37 (d := d_l_all_due) rfl
  obtain ⟨fd_law, F_law⟩ := c.def_ 38 (d := d_law) rfl
  have b_BadMap_init : Binds K fd_BadMap_init ["self", "index"] [] := FunD.bindsN F_BadMap_init fun _ _ _ _ _ _ us hl => match us, hl with | [_, _], _ => rfl
  have b_TooMany_init : Binds K fd_TooMany_init ["self", "most"] [] := FunD.bindsN F_TooMany_init fun _ _ _ _ _ _ us hl => match us, hl with | [_, _], _ => rfl
  have b_checked_rows : Binds K fd_checked_rows ["table"] [] := FunD.bindsN F_checked_rows fun _ _ _ _ _ _ us hl => match us, hl with | [_], _ => rfl
  have b_check_order : Binds K fd_check_order ["table"] [] := FunD.bindsN F_check_order fun _ _ _ _ _ _ us hl => match us, hl with | [_], _ => rfl
  have b_turned_rows : Binds K fd_turned_rows ["table"] [] := FunD.bindsN F_turned_rows fun _ _ _ _ _ _ us hl => match us, hl with | [_], _ => rfl
  have b_least_above : Binds K fd_least_above ["table", "one", "other"] [] := FunD.bindsN F_least_above fun _ _ _ _ _ _ us hl => match us, hl with | [_, _, _], _ => rfl
  have b_bound_rows : Binds K fd_bound_rows ["table", "what"] [] := FunD.bindsN F_bound_rows fun _ _ _ _ _ _ us hl => match us, hl with | [_, _], _ => rfl
  have b_lower_covers : Binds K fd_lower_covers ["table", "worth"] [] := FunD.bindsN F_lower_covers fun _ _ _ _ _ _ us hl => match us, hl with | [_, _], _ => rfl
  have b_Lattice_init : Binds K fd_Lattice_init ["self", "table"] [] := FunD.bindsN F_Lattice_init fun _ _ _ _ _ _ us hl => match us, hl with | [_, _], _ => rfl
  have b_Lattice_join_of : Binds K fd_Lattice_join_of ["self", "one", "other"] [] := FunD.bindsN F_Lattice_join_of fun _ _ _ _ _ _ us hl => match us, hl with | [_, _, _], _ => rfl
  have b_Lattice_meet_of : Binds K fd_Lattice_meet_of ["self", "one", "other"] [] := FunD.bindsN F_Lattice_meet_of fun _ _ _ _ _ _ us hl => match us, hl with | [_, _, _], _ => rfl
  have b_check_map : Binds K fd_check_map ["one", "other", "values"] [] := FunD.bindsN F_check_map fun _ _ _ _ _ _ us hl => match us, hl with | [_, _, _], _ => rfl
  have b_spoilt_word : Binds K fd_spoilt_word ["one", "other", "values", "x", "y"] [] := FunD.bindsN F_spoilt_word fun _ _ _ _ _ _ us hl => match us, hl with | [_, _, _, _, _], _ => rfl
  have b_map_fault : Binds K fd_map_fault ["one", "other", "values"] [] := FunD.bindsN F_map_fault fun _ _ _ _ _ _ us hl => match us, hl with | [_, _, _], _ => rfl
  have b_keeps_ends : Binds K fd_keeps_ends ["one", "other", "values"] [] := FunD.bindsN F_keeps_ends fun _ _ _ _ _ _ us hl => match us, hl with | [_, _, _], _ => rfl
  have b_all_maps : Binds K fd_all_maps ["one", "other"] [] := FunD.bindsN F_all_maps fun _ _ _ _ _ _ us hl => match us, hl with | [_, _], _ => rfl
  have b_l_hand : Binds K fd_l_hand ["_law_script"] [] := FunD.bindsN F_l_hand fun _ _ _ _ _ _ us hl => match us, hl with | [_], _ => rfl
  have b_l_mixed : Binds K fd_l_mixed ["_law_number", "_law_turn"] [] := FunD.bindsN F_l_mixed fun _ _ _ _ _ _ us hl => match us, hl with | [_, _], _ => rfl
  have b_l_take : Binds K fd_l_take ["_law_hand_here", "_law_many"] [] := FunD.bindsN F_l_take fun _ _ _ _ _ _ us hl => match us, hl with | [_, _], _ => rfl
  have b_l_whole : Binds K fd_l_whole ["_law_thing"] [] := FunD.bindsN F_l_whole fun _ _ _ _ _ _ us hl => match us, hl with | [_], _ => rfl
  have b_l_lattice : Binds K fd_l_lattice ["_law_sets"] [] := FunD.bindsN F_l_lattice fun _ _ _ _ _ _ us hl => match us, hl with | [_], _ => rfl
  have b_l_bound : Binds K fd_l_bound ["_law_table", "_law_size", "_law_x", "_law_y", "_law_up"] [] := FunD.bindsN F_l_bound fun _ _ _ _ _ _ us hl => match us, hl with | [_, _, _, _, _], _ => rfl
  have b_l_lowers : Binds K fd_l_lowers ["_law_n", "_law_below"] [] := FunD.bindsN F_l_lowers fun _ _ _ _ _ _ us hl => match us, hl with | [_, _], _ => rfl
  have b_l_drawn_lowers : Binds K fd_l_drawn_lowers ["_law_hand_here", "_law_points", "_law_most"] [] := FunD.bindsN F_l_drawn_lowers fun _ _ _ _ _ _ us hl => match us, hl with | [_, _, _], _ => rfl
  have b_l_power : Binds K fd_l_power ["_law_base", "_law_exponent"] [] := FunD.bindsN F_l_power fun _ _ _ _ _ _ us hl => match us, hl with | [_, _], _ => rfl
  have b_l_of_mask : Binds K fd_l_of_mask ["_law_mask", "_law_points"] [] := FunD.bindsN F_l_of_mask fun _ _ _ _ _ _ us hl => match us, hl with | [_, _], _ => rfl
  have b_l_drawn_family : Binds K fd_l_drawn_family ["_law_hand_here", "_law_points", "_law_most"] [] := FunD.bindsN F_l_drawn_family fun _ _ _ _ _ _ us hl => match us, hl with | [_, _, _], _ => rfl
  have b_l_shuffled : Binds K fd_l_shuffled ["_law_hand_here", "_law_things"] [] := FunD.bindsN F_l_shuffled fun _ _ _ _ _ _ us hl => match us, hl with | [_, _], _ => rfl
  have b_l_distributive : Binds K fd_l_distributive ["_law_plain"] [] := FunD.bindsN F_l_distributive fun _ _ _ _ _ _ us hl => match us, hl with | [_], _ => rfl
  have b_l_value : Binds K fd_l_value ["_law_plain", "_law_context", "_law_worth"] [] := FunD.bindsN F_l_value fun _ _ _ _ _ _ us hl => match us, hl with | [_, _, _], _ => rfl
  have b_l_spoilt : Binds K fd_l_spoilt ["_law_one", "_law_other", "_law_values"] [] := FunD.bindsN F_l_spoilt fun _ _ _ _ _ _ us hl => match us, hl with | [_, _, _], _ => rfl
  have b_l_fault_of_map : Binds K fd_l_fault_of_map ["_law_one", "_law_other", "_law_values"] [] := FunD.bindsN F_l_fault_of_map fun _ _ _ _ _ _ us hl => match us, hl with | [_, _, _], _ => rfl
  have b_l_asked : Binds K fd_l_asked ["_law_way", "_law_first", "_law_second", "_law_values"] [] := FunD.bindsN F_l_asked fun _ _ _ _ _ _ us hl => match us, hl with | [_, _, _, _], _ => rfl
  have b_l_all : Binds K fd_l_all ["_law_first", "_law_second"] [] := FunD.bindsN F_l_all fun _ _ _ _ _ _ us hl => match us, hl with | [_, _], _ => rfl
  have b_l_drawn_map : Binds K fd_l_drawn_map ["_law_hand_here", "_law_one", "_law_other"] [] := FunD.bindsN F_l_drawn_map fun _ _ _ _ _ _ us hl => match us, hl with | [_, _, _], _ => rfl
  have b_l_one_map : Binds K fd_l_one_map ["_law_one", "_law_other", "_law_first", "_law_second", "_law_values"] [] := FunD.bindsN F_l_one_map fun _ _ _ _ _ _ us hl => match us, hl with | [_, _, _, _, _], _ => rfl
  have b_l_within : Binds K fd_l_within ["_law_hand_here", "_law_one", "_law_first"] [] := FunD.bindsN F_l_within fun _ _ _ _ _ _ us hl => match us, hl with | [_, _, _], _ => rfl
  have b_l_all_due : Binds K fd_l_all_due ["_law_one", "_law_other"] [] := FunD.bindsN F_l_all_due fun _ _ _ _ _ _ us hl => match us, hl with | [_, _], _ => rfl
  have b_law : Binds K fd_law ["_law_script"] [] := FunD.bindsN F_law fun _ _ _ _ _ _ us hl => match us, hl with | [_], _ => rfl
  have e := hfa.symm.trans (He.glo_ok X G (c.fact 38 (f := .glo "law") rfl))
  cases e
  have bl := FunD.bindsA (ps := ["_law_script"]) F_law fun _ _ _ _ _ _ us hl => match us, hl with | [_], _ => rfl
  have T : Tx K mg := ⟨(He.free_ok X G (c.fact 39 (f := .free "len") rfl)), (He.free_ok X G (c.fact 40 (f := .free "range") rfl)), (He.free_ok X G (c.fact 41 (f := .free "isinstance") rfl)), (He.free_ok X G (c.fact 42 (f := .free "list") rfl)), (He.free_ok X G (c.fact 43 (f := .free "tuple") rfl)), (He.free_ok X G (c.fact 44 (f := .free "int") rfl)), (He.free_ok X G (c.fact 45 (f := .free "bool") rfl)), (He.free_ok X G (c.fact 46 (f := .free "enumerate") rfl)), (He.free_ok X G (c.fact 47 (f := .free "abs") rfl)), (He.free_ok X G (c.fact 48 (f := .free "all") rfl)), (He.free_ok X G (c.fact 49 (f := .free "any") rfl))⟩
  have cC : LC K (He.ga K "Lattice") := ⟨He.cls_ok (c.fact 51 (f := .cls "Lattice") rfl), He.noat_ok (c.fact 52 (f := .noat "Lattice" "table") rfl), He.noat_ok (c.fact 53 (f := .noat "Lattice" "size") rfl), He.noat_ok (c.fact 54 (f := .noat "Lattice" "join_rows") rfl), He.noat_ok (c.fact 55 (f := .noat "Lattice" "meet_rows") rfl), He.noat_ok (c.fact 56 (f := .noat "Lattice" "bottom") rfl), He.noat_ok (c.fact 57 (f := .noat "Lattice" "top") rfl), He.noat_ok (c.fact 58 (f := .noat "Lattice" "primes") rfl)⟩
  obtain ⟨eB1, eB2⟩ := He.ba eB
  obtain ⟨eB2, eB3⟩ := He.ba eB2
  have W := worthB_ok (He.glo_ok X G (c.fact 0 (f := .glo "WorthError") rfl)) eB3
  obtain ⟨x1, x2, x3, x4, x5, x6, x7, x8⟩ := oexB_ok eB1
  obtain ⟨y1, y2, y3, y4, y5, y6, y7, y8⟩ := oexB_ok eB2
  have XB : XC K mg "BadMap" "index" (He.ga K "BadMap") (He.ma K (He.ga K "BadMap") "__init__") := ⟨(He.glo_ok X G (c.fact 2 (f := .glo "BadMap") rfl)), x1, x2, x3, x4, x5, x6, x7, He.exm_ok (c.fact 62 (f := .exm "BadMap" "BadMap" true) rfl)⟩
  have XT : XC K mg "TooMany" "most" (He.ga K "TooMany") (He.ma K (He.ga K "TooMany") "__init__") := ⟨(He.glo_ok X G (c.fact 3 (f := .glo "TooMany") rfl)), y1, y2, y3, y4, y5, y6, y7, He.exm_ok (c.fact 63 (f := .exm "TooMany" "TooMany" true) rfl)⟩
  refine ⟨fd_law, fun s v => bl s [v] rfl, fun base _ _ => ?_⟩
  have h_turned_rows : Has P w K mg base CX0 1 "turned_rows" ["table"] spTurned _ _ := ⟨(He.glo_ok X G (c.fact 6 (f := .glo "turned_rows") rfl)), F_turned_rows.kp, b_turned_rows, ok_turned_rows F_turned_rows T⟩
  have h_least_above : Has P w K mg base CX0 1 "least_above" ["table", "one", "other"] spLeast _ _ := ⟨(He.glo_ok X G (c.fact 7 (f := .glo "least_above") rfl)), F_least_above.kp, b_least_above, ok_least_above F_least_above T⟩
  have h_check_order : Has P w K mg base CX0 1 "check_order" ["table"] spOrder _ _ := ⟨(He.glo_ok X G (c.fact 5 (f := .glo "check_order") rfl)), F_check_order.kp, b_check_order, ok_check_order F_check_order T⟩
  have h_lower_covers : Has P w K mg base CX0 1 "lower_covers" ["table", "worth"] spCovers _ _ := ⟨(He.glo_ok X G (c.fact 9 (f := .glo "lower_covers") rfl)), F_lower_covers.kp, b_lower_covers, ok_lower_covers F_lower_covers T⟩
  have h_checked_rows : Has P w K mg base CX0 1 "checked_rows" ["table"] spChecked _ _ := ⟨(He.glo_ok X G (c.fact 4 (f := .glo "checked_rows") rfl)), F_checked_rows.kp, b_checked_rows, ok_checked_rows F_checked_rows T⟩
  have h_bound_rows : Has P w K mg base CX0 2 "bound_rows" ["table", "what"] spBound _ _ := ⟨(He.glo_ok X G (c.fact 8 (f := .glo "bound_rows") rfl)), F_bound_rows.kp, b_bound_rows, ok_bound_rows h_least_above F_bound_rows T⟩
  have h_Lattice : HasC P w K mg base CX0 3 "Lattice" ["self", "table"] (spInit (He.ga K "Lattice")) (He.ga K "Lattice") _ _ := ⟨(He.glo_ok X G (c.fact 10 (f := .glo "Lattice") rfl)), He.mkr_ok (c.fact 61 (f := .mkr "Lattice") rfl), b_Lattice_init, ok_Lattice_init cC h_checked_rows h_check_order h_bound_rows h_turned_rows h_lower_covers F_Lattice_init T⟩
  have h_join_of : HasM P w K mg base CX0 1 (He.ga K "Lattice") "join_of" ["self", "one", "other"] (spJoin (He.ga K "Lattice")) _ _ := ⟨He.meth_ok (c.fact 59 (f := .meth "Lattice" "join_of") rfl), b_Lattice_join_of, ok_join_of cC F_Lattice_join_of T⟩
  have h_meet_of : HasM P w K mg base CX0 1 (He.ga K "Lattice") "meet_of" ["self", "one", "other"] (spMeet (He.ga K "Lattice")) _ _ := ⟨He.meth_ok (c.fact 60 (f := .meth "Lattice" "meet_of") rfl), b_Lattice_meet_of, ok_meet_of cC F_Lattice_meet_of T⟩
  have i_BadMap : Has0 P w K mg base 1 ["self", "index"] (spExc (He.ga K "BadMap") "index") _ _ := ⟨b_BadMap_init, ok_BadMap_init W XB F_BadMap_init⟩
  have i_TooMany : Has0 P w K mg base 1 ["self", "most"] (spExc (He.ga K "TooMany") "most") _ _ := ⟨b_TooMany_init, ok_TooMany_init W XT F_TooMany_init⟩
  have h_check_map : Has P w K mg base (L2.CX P w) 3 "check_map" ["one", "other", "values"] (spCheck (He.ga K "Lattice") (He.ga K "BadMap")) _ _ := ⟨(He.glo_ok X G (c.fact 11 (f := .glo "check_map") rfl)), F_check_map.kp, b_check_map, ok_check_map cC XB i_BadMap F_check_map T⟩
  have h_spoilt_word : Has P w K mg base CX0 2 "spoilt_word" ["one", "other", "values", "x", "y"] (spSpoilt (He.ga K "Lattice")) _ _ := ⟨(He.glo_ok X G (c.fact 12 (f := .glo "spoilt_word") rfl)), F_spoilt_word.kp, b_spoilt_word, ok_spoilt_word cC h_join_of h_meet_of F_spoilt_word T⟩
  have h_map_fault : Has P w K mg base (L2.CX P w) 4 "map_fault" ["one", "other", "values"] (spFault (He.ga K "Lattice") (He.ga K "BadMap")) _ _ := ⟨(He.glo_ok X G (c.fact 13 (f := .glo "map_fault") rfl)), F_map_fault.kp, b_map_fault, ok_map_fault cC h_check_map h_spoilt_word F_map_fault T⟩
  have h_keeps_ends : Has P w K mg base (L2.CX P w) 4 "keeps_ends" ["one", "other", "values"] (spEnds (He.ga K "Lattice") (He.ga K "BadMap")) _ _ := ⟨(He.glo_ok X G (c.fact 14 (f := .glo "keeps_ends") rfl)), F_keeps_ends.kp, b_keeps_ends, ok_keeps_ends cC h_check_map F_keeps_ends T⟩
  have G_all_maps : GFn P w K mg base 5 _ fd_all_maps ["one", "other"] (spMaps (He.ga K "Lattice") (He.ga K "TooMany")) := ok_all_maps cC h_map_fault XT i_TooMany F_all_maps T
  have h_l_mixed : Has P w K mg base CX0 1 "_law_mixed" ["_law_number", "_law_turn"] spMixed _ _ := ⟨(He.glo_ok X G (c.fact 17 (f := .glo "_law_mixed") rfl)), F_l_mixed.kp, b_l_mixed, ok_l_mixed F_l_mixed T⟩
  have h_l_whole : Has P w K mg base CX0 1 "_law_whole" ["_law_thing"] spWhole _ _ := ⟨(He.glo_ok X G (c.fact 19 (f := .glo "_law_whole") rfl)), F_l_whole.kp, b_l_whole, ok_l_whole F_l_whole T⟩
  have h_l_power : Has P w K mg base CX0 1 "_law_power" ["_law_base", "_law_exponent"] spPower _ _ := ⟨(He.glo_ok X G (c.fact 24 (f := .glo "_law_power") rfl)), F_l_power.kp, b_l_power, ok_l_power F_l_power T⟩
  have h_l_of_mask : Has P w K mg base CX0 2 "_law_of_mask" ["_law_mask", "_law_points"] spMask _ _ := ⟨(He.glo_ok X G (c.fact 25 (f := .glo "_law_of_mask") rfl)), F_l_of_mask.kp, b_l_of_mask, ok_l_of_mask h_l_power F_l_of_mask T⟩
  have h_l_take : Has P w K mg base CX0 2 "_law_take" ["_law_hand_here", "_law_many"] spTake _ _ := ⟨(He.glo_ok X G (c.fact 18 (f := .glo "_law_take") rfl)), F_l_take.kp, b_l_take, ok_l_take h_l_mixed F_l_take T⟩
  have h_l_bound : Has P w K mg base CX0 1 "_law_bound" ["_law_table", "_law_size", "_law_x", "_law_y", "_law_up"] spLBound _ _ := ⟨(He.glo_ok X G (c.fact 21 (f := .glo "_law_bound") rfl)), F_l_bound.kp, b_l_bound, ok_l_bound F_l_bound T⟩
  have h_l_lattice : Has P w K mg base CX0 2 "_law_lattice" ["_law_sets"] spLattice _ _ := ⟨(He.glo_ok X G (c.fact 20 (f := .glo "_law_lattice") rfl)), F_l_lattice.kp, b_l_lattice, ok_l_lattice h_l_bound F_l_lattice T⟩
  have h_l_hand : Has P w K mg base CX0 1 "_law_hand" ["_law_script"] (spHand K) _ _ := ⟨(He.glo_ok X G (c.fact 16 (f := .glo "_law_hand") rfl)), F_l_hand.kp, b_l_hand, ok_l_hand F_l_hand T⟩
  have h_l_lowers : Has P w K mg base CX0 1 "_law_lowers" ["_law_n", "_law_below"] spLowers _ _ := ⟨(He.glo_ok X G (c.fact 22 (f := .glo "_law_lowers") rfl)), F_l_lowers.kp, b_l_lowers, ok_l_lowers F_l_lowers T⟩
  have h_l_drawn_lowers : Has P w K mg base CX0 3 "_law_drawn_lowers" ["_law_hand_here", "_law_points", "_law_most"] spDLowers _ _ := ⟨(He.glo_ok X G (c.fact 23 (f := .glo "_law_drawn_lowers") rfl)), F_l_drawn_lowers.kp, b_l_drawn_lowers, ok_l_drawn_lowers h_l_take h_l_lowers F_l_drawn_lowers T⟩
  have h_l_shuffled : Has P w K mg base CX0 3 "_law_shuffled" ["_law_hand_here", "_law_things"] spShuf _ _ := ⟨(He.glo_ok X G (c.fact 27 (f := .glo "_law_shuffled") rfl)), F_l_shuffled.kp, b_l_shuffled, ok_l_shuffled h_l_take F_l_shuffled T⟩
  have h_l_drawn_family : Has P w K mg base CX0 3 "_law_drawn_family" ["_law_hand_here", "_law_points", "_law_most"] spDFam _ _ := ⟨(He.glo_ok X G (c.fact 26 (f := .glo "_law_drawn_family") rfl)), F_l_drawn_family.kp, b_l_drawn_family, ok_l_drawn_family h_l_take h_l_power h_l_of_mask F_l_drawn_family T⟩
  have h_l_distributive : Has P w K mg base CX0 1 "_law_distributive" ["_law_plain"] spDistr _ _ := ⟨(He.glo_ok X G (c.fact 28 (f := .glo "_law_distributive") rfl)), F_l_distributive.kp, b_l_distributive, ok_l_distributive F_l_distributive T⟩
  have h_l_value : Has P w K mg base CX0 1 "_law_value" ["_law_plain", "_law_context", "_law_worth"] spValue _ _ := ⟨(He.glo_ok X G (c.fact 29 (f := .glo "_law_value") rfl)), F_l_value.kp, b_l_value, ok_l_value F_l_value T⟩
  have h_l_spoilt : Has P w K mg base CX0 1 "_law_spoilt" ["_law_one", "_law_other", "_law_values"] spLSpoilt _ _ := ⟨(He.glo_ok X G (c.fact 30 (f := .glo "_law_spoilt") rfl)), F_l_spoilt.kp, b_l_spoilt, ok_l_spoilt F_l_spoilt T⟩
  have h_l_fault_of_map : Has P w K mg base CX0 2 "_law_fault_of_map" ["_law_one", "_law_other", "_law_values"] spLFault _ _ := ⟨(He.glo_ok X G (c.fact 31 (f := .glo "_law_fault_of_map") rfl)), F_l_fault_of_map.kp, b_l_fault_of_map, ok_l_fault_of_map h_l_whole F_l_fault_of_map T⟩
  have h_l_all_due : Has P w K mg base CX0 2 "_law_all_due" ["_law_one", "_law_other"] spDue _ _ := ⟨(He.glo_ok X G (c.fact 37 (f := .glo "_law_all_due") rfl)), F_l_all_due.kp, b_l_all_due, ok_l_all_due h_l_power h_l_spoilt F_l_all_due T⟩
  have h_l_asked : Has P w K mg base CX0 5 "_law_asked" ["_law_way", "_law_first", "_law_second", "_law_values"] (spAsked (He.ga K "Lattice")) _ _ := ⟨(He.glo_ok X G (c.fact 32 (f := .glo "_law_asked") rfl)), F_l_asked.kp, b_l_asked, ok_l_asked h_check_map h_map_fault h_keeps_ends XB F_l_asked T⟩
  have h_l_all : Has P w K mg base CX0 9 "_law_all" ["_law_first", "_law_second"] (spAll (He.ga K "Lattice")) _ _ := ⟨(He.glo_ok X G (c.fact 33 (f := .glo "_law_all") rfl)), F_l_all.kp, b_l_all, ok_l_all (He.glo_ok X G (c.fact 15 (f := .glo "all_maps") rfl)) F_all_maps.kp b_all_maps G_all_maps XT y8 F_l_all T⟩
  have h_l_one_map : Has P w K mg base CX0 6 "_law_one_map" ["_law_one", "_law_other", "_law_first", "_law_second", "_law_values"] (spOneMap (He.ga K "Lattice")) _ _ := ⟨(He.glo_ok X G (c.fact 35 (f := .glo "_law_one_map") rfl)), F_l_one_map.kp, b_l_one_map, ok_l_one_map h_l_fault_of_map h_l_asked h_l_spoilt F_l_one_map T⟩
  have h_l_drawn_map : Has P w K mg base CX0 3 "_law_drawn_map" ["_law_hand_here", "_law_one", "_law_other"] spDMap _ _ := ⟨(He.glo_ok X G (c.fact 34 (f := .glo "_law_drawn_map") rfl)), F_l_drawn_map.kp, b_l_drawn_map, ok_l_drawn_map h_l_take F_l_drawn_map T⟩
  have h_l_within : Has P w K mg base CX0 7 "_law_within" ["_law_hand_here", "_law_one", "_law_first"] (spWithin (He.ga K "Lattice")) _ _ := ⟨(He.glo_ok X G (c.fact 36 (f := .glo "_law_within") rfl)), F_l_within.kp, b_l_within, ok_l_within h_l_take h_l_value h_l_one_map h_l_distributive h_map_fault F_l_within T⟩
  exact ok_law h_l_hand h_l_lattice h_l_shuffled h_l_drawn_family h_l_drawn_lowers h_Lattice h_l_within h_l_drawn_map h_l_take h_l_one_map h_l_all h_l_all_due F_law T
end KM
open PySem PySem.W PySem.Calls PyProof.Rows
theorem PySem.Challenge.cw_cutworths_k04_whole_maps_that_keep_holds : PySem.Challenge.rw_cutworths_k04_whole_maps_that_keep.Holds := by
  w_on; o_law
  refine HandSHeadRun.head_any (r := OpenLaw.row PySem.Challenge.rw_cutworths_k04_whole_maps_that_keep) (q := view (OpenLaw.row PySem.Challenge.rw_cutworths_k04_whole_maps_that_keep).prog [43]) (H := KM.hk) (ob := KM.ob) (M := 3000) (loose := KM.loose) (d := HandSHeadRun.topDef (OpenLaw.row PySem.Challenge.rw_cutworths_k04_whole_maps_that_keep).prog 43) (kwd := []) KM.ob_eq
    (by kernel_rfl) (fun s => by kernel_rfl) KM.run (by kernel_rfl) (by kernel_rfl) (by kernel_rfl) (by rfl) (by first | assumption | decide +kernel) (by decide +kernel) ⟨rfl, rfl, rfl, rfl, rfl, by decide +kernel⟩ ?hw ?hc
  case hw => w_witness2
  case hc =>
    refine L2.walk_ofE (l := PySem.Challenge.rw_cutworths_k04_whole_maps_that_keep) (n := 63) (k := 10) (x := "_law_script") (CX := L2.CX0) rfl (by decide) (by kernel_rfl) ⟨rfl, by decide, by decide⟩ ?F (fun _ _ _ _ z => z)
    intro w mg fa h Y G hmg0
    obtain ⟨K, KX, c, eB⟩ := Y
    have hmg : mg ("law" : PySem.Str) = some (.ref fa) := by
      have e : (HandSHeadRun.topDef (OpenLaw.row PySem.Challenge.rw_cutworths_k04_whole_maps_that_keep).prog 43).name = ("law" : PySem.Str) := by kernel_rfl
      rw [← e]
      exact hmg0
    obtain ⟨fd, hb, hF⟩ := KM.facts (P := (PySem.Challenge.rw_cutworths_k04_whole_maps_that_keep).prog) (w := w) KX G hmg c eB
    exact ⟨K, fd, KM.spLaw K, KX, hb, fun H a ns hl _ hS => ⟨a, ns, rfl, hS, hl, fun _ => rfl⟩, hF⟩
