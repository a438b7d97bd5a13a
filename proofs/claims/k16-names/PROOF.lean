import PyProof.Rows.All
import Wide.All
import OpenK.AllK
import Wide.FinOn
import HandS.Property
import HandS.IsInst
import HandS.Words
import HandS.Head0
import HandS.Head1
import HandS.Head2
import HandS.HeadEnd
import HandS.HeadHook1
import HandS.HeadHook2
import HandS.ForMost
import HandS.ForExc
import HandS.Wide
import HandS.TupAny
import HandS.TupMul
import HandS.Deep
import HandS.Conv
import HandS.CallSlots
import HandS.Walk
import HandS.Strs
import HandS.Codes
import KE.SortData
import HandS.SortOrd
import HandS.WordsDict
import HandS.Zip
import KE.GoesEnum
import HandS.Style
import HandS.NoneIn
import KE.KAssignIn
import HandS.Star
import OpenK.KMeth
import HandS.MakeKwOnly
import KE.KDictList
import HandS.DictEq
import PyProof.DictUpdate
import PySem.Challenge.RW_partedroles_k16_arguments_by_their_names
set_option Elab.async false
set_option linter.all false
set_option maxRecDepth 100000
set_option maxHeartbeats 0
namespace Rh
open PySem PySem.Spec PyProof.Rows L2

/-! what the head leaves: defs by where they stand, facts by any look at the fragment -/
/-- where a def stands -/
inductive At where
  | glo (x : Str)
  | meth (c m : Str)
  | prop (c m : Str)
def pAd (K : PySem.W.Frag) (c m : Str) : Addr := match PySem.W.recIn K (He.ma K (He.ga K c) m) "property" with
  | some (.ref g :: _) => g
  | _ => 0
def At.ad (K : PySem.W.Frag) : At → Addr
  | .glo x => He.ga K x
  | .meth c m => He.ma K (He.ga K c) m
  | .prop c m => pAd K c m
structure DX where
  at_ : At
  name : Str
  qual : Str
  params : Arguments
  body : List Stmt
  scope : Scope
  dfl : List He.Dv := []
def DX.val (d : DX) : He.FnW := some (d.name, d.qual, d.params, .stmts d.body, d.scope, mainGlobals, [], builtinsNs)
def DX.dvs (K : PySem.W.Frag) (d : DX) : List V := d.dfl.map (He.Dv.v K)
def fnX (K : PySem.W.Frag) (p : At) : He.FnW := match K.lookup (p.ad K) with
  | some ⟨_, _, .func fd, _⟩ => some (fd.name, fd.qualname, fd.params, fd.body, fd.scope, fd.globals, fd.closure, fd.builtins)
  | _ => none
def DX.ok (K : PySem.W.Frag) (d : DX) : Bool := PySem.W.keepIn K (.ref (d.at_.ad K)) && (match K.lookup (d.at_.ad K) with
  | some ⟨_, _, .func fd, _⟩ => PySem.W.codeIn K fd.code d.qual && (He.dflB K fd.defaults (d.dvs K) && He.kwdB K fd.kwdefaults [])
  | _ => false)
theorem DX.funD {K : PySem.W.Frag} {d : DX} (e : fnX K d.at_ = d.val) (c : d.ok K = true) : ∃ fd, FunD K d.name d.qual d.params d.body d.scope (d.dvs K) [] (d.at_.ad K) fd := by
  obtain ⟨kp, c2⟩ := He.ba c
  unfold fnX at e
  cases q : K.lookup (d.at_.ad K) with
  | none =>
    rw [q] at c2
    cases c2
  | some o =>
    obtain ⟨oc, od, dt, osl⟩ := o
    rw [q] at c2 e
    cases dt with
    | func fd =>
      obtain ⟨n1, n2, n3, n4, n5, n6, n7, n8, n9, n10, n11, n12, n13, n14, n15⟩ := fd
      have e2 : (some (n1, n2, n3, n4, n5, n6, n7, n15) : He.FnW) = some (d.name, d.qual, d.params, .stmts d.body, d.scope, mainGlobals, [], builtinsNs) := e
      simp only [Option.some.injEq, Prod.mk.injEq] at e2
      obtain ⟨h1, h2, h3, h4, h5, h6, h7, h8⟩ := e2
      subst h1 h2 h3 h4 h5 h6 h7 h8
      have c3 : (PySem.W.codeIn K n13 d.qual && (He.dflB K n8 (d.dvs K) && He.kwdB K n9 [])) = true := c2
      obtain ⟨k1, k2⟩ := He.ba c3
      obtain ⟨k3, k4⟩ := He.ba k2
      exact ⟨_, ⟨oc, od, n8, n9, n10, n11, n12, n13, n14, osl, rfl, q, k1, He.dflB_ok k3, He.kwdB_ok k4⟩, kp⟩
    | _ => cases c2
abbrev Fx := PySem.W.Frag → Bool
def obsX (fx : List Fx) (fn : List DX) (K : PySem.W.Frag) : He.AlD := ((fx.all fun f => f K) && fn.all fun d => d.ok K, fn.map fun d => fnX K d.at_)
def valX (fn : List DX) : He.AlD := (true, fn.map DX.val)
def SaysX (fx : List Fx) (fn : List DX) (K : PySem.W.Frag) : Prop := obsX fx fn K = valX fn
/-- what is named by these, one step on -/
def nextX (g : Addr → Option Obj) (l : List Addr) : List Addr := l.flatMap fun a => match g a with
  | some o => He.refsD o
  | none => []
/-- the module's names, and what they lead to in n steps more: each new against the module's names alone -/
def onX (g : Addr → Option Obj) (f : List Addr) : Nat → List Addr → List Addr
  | 0, _ => []
  | n + 1, l => let m := (nextX g l).filter fun a => !f.contains a
    m ++ onX g f n m
def asX (g : Addr → Option Obj) (n : Nat) : List Addr := let f := nextX g [mainGlobals]
  mainGlobals :: (f ++ onX g f n f)
def obsXG (n : Nat) (fx : List Fx) (fn : List DX) (g : Addr → Option Obj) : He.AlD := obsX fx fn (He.frG g (asX g n))
def hookX (n : Nat) (fx : List Fx) (fn : List DX) : PySem.W.Hook where
  α := He.AlD
  obs := fun s => obsXG n fx fn s.heap.get?
  val := fun _ => valX fn
  says := fun _ h => ∃ K : PySem.W.Frag, K.In h ∧ SaysX fx fn K
  of := fun _ _ e => ⟨_, He.frG_in, e⟩
  keeps := fun _ _ _ ⟨K, hK, c⟩ k => ⟨K, PySem.W.Frag.In.keeps hK k, c⟩
theorem obsXG_eq {n : Nat} {fx : List Fx} {fn : List DX} {g : Addr → Option Obj} {s : Shared} (h : ∀ a, g a = s.heap.get? a) : obsXG n fx fn g = (hookX n fx fn).obs s := by
  have e : g = s.heap.get? := funext h
  rw [e] <;> rfl
section
variable {fx : List Fx} {fn : List DX} {K : PySem.W.Frag}
theorem SaysX.fact (c : SaysX fx fn K) (i : Nat) {f : Fx} (h : fx[i]? = some f := by rfl) : f K = true := by
  have c1 := (He.ba (show ((fx.all fun f => f K) && fn.all fun d => d.ok K) = true from congrArg (fun z : He.AlD => z.1) c)).1
  exact List.all_eq_true.mp c1 f (List.mem_of_getElem? h)
theorem SaysX.def_ (c : SaysX fx fn K) (i : Nat) {d : DX} (h : fn[i]? = some d := by rfl) : ∃ fd, FunD K d.name d.qual d.params d.body d.scope (d.dvs K) [] (d.at_.ad K) fd := by
  have c1 := (He.ba (show ((fx.all fun f => f K) && fn.all fun d => d.ok K) = true from congrArg (fun z : He.AlD => z.1) c)).2
  have c2 : fn.map (fun d => fnX K d.at_) = fn.map DX.val := congrArg (fun z : He.AlD => z.2) c
  have c3 : (fn.map (fun d => fnX K d.at_))[i]? = (fn.map DX.val)[i]? := by rw [c2]
  rw [List.getElem?_map, List.getElem?_map, h] at c3
  exact DX.funD (Option.some.inj c3) (List.all_eq_true.mp c1 d (List.mem_of_getElem? h))
end
/-! facts -/
def fxFa (f : He.Fa) : Fx := fun K => f.ok K
/-- a property and its getter -/
def fxPrp (c m : Str) : Fx := fun K => He.eqO (PySem.W.findIn K (.ref (He.ga K c)) m) (some (some (.ref (He.ma K (He.ga K c) m)))) && (He.eqO (PySem.W.specialIn K (.ref (He.ma K (He.ga K c) m)) "__get__") (some (some (.builtin "property.__get__"))) && (decide (PySem.W.takesIn K (.ref (He.ma K (He.ga K c) m)) = some true) && (match PySem.W.recIn K (He.ma K (He.ga K c) m) "property" with
  | some (.ref _ :: _) => true
  | _ => false)))
theorem prp_ok {K : PySem.W.Frag} {c m : Str} (h : fxPrp c m K = true) : PropOf K (He.ga K c) m (He.ma K (He.ga K c) m) (pAd K c m) := by
  obtain ⟨h1, h2⟩ := He.ba h
  obtain ⟨h2, h3⟩ := He.ba h2
  obtain ⟨h3, h4⟩ := He.ba h3
  refine ⟨He.eqO_ok h1, He.eqO_ok h2, of_decide_eq_true h3, ?_⟩
  unfold pAd
  split at h4
  · rename_i g rest hr
    rw [hr]
    exact ⟨rest, rfl⟩
  · cases h4
/-- a special method -/
def fxSpl (c m : Str) : Fx := fun K => He.eqO (PySem.W.findIn K (.ref (He.ga K c)) m) (some (some (.ref (He.ma K (He.ga K c) m)))) && PySem.W.isFn K (.ref (He.ma K (He.ga K c) m))
theorem spl_ok {K : PySem.W.Frag} {c m : Str} (h : fxSpl c m K = true) : PySem.W.findIn K (.ref (He.ga K c)) m = some (some (.ref (He.ma K (He.ga K c) m))) ∧ PySem.W.isFn K (.ref (He.ma K (He.ga K c) m)) = true := by
  obtain ⟨h1, h2⟩ := He.ba h
  exact ⟨He.eqO_ok h1, h2⟩
/-- isinstance tells of instances -/
def fxTy (c : Str) : Fx := fun K => He.eqO (PySem.W.findIn K (.ref (He.ga K c)) "__class__") (some (some (.builtin "object.__class__"))) && (He.eqO (PySem.W.specialIn K (.builtin "object.__class__") "__get__") (some (some (.builtin "getset_descriptor.__get__"))) && (decide (PySem.W.takesIn K (.builtin "object.__class__") = some true) && decide (PySem.W.mroIn K (He.ga K c) (.type "object") = some true)))
theorem ty_ok {K : PySem.W.Frag} {c : Str} (h : fxTy c K = true) (cl : Cls K (He.ga K c)) : ∀ H a dx fs, H a = some (.ins (He.ga K c) dx fs) → TyOf K H (.ref a) (.ref (He.ga K c)) := by
  obtain ⟨h1, h2⟩ := He.ba h
  obtain ⟨h2, h3⟩ := He.ba h2
  obtain ⟨h3, h4⟩ := He.ba h3
  exact fun H a dx fs e => .ins e cl (He.eqO_ok h1) (He.eqO_ok h2) (of_decide_eq_true h3) (of_decide_eq_true h4)
/-- a table of the module: a tuple of flat things -/
def fxTup (x : Str) (vs : List He.Dv) : Fx := fun K => He.tupB K x vs && (match K.lookup (He.ga K x) with
  | some ⟨.type c, none, .seq _ _, _⟩ => decide (c = "tuple")
  | _ => false)
theorem tup_ok {K : PySem.W.Frag} {x : Str} {vs : List He.Dv} (h : fxTup x vs K = true) : (∀ H, SqT K H (He.ga K x) (vs.map (He.Dv.v K))) ∧ ∃ o, K.lookup (He.ga K x) = some o ∧ o.cls = .type "tuple" ∧ o.dict = none := by
  obtain ⟨h1, h2⟩ := He.ba h
  refine ⟨fun H => He.tupB_ok h1 H, ?_⟩
  split at h2
  · rename_i c its n sl hl
    have : c = "tuple" := of_decide_eq_true h2
    subst this
    exact ⟨_, hl, rfl, rfl⟩
  · cases h2
end Rh

namespace K16
open PySem PySem.Spec PyProof.Rows L2 Rh
def top (i : Nat) : Stmt := PySem.Challenge.pw_partedroles_k16_arguments_by_their_names.main.body.getD i (.Pass ⟨0, 0, 0, 0⟩)
def inCls (i j : Nat) : Stmt := match top i with
  | .ClassDef _ _ _ body _ _ _ _ _ _ _ => body.getD j (.Pass ⟨0, 0, 0, 0⟩)
  | _ => .Pass ⟨0, 0, 0, 0⟩
abbrev Rw : PySem.W.OpenRow := PySem.W.OpenLaw.row PySem.Challenge.rw_partedroles_k16_arguments_by_their_names
def x_is_integer : DX := ⟨.glo "is_integer", "is_integer", "is_integer", defArgs (top 19), defBody (top 19), defScope (top 19), [.non, .non]⟩
def x_is_word : DX := ⟨.glo "is_word", "is_word", "is_word", defArgs (top 21), defBody (top 21), defScope (top 21), []⟩
def x_is_tuple : DX := ⟨.glo "is_tuple", "is_tuple", "is_tuple", defArgs (top 20), defBody (top 20), defScope (top 20), [.int 0, .non]⟩
def x_lot_of : DX := ⟨.glo "lot_of", "lot_of", "lot_of", defArgs (top 25), defBody (top 25), defScope (top 25), []⟩
def x_is_lot : DX := ⟨.glo "is_lot", "is_lot", "is_lot", defArgs (top 26), defBody (top 26), defScope (top 26), []⟩
def x_has_all : DX := ⟨.glo "has_all", "has_all", "has_all", defArgs (top 27), defBody (top 27), defScope (top 27), []⟩
def x_lots_of : DX := ⟨.glo "lots_of", "lots_of", "lots_of", defArgs (top 28), defBody (top 28), defScope (top 28), []⟩
def x_least_of : DX := ⟨.glo "least_of", "least_of", "least_of", defArgs (top 29), defBody (top 29), defScope (top 29), []⟩
def x_greatest_of : DX := ⟨.glo "greatest_of", "greatest_of", "greatest_of", defArgs (top 30), defBody (top 30), defScope (top 30), []⟩
def x_number_in : DX := ⟨.glo "number_in", "number_in", "number_in", defArgs (top 23), defBody (top 23), defScope (top 23), []⟩
def x_are_unlike : DX := ⟨.glo "are_unlike", "are_unlike", "are_unlike", defArgs (top 24), defBody (top 24), defScope (top 24), []⟩
def x_is_name : DX := ⟨.glo "is_name", "is_name", "is_name", defArgs (top 22), defBody (top 22), defScope (top 22), []⟩
def x_below_of : DX := ⟨.glo "below_of", "below_of", "below_of", defArgs (top 64), defBody (top 64), defScope (top 64), []⟩
def x_Reading___init__ : DX := ⟨.meth "Reading" "__init__", "__init__", "Reading.__init__", defArgs (inCls 65 0), defBody (inCls 65 0), defScope (inCls 65 0), []⟩
def x_Reading_reads_rights : DX := ⟨.meth "Reading" "reads_rights", "reads_rights", "Reading.reads_rights", defArgs (inCls 65 2), defBody (inCls 65 2), defScope (inCls 65 2), []⟩
def x_Reading_reads_role : DX := ⟨.meth "Reading" "reads_role", "reads_role", "Reading.reads_role", defArgs (inCls 65 3), defBody (inCls 65 3), defScope (inCls 65 3), []⟩
def x_Reading_reads_above : DX := ⟨.meth "Reading" "reads_above", "reads_above", "Reading.reads_above", defArgs (inCls 65 4), defBody (inCls 65 4), defScope (inCls 65 4), []⟩
def x_Reading_reads_duty : DX := ⟨.meth "Reading" "reads_duty", "reads_duty", "Reading.reads_duty", defArgs (inCls 65 5), defBody (inCls 65 5), defScope (inCls 65 5), []⟩
def x_Reading_reads_rule : DX := ⟨.meth "Reading" "reads_rule", "reads_rule", "Reading.reads_rule", defArgs (inCls 65 6), defBody (inCls 65 6), defScope (inCls 65 6), []⟩
def x_Reading_reads : DX := ⟨.meth "Reading" "reads", "reads", "Reading.reads", defArgs (inCls 65 1), defBody (inCls 65 1), defScope (inCls 65 1), []⟩
def x_read : DX := ⟨.glo "read", "read", "read", defArgs (top 66), defBody (top 66), defScope (top 66), []⟩
def x_numbered_line : DX := ⟨.glo "numbered_line", "numbered_line", "numbered_line", defArgs (top 67), defBody (top 67), defScope (top 67), []⟩
def x_text_by : DX := ⟨.glo "text_by", "text_by", "text_by", defArgs (top 68), defBody (top 68), defScope (top 68), []⟩
def x_Book___init__ : DX := ⟨.meth "Book" "__init__", "__init__", "Book.__init__", defArgs (inCls 70 0), defBody (inCls 70 0), defScope (inCls 70 0), []⟩
def x_Book_text : DX := ⟨.prop "Book" "text", "text", "Book.text", defArgs (inCls 70 1), defBody (inCls 70 1), defScope (inCls 70 1), []⟩
def x_Book_rights : DX := ⟨.prop "Book" "rights", "rights", "Book.rights", defArgs (inCls 70 2), defBody (inCls 70 2), defScope (inCls 70 2), []⟩
def x_Book_roles : DX := ⟨.prop "Book" "roles", "roles", "Book.roles", defArgs (inCls 70 3), defBody (inCls 70 3), defScope (inCls 70 3), []⟩
def x_Book_duties : DX := ⟨.prop "Book" "duties", "duties", "Book.duties", defArgs (inCls 70 4), defBody (inCls 70 4), defScope (inCls 70 4), []⟩
def x_Book_rules : DX := ⟨.prop "Book" "rules", "rules", "Book.rules", defArgs (inCls 70 5), defBody (inCls 70 5), defScope (inCls 70 5), []⟩
def x_Book___contains__ : DX := ⟨.meth "Book" "__contains__", "__contains__", "Book.__contains__", defArgs (inCls 70 7), defBody (inCls 70 7), defScope (inCls 70 7), []⟩
def x_Book___eq__ : DX := ⟨.meth "Book" "__eq__", "__eq__", "Book.__eq__", defArgs (inCls 70 8), defBody (inCls 70 8), defScope (inCls 70 8), []⟩
def x_Book_check_role : DX := ⟨.meth "Book" "check_role", "check_role", "Book.check_role", defArgs (inCls 70 9), defBody (inCls 70 9), defScope (inCls 70 9), []⟩
def x_Book_gives : DX := ⟨.meth "Book" "gives", "gives", "Book.gives", defArgs (inCls 70 10), defBody (inCls 70 10), defScope (inCls 70 10), []⟩
def x_Book_below : DX := ⟨.meth "Book" "below", "below", "Book.below", defArgs (inCls 70 11), defBody (inCls 70 11), defScope (inCls 70 11), []⟩
def x_Book_changed : DX := ⟨.meth "Book" "changed", "changed", "Book.changed", defArgs (inCls 70 12), defBody (inCls 70 12), defScope (inCls 70 12), []⟩
def x_Book_is_rule : DX := ⟨.meth "Book" "is_rule", "is_rule", "Book.is_rule", defArgs (inCls 70 13), defBody (inCls 70 13), defScope (inCls 70 13), []⟩
def x_Book_with_rule : DX := ⟨.meth "Book" "with_rule", "with_rule", "Book.with_rule", defArgs (inCls 70 14), defBody (inCls 70 14), defScope (inCls 70 14), []⟩
def x_Book_without_rule : DX := ⟨.meth "Book" "without_rule", "without_rule", "Book.without_rule", defArgs (inCls 70 15), defBody (inCls 70 15), defScope (inCls 70 15), []⟩
def x_Book_with_right : DX := ⟨.meth "Book" "with_right", "with_right", "Book.with_right", defArgs (inCls 70 16), defBody (inCls 70 16), defScope (inCls 70 16), []⟩
def x_Book_without_right : DX := ⟨.meth "Book" "without_right", "without_right", "Book.without_right", defArgs (inCls 70 17), defBody (inCls 70 17), defScope (inCls 70 17), []⟩
def x_check_duty : DX := ⟨.glo "check_duty", "check_duty", "check_duty", defArgs (top 71), defBody (top 71), defScope (top 71), []⟩
def x_closed : DX := ⟨.glo "closed", "closed", "closed", defArgs (top 34), defBody (top 34), defScope (top 34), []⟩
def x_is_hand : DX := ⟨.glo "is_hand", "is_hand", "is_hand", defArgs (top 35), defBody (top 35), defScope (top 35), []⟩
def x_check_hand : DX := ⟨.glo "check_hand", "check_hand", "check_hand", defArgs (top 36), defBody (top 36), defScope (top 36), []⟩
def x_all_hands : DX := ⟨.glo "all_hands", "all_hands", "all_hands", defArgs (top 37), defBody (top 37), defScope (top 37), []⟩
def x_gifts : DX := ⟨.glo "gifts", "gifts", "gifts", defArgs (top 38), defBody (top 38), defScope (top 38), []⟩
def x_bar_of : DX := ⟨.glo "bar_of", "bar_of", "bar_of", defArgs (top 39), defBody (top 39), defScope (top 39), []⟩
def x_let_by : DX := ⟨.glo "let_by", "let_by", "let_by", defArgs (top 40), defBody (top 40), defScope (top 40), []⟩
def x_let_hands : DX := ⟨.glo "let_hands", "let_hands", "let_hands", defArgs (top 41), defBody (top 41), defScope (top 41), []⟩
def x_bars_of : DX := ⟨.glo "bars_of", "bars_of", "bars_of", defArgs (top 42), defBody (top 42), defScope (top 42), []⟩
def x_hand_of : DX := ⟨.glo "hand_of", "hand_of", "hand_of", defArgs (top 43), defBody (top 43), defScope (top 43), []⟩
def x_rights_of : DX := ⟨.glo "rights_of", "rights_of", "rights_of", defArgs (top 44), defBody (top 44), defScope (top 44), []⟩
def x_judged : DX := ⟨.glo "judged", "judged", "judged", defArgs (top 45), defBody (top 45), defScope (top 45), []⟩
def x_greatest : DX := ⟨.glo "greatest", "greatest", "greatest", defArgs (top 46), defBody (top 46), defScope (top 46), []⟩
def x_bars : DX := ⟨.glo "bars", "bars", "bars", defArgs (top 47), defBody (top 47), defScope (top 47), []⟩
def x_is_dealing : DX := ⟨.glo "is_dealing", "is_dealing", "is_dealing", defArgs (top 77), defBody (top 77), defScope (top 77), [.int 8]⟩
def x_check_dealing : DX := ⟨.glo "check_dealing", "check_dealing", "check_dealing", defArgs (top 78), defBody (top 78), defScope (top 78), []⟩
def x_mask_by : DX := ⟨.glo "mask_by", "mask_by", "mask_by", defArgs (top 79), defBody (top 79), defScope (top 79), []⟩
def x_mask_of : DX := ⟨.glo "mask_of", "mask_of", "mask_of", defArgs (top 80), defBody (top 80), defScope (top 80), []⟩
def x_joined_mask : DX := ⟨.glo "joined_mask", "joined_mask", "joined_mask", defArgs (top 81), defBody (top 81), defScope (top 81), []⟩
def x_whole_of : DX := ⟨.glo "whole_of", "whole_of", "whole_of", defArgs (top 82), defBody (top 82), defScope (top 82), []⟩
def x_fewest_of : DX := ⟨.glo "fewest_of", "fewest_of", "fewest_of", defArgs (top 83), defBody (top 83), defScope (top 83), []⟩
def x_able_lots : DX := ⟨.glo "able_lots", "able_lots", "able_lots", defArgs (top 84), defBody (top 84), defScope (top 84), []⟩
def x_told_people : DX := ⟨.glo "told_people", "told_people", "told_people", defArgs (top 85), defBody (top 85), defScope (top 85), []⟩
def x_people : DX := ⟨.glo "people", "people", "people", defArgs (top 86), defBody (top 86), defScope (top 86), []⟩
def x_keeps : DX := ⟨.glo "keeps", "keeps", "keeps", defArgs (top 87), defBody (top 87), defScope (top 87), []⟩
def x_broken_by : DX := ⟨.glo "broken_by", "broken_by", "broken_by", defArgs (top 88), defBody (top 88), defScope (top 88), []⟩
def x_broken : DX := ⟨.glo "broken", "broken", "broken", defArgs (top 89), defBody (top 89), defScope (top 89), []⟩
def x_barred : DX := ⟨.glo "barred", "barred", "barred", defArgs (top 90), defBody (top 90), defScope (top 90), []⟩
def x_bands : DX := ⟨.glo "bands", "bands", "bands", defArgs (top 91), defBody (top 91), defScope (top 91), []⟩
def x_blocks : DX := ⟨.glo "blocks", "blocks", "blocks", defArgs (top 92), defBody (top 92), defScope (top 92), []⟩
def x__law_pot : DX := ⟨.glo "_law_pot", "_law_pot", "_law_pot", defArgs (top 94), defBody (top 94), defScope (top 94), []⟩
def x__law_take : DX := ⟨.glo "_law_take", "_law_take", "_law_take", defArgs (top 95), defBody (top 95), defScope (top 95), []⟩
def x__law_some : DX := ⟨.glo "_law_some", "_law_some", "_law_some", defArgs (top 96), defBody (top 96), defScope (top 96), []⟩
def x__law_places : DX := ⟨.glo "_law_places", "_law_places", "_law_places", defArgs (top 97), defBody (top 97), defScope (top 97), []⟩
def x__law_right : DX := ⟨.glo "_law_right", "_law_right", "_law_right", defArgs (top 98), defBody (top 98), defScope (top 98), []⟩
def x_law : DX := ⟨.glo "law", "law", "law", defArgs (top 99), defBody (top 99), defScope (top 99), []⟩
def fn0 : List DX := [x_is_integer, x_is_word, x_is_tuple, x_lot_of, x_is_lot, x_has_all, x_lots_of, x_least_of, x_greatest_of, x_number_in, x_are_unlike, x_is_name]
def fn1 : List DX := [x_below_of, x_Reading___init__, x_Reading_reads_rights, x_Reading_reads_role, x_Reading_reads_above, x_Reading_reads_duty, x_Reading_reads_rule, x_Reading_reads, x_read, x_numbered_line, x_text_by, x_Book___init__]
def fn2 : List DX := [x_Book_text, x_Book_rights, x_Book_roles, x_Book_duties, x_Book_rules, x_Book___contains__, x_Book___eq__, x_Book_check_role, x_Book_gives, x_Book_below, x_Book_changed, x_Book_is_rule]
def fn3 : List DX := [x_Book_with_rule, x_Book_without_rule, x_Book_with_right, x_Book_without_right, x_check_duty, x_closed, x_is_hand, x_check_hand, x_all_hands, x_gifts, x_bar_of, x_let_by]
def fn4 : List DX := [x_let_hands, x_bars_of, x_hand_of, x_rights_of, x_judged, x_greatest, x_bars, x_is_dealing, x_check_dealing, x_mask_by, x_mask_of, x_joined_mask]
def fn5 : List DX := [x_whole_of, x_fewest_of, x_able_lots, x_told_people, x_people, x_keeps, x_broken_by, x_broken, x_barred, x_bands, x_blocks, x__law_pot]
def fn6 : List DX := [x__law_take, x__law_some, x__law_places, x__law_right, x_law]
def fn : List DX := fn0 ++ (fn1 ++ (fn2 ++ (fn3 ++ (fn4 ++ (fn5 ++ (fn6))))))
def fx0 : List Fx := [fxFa (.free "len"), fxFa (.free "abs"), fxFa (.free "all"), fxFa (.free "any"), fxFa (.free "sum"), fxFa (.free "int"), fxFa (.free "str"), fxFa (.free "tuple"), fxFa (.free "list"), fxFa (.free "sorted"), fxFa (.free "min"), fxFa (.free "max")]
def fx1 : List Fx := [fxFa (.free "range"), fxFa (.free "enumerate"), fxFa (.free "zip"), fxFa (.free "isinstance"), fxFa (.free "bool"), fxFa (.glo "is_integer"), fxFa (.glo "is_word"), fxFa (.glo "is_tuple"), fxFa (.glo "lot_of"), fxFa (.glo "is_lot"), fxFa (.glo "has_all"), fxFa (.glo "lots_of")]
def fx2 : List Fx := [fxFa (.glo "least_of"), fxFa (.glo "greatest_of"), fxFa (.glo "number_in"), fxFa (.glo "are_unlike"), fxFa (.glo "is_name"), fxFa (.glo "below_of"), fxFa (.glo "read"), fxFa (.glo "numbered_line"), fxFa (.glo "text_by"), fxFa (.glo "check_duty"), fxFa (.glo "closed"), fxFa (.glo "is_hand")]
def fx3 : List Fx := [fxFa (.glo "check_hand"), fxFa (.glo "all_hands"), fxFa (.glo "gifts"), fxFa (.glo "bar_of"), fxFa (.glo "let_by"), fxFa (.glo "let_hands"), fxFa (.glo "bars_of"), fxFa (.glo "hand_of"), fxFa (.glo "rights_of"), fxFa (.glo "judged"), fxFa (.glo "greatest"), fxFa (.glo "bars")]
def fx4 : List Fx := [fxFa (.glo "is_dealing"), fxFa (.glo "check_dealing"), fxFa (.glo "mask_by"), fxFa (.glo "mask_of"), fxFa (.glo "joined_mask"), fxFa (.glo "whole_of"), fxFa (.glo "fewest_of"), fxFa (.glo "able_lots"), fxFa (.glo "told_people"), fxFa (.glo "people"), fxFa (.glo "keeps"), fxFa (.glo "broken_by")]
def fx5 : List Fx := [fxFa (.glo "broken"), fxFa (.glo "barred"), fxFa (.glo "bands"), fxFa (.glo "blocks"), fxFa (.glo "_law_pot"), fxFa (.glo "_law_take"), fxFa (.glo "_law_some"), fxFa (.glo "_law_places"), fxFa (.glo "_law_right"), fxFa (.glo "law"), fxFa (.int "MOST_SIGNS" 8), fxFa (.int "FEWEST_RIGHTS" 2)]
def fx6 : List Fx := [fxFa (.int "MOST_RIGHTS" 6), fxFa (.int "MOST_ROLES" 6), fxFa (.int "MOST_ABOVE" 8), fxFa (.int "LEAST_NUMBER" 2), fxFa (.int "MOST_NUMBER" 5), fxFa (.int "MOST_DUTIES" 3), fxFa (.int "MOST_RULES" 8), fxFa (.int "PAIR" 2), fxFa (.int "MOST_PEOPLE" 8), fxFa (.str "BLANK" " "), fxFa (.str "FEED" "\n"), fxFa (.str "MINUS" "-")]
def fx7 : List Fx := [fxFa (.str "SIGNS" "abcdefghijklmnopqrstuvwxyz"), fxFa (.str "FIGURES" "0123456789"), fxFa (.str "LET" "let"), fxFa (.str "BARRED" "barred"), fxFa (.str "RIGHTS" "rights"), fxFa (.str "ROLE" "role"), fxFa (.str "ABOVE" "above"), fxFa (.str "DUTY" "duty"), fxFa (.str "RULE" "rule"), fxFa (.str "PEOPLE" "people"), fxFa (.str "NOBODY" "nobody"), fxFa (.glo "LINES")]
def fx8 : List Fx := [fxTup "LINES" [.str "rights", .str "role", .str "above", .str "duty", .str "rule"], fxFa (.glo "POWERS"), fxTup "POWERS" [.int 1, .int 2, .int 4, .int 8, .int 16, .int 32], fxFa (.glo "Reading"), fxFa (.cls "Reading"), fxFa (.mkr "Reading"), fxTy "Reading", fxFa (.glo "Book"), fxFa (.cls "Book"), fxFa (.mkr "Book"), fxTy "Book", fxFa (.noat "Reading" "told_rights")]
def fx9 : List Fx := [fxFa (.noat "Reading" "told_roles"), fxFa (.noat "Reading" "told_above"), fxFa (.noat "Reading" "told_duties"), fxFa (.noat "Reading" "told_rules"), fxFa (.noat "Reading" "own_stage"), fxFa (.noat "Book" "own_reading"), fxFa (.noat "Book" "own_text"), fxFa (.meth "Reading" "reads_rights"), fxFa (.meth "Reading" "reads_role"), fxFa (.meth "Reading" "reads_above"), fxFa (.meth "Reading" "reads_duty"), fxFa (.meth "Reading" "reads_rule")]
def fx10 : List Fx := [fxFa (.meth "Reading" "reads"), fxPrp "Book" "text", fxPrp "Book" "rights", fxPrp "Book" "roles", fxPrp "Book" "duties", fxPrp "Book" "rules", fxSpl "Book" "__contains__", fxSpl "Book" "__eq__", fxFa (.meth "Book" "check_role"), fxFa (.meth "Book" "gives"), fxFa (.meth "Book" "below"), fxFa (.meth "Book" "changed")]
def fx11 : List Fx := [fxFa (.meth "Book" "is_rule"), fxFa (.meth "Book" "with_rule"), fxFa (.meth "Book" "without_rule"), fxFa (.meth "Book" "with_right"), fxFa (.meth "Book" "without_right")]
def fx : List Fx := fx0 ++ (fx1 ++ (fx2 ++ (fx3 ++ (fx4 ++ (fx5 ++ (fx6 ++ (fx7 ++ (fx8 ++ (fx9 ++ (fx10 ++ (fx11)))))))))))
def loose0 : List Str := ["__name__", "PartError", "BadBook", "NoRole", "BadRule", "Full", "NoRule", "BadRight", "BadRoles", "BadHand", "BadDealing", "NoDuty"]
def loose1 : List Str := ["BLANK", "FEED", "MINUS", "SIGNS", "FIGURES", "MOST_SIGNS", "is_integer", "is_tuple", "is_word", "is_name", "number_in", "are_unlike"]
def loose2 : List Str := ["lot_of", "is_lot", "has_all", "lots_of", "least_of", "greatest_of", "LET", "BARRED", "closed", "is_hand", "check_hand", "all_hands"]
def loose3 : List Str := ["gifts", "bar_of", "let_by", "let_hands", "bars_of", "hand_of", "rights_of", "judged", "greatest", "bars", "RIGHTS", "ROLE"]
def loose4 : List Str := ["ABOVE", "DUTY", "RULE", "LINES", "FEWEST_RIGHTS", "MOST_RIGHTS", "MOST_ROLES", "MOST_ABOVE", "LEAST_NUMBER", "MOST_NUMBER", "MOST_DUTIES", "MOST_RULES"]
def loose5 : List Str := ["PAIR", "below_of", "Reading", "read", "numbered_line", "text_by", "Book", "check_duty", "PEOPLE", "NOBODY", "MOST_PEOPLE", "POWERS"]
def loose6 : List Str := ["is_dealing", "check_dealing", "mask_by", "mask_of", "joined_mask", "whole_of", "fewest_of", "able_lots", "told_people", "people", "keeps", "broken_by"]
def loose7 : List Str := ["broken", "barred", "bands", "blocks", "_law_pot", "_law_take", "_law_some", "_law_places", "_law_right"]
def loose : List Str := loose0 ++ (loose1 ++ (loose2 ++ (loose3 ++ (loose4 ++ (loose5 ++ (loose6 ++ (loose7)))))))
abbrev hk : PySem.W.Hook := hookX 4 fx fn
def ob (s : PySem.W.SharedT) : He.AlD := obsXG 4 fx fn (HandSHeadRun.getT s)
theorem ob_eq (s : PySem.W.SharedT) : ob s = hk.obs s.abs := obsXG_eq (HandSHeadRun.getT_eq s)
theorem run (w : World) : HandSHeadRun.RunEq Rw (PySem.W.view Rw.prog [99]) hk ob 20000 loose w := by
  intro os
  kernel_rfl
end K16

namespace Rf
open PySem PySem.Spec PyProof.Rows L2

/-! texts, quick to compute -/
def nbeq : List Nat → List Nat → Bool
  | [], [] => true
  | a :: as, b :: bs => match Nat.beq a b with
    | true => nbeq as bs
    | false => false
  | _, _ => false
theorem nbeq_ok : ∀ a b : List Nat, nbeq a b = true ↔ a = b
  | [], [] => by simp [nbeq]
  | [], _ :: _ => by simp [nbeq]
  | _ :: _, [] => by simp [nbeq]
  | a :: as, b :: bs => by
    unfold nbeq
    cases h : Nat.beq a b with
    | true =>
      have e : a = b := Nat.eq_of_beq_eq_true h
      simp [nbeq_ok as bs, e]
    | false =>
      have e : a ≠ b := Nat.ne_of_beq_eq_false h
      simp [e]
theorem nbeq_str (x y : Str) : nbeq x.cps.toList y.cps.toList = true ↔ x = y := by
  rw [nbeq_ok]
  refine ⟨fun h => ?_, fun h => by rw [h]⟩
  obtain ⟨a⟩ := x
  obtain ⟨b⟩ := y
  exact congrArg Str.mk (Array.toList_inj.mp h)
@[reducible] def quickStr : DecidableEq Str := fun x y => decidable_of_iff _ (nbeq_str x y)
class Qk (κ : Type) where
  dec : DecidableEq κ
instance : Qk Str := ⟨quickStr⟩
instance : Qk Key := ⟨@instDecidableEqSum Int Str _ quickStr⟩
theorem beq_nbeq (x y : Str) : (x == y) = nbeq x.cps.toList y.cps.toList := by
  by_cases h : x = y
  · rw [(nbeq_str x y).mpr h]
    simp [h]
  · cases hq : nbeq x.cps.toList y.cps.toList with
    | true => exact absurd ((nbeq_str x y).mp hq) h
    | false => simp [h]
def catS (x y : Str) : Str := ⟨⟨x.cps.toList ++ y.cps.toList⟩⟩
theorem catS_eq (x y : Str) : catS x y = x ++ y := by
  obtain ⟨a⟩ := x
  obtain ⟨b⟩ := y
  show Str.mk _ = Str.mk (a ++ b)
  congr 1
  apply Array.toList_inj.mp
  simp
def okL : List Nat → Bool
  | [] => true
  | c :: r => match Nat.blt c 0x110000 with
    | true => okL r
    | false => false
theorem okL_eq (x : Str) : okL x.cps.toList = PyData.strOk x := by
  unfold PyData.strOk
  rw [← Array.all_toList]
  have key : ∀ l : List Nat, okL l = l.all (fun c => decide (c < 0x110000)) := by
    intro l
    induction l with
    | nil => rfl
    | cons c r ih =>
      unfold okL
      rw [List.all_cons, ← ih]
      cases h : Nat.blt c 0x110000 with
      | true =>
        have : c < 0x110000 := Nat.le_of_ble_eq_true h
        simp [this]
      | false =>
        have : ¬ c < 0x110000 := fun z => by
          have := Nat.ble_eq_true_of_le z
          rw [show Nat.ble (c + 1) 0x110000 = Nat.blt c 0x110000 from rfl, h] at this
          cases this
        simp [this]
  exact key _

/-- data of the program, without the heap -/
inductive D where
  | non
  | bl (b : Bool)
  | int (i : Int)
  | str (x : Str)
  | tup (xs : List D)
  | lst (xs : List D)
  | dic (kvs : List (Key × D))
  | ins (c : Str) (fs : List (Str × D))
  | exc (c : Str) (d : D)
  | scr (ns : List Int)

mutual
/-- nothing in it can change -/
def imm : D → Bool
  | .non => true
  | .bl _ => true
  | .int _ => true
  | .str _ => true
  | .tup xs => immL xs
  | .lst _ => false
  | .dic _ => false
  | .ins _ _ => false
  | .exc _ _ => false
  | .scr _ => false
def immL : List D → Bool
  | [] => true
  | x :: xs => imm x && immL xs
end

/-- an exception object that is tracked: its class, its own dict -/
def ExV (cls : Value) (dx a : Addr) : HO := .ext fun h => ∃ (oe : Obj) (vs : Array Value), h.get? a = some oe ∧ Zc cls (some dx) oe ∧ oe.data = .fields vs ∧ vs[1]? = some .none ∧ vs[2]? = some .none ∧ 4 < vs.size

mutual
/-- v stands for d in the heap H -/
inductive Rp (K : PySem.W.Frag) (H : Hp) : V → D → Prop
  | non : Rp K H .non .non
  | bl (b : Bool) : Rp K H (.bl b) (.bl b)
  | int (i : Int) : Rp K H (.int i) (.int i)
  | str (x : Str) : Rp K H (.str x) (.str x)
  | tup {a : Addr} {vs : List V} {ds : List D} : SqT K H a vs → RpL K H vs ds → Rp K H (.ref a) (.tup ds)
  | lst {a : Addr} {vs : List V} {ds : List D} : H a = some (.lst vs) → RpL K H vs ds → Rp K H (.ref a) (.lst ds)
  | scr {a : Addr} {ns : List Int} : SqL K H a (ns.map V.int) → Rp K H (.ref a) (.scr ns)
  | dic {a : Addr} {kvs : List (Key × V)} {ds : List (Key × D)} : Rd H a (.dK kvs) → kvs.map (·.1) = ds.map (·.1) → RpL K H (kvs.map (·.2)) (ds.map (·.2)) → Rp K H (.ref a) (.dic ds)
  | ins {a dx : Addr} {c : Str} {fs : List (Str × V)} {ds : List (Str × D)} : H a = some (.ins (He.ga K c) dx fs) → fs.map (·.1) = ds.map (·.1) → RpL K H (fs.map (·.2)) (ds.map (·.2)) → Rp K H (.ref a) (.ins c ds)
  | exc {a dx : Addr} {c : Str} {v : V} {d : D} : H a = some (ExV (.ref (He.ga K c)) dx a) → H dx = some (.xd [("value", v)]) → Rp K H v d → Rp K H (.ref a) (.exc c d)
inductive RpL (K : PySem.W.Frag) (H : Hp) : List V → List D → Prop
  | nil : RpL K H [] []
  | cons {v : V} {vs : List V} {d : D} {ds : List D} : Rp K H v d → RpL K H vs ds → RpL K H (v :: vs) (d :: ds)
end

def Ex (H H' : Hp) : Prop := ∀ a o, H a = some o → H' a = some o
theorem Ex.refl (H : Hp) : Ex H H := fun _ _ h => h
theorem Ex.trans {H H1 H2 : Hp} (a : Ex H H1) (b : Ex H1 H2) : Ex H H2 := fun x o h => b x o (a x o h)
theorem Ex.new {H : Hp} {p : Addr} {o : HO} (h : H p = none) : Ex H (upd H p o) := fun a u e => by
  rw [upd_ne (ne_of_none e h)]
  exact e
theorem ex_rd {H H' : Hp} {a : Addr} {u : HO} (e : Ex H H') (h : Rd H a u) : Rd H' a u := by
  rcases h with h | ⟨o, h⟩
  · exact Or.inl (e a _ h)
  · exact Or.inr ⟨o, e a _ h⟩
theorem ex_l {K : PySem.W.Frag} {H H' : Hp} {a : Addr} {xs : List V} (e : Ex H H') (h : SqL K H a xs) : SqL K H' a xs := by
  rcases h with h | h
  · exact Or.inl (ex_rd e h)
  · exact Or.inr h
theorem ex_t {K : PySem.W.Frag} {H H' : Hp} {a : Addr} {xs : List V} (e : Ex H H') (h : SqT K H a xs) : SqT K H' a xs := by
  rcases h with h | h
  · exact Or.inl (ex_rd e h)
  · exact Or.inr h

section
variable {K : PySem.W.Frag} {H H' : Hp}
mutual
theorem Rp.mono (e : Ex H H') : ∀ {d : D} {v : V}, Rp K H v d → Rp K H' v d
  | _, _, .non => .non
  | _, _, .bl b => .bl b
  | _, _, .int i => .int i
  | _, _, .str x => .str x
  | _, _, .tup h r => .tup (ex_t e h) (RpL.mono e r)
  | _, _, .lst h r => .lst (e _ _ h) (RpL.mono e r)
  | _, _, .scr h => .scr (ex_l e h)
  | _, _, .dic h k r => .dic (ex_rd e h) k (RpL.mono e r)
  | _, _, .ins h k r => .ins (e _ _ h) k (RpL.mono e r)
  | _, _, .exc h k r => .exc (e _ _ h) (e _ _ k) (Rp.mono e r)
theorem RpL.mono (e : Ex H H') : ∀ {ds : List D} {vs : List V}, RpL K H vs ds → RpL K H' vs ds
  | _, _, .nil => .nil
  | _, _, .cons r t => .cons (Rp.mono e r) (RpL.mono e t)
end
theorem RpL.length : ∀ {vs : List V} {ds : List D}, RpL K H vs ds → vs.length = ds.length
  | _, _, .nil => rfl
  | _, _, .cons _ t => congrArg (· + 1) (RpL.length t)
theorem RpL.get : ∀ {vs : List V} {ds : List D} {i : Nat} {d : D}, RpL K H vs ds → ds[i]? = some d → ∃ v, vs[i]? = some v ∧ Rp K H v d
  | _, _, _, _, .nil, e => by simp at e
  | _, _, 0, _, .cons r _, e => by simp at e; subst e; exact ⟨_, rfl, r⟩
  | _, _, i + 1, _, .cons _ t, e => by
    obtain ⟨v, h1, h2⟩ := RpL.get (i := i) t (by simpa using e)
    exact ⟨v, by simpa using h1, h2⟩
theorem RpL.get' : ∀ {vs : List V} {ds : List D} {i : Nat} {v : V}, RpL K H vs ds → vs[i]? = some v → ∃ d, ds[i]? = some d ∧ Rp K H v d
  | _, _, _, _, .nil, e => by simp at e
  | _, _, 0, _, .cons r _, e => by simp at e; subst e; exact ⟨_, rfl, r⟩
  | _, _, i + 1, _, .cons _ t, e => by
    obtain ⟨v, h1, h2⟩ := RpL.get' (i := i) t (by simpa using e)
    exact ⟨v, by simpa using h1, h2⟩
theorem RpL.append : ∀ {vs ws : List V} {ds es : List D}, RpL K H vs ds → RpL K H ws es → RpL K H (vs ++ ws) (ds ++ es)
  | _, _, _, _, .nil, s => s
  | _, _, _, _, .cons r t, s => .cons r (RpL.append t s)
/-! what is immutable leans on tuples alone -/
mutual
theorem Rp.imm (e : ∀ a xs, Rd H a (.tup xs) → Rd H' a (.tup xs)) : ∀ {d : D} {v : V}, imm d = true → Rp K H v d → Rp K H' v d
  | _, _, _, .non => .non
  | _, _, _, .bl b => .bl b
  | _, _, _, .int i => .int i
  | _, _, _, .str x => .str x
  | _, _, i, .tup h r => .tup (h.imp (fun z => e _ _ z) id) (RpL.imm e (by simpa [Rf.imm] using i) r)
  | _, _, i, .lst _ _ => by simp [Rf.imm] at i
  | _, _, i, .scr _ => by simp [Rf.imm] at i
  | _, _, i, .dic _ _ _ => by simp [Rf.imm] at i
  | _, _, i, .ins _ _ _ => by simp [Rf.imm] at i
  | _, _, i, .exc _ _ _ => by simp [Rf.imm] at i
theorem RpL.imm (e : ∀ a xs, Rd H a (.tup xs) → Rd H' a (.tup xs)) : ∀ {ds : List D} {vs : List V}, immL ds = true → RpL K H vs ds → RpL K H' vs ds
  | _, _, _, .nil => .nil
  | _, _, i, .cons r t => by
    simp only [Rf.immL, Bool.and_eq_true] at i
    exact .cons (Rp.imm e i.1 r) (RpL.imm e i.2 t)
end
end
end Rf

namespace Rf
open PySem PySem.Spec PyProof.Rows L2

abbrev AS := Addr → Prop
open Classical in
/-- the heap without what is hidden -/
noncomputable def vis (H : Hp) (Z : AS) : Hp := fun a => if Z a then none else H a
theorem vis_in {H : Hp} {Z : AS} {a : Addr} {o : HO} (h : H a = some o) (n : ¬ Z a) : vis H Z a = some o := by
  unfold vis; rw [if_neg n]; exact h
theorem of_vis {H : Hp} {Z : AS} {a : Addr} {o : HO} (h : vis H Z a = some o) : H a = some o ∧ ¬ Z a := by
  unfold vis at h
  by_cases z : Z a
  · rw [if_pos z] at h; cases h
  · rw [if_neg z] at h; exact ⟨h, z⟩
theorem vis_ex {H : Hp} {Z : AS} : Ex (vis H Z) H := fun _ _ h => (of_vis h).1
theorem vis_none {H : Hp} : vis H (fun _ => False) = H := by funext a; unfold vis; rw [if_neg (fun z => z)]
/-- hidden things are there, and are no tuples -/
def Nt (H : Hp) (Z : AS) : Prop := ∀ a, Z a → H a ≠ none ∧ ∀ xs, ¬ Rd H a (.tup xs)
theorem vis_tup {H : Hp} {Z : AS} (n : Nt H Z) (a : Addr) (xs : List V) (r : Rd H a (.tup xs)) : Rd (vis H Z) a (.tup xs) := by
  have nz : ¬ Z a := fun z => (n a z).2 xs r
  rcases r with r | ⟨o, r⟩
  · exact .inl (vis_in r nz)
  · exact .inr ⟨o, vis_in r nz⟩
theorem Nt.new {H : Hp} {Z : AS} (n : Nt H Z) {H' : Hp} (e : Ex H H') : Nt H' Z := fun a z => by
  obtain ⟨h1, h2⟩ := n a z
  cases h : H a with
  | none => exact absurd h h1
  | some o =>
    refine ⟨by rw [e a o h]; simp, fun xs r => h2 xs ?_⟩
    rcases r with r | ⟨ob, r⟩
    · rw [e a o h] at r; cases r; exact .inl h
    · rw [e a o h] at r; cases r; exact .inr ⟨ob, h⟩
theorem vis_mono {H H' : Hp} {Z : AS} (e : Ex H H') : Ex (vis H Z) (vis H' Z) := fun a o h => by
  obtain ⟨h1, h2⟩ := of_vis h
  exact vis_in (e a o h1) h2

section
variable {K : PySem.W.Frag} {H H' : Hp}
mutual
/-- v stands for d, all that can change in it stands at S and nowhere else in it -/
inductive Ow (K : PySem.W.Frag) (H : Hp) : V → D → AS → Prop
  | leaf {v : V} {d : D} {S : AS} : imm d = true → Rp K H v d → (∀ b, ¬ S b) → Ow K H v d S
  | tup {a : Addr} {vs : List V} {ds : List D} {S : AS} : H a = some (.tup vs) → OwL K H vs ds S → Ow K H (.ref a) (.tup ds) S
  | lst {a : Addr} {vs : List V} {ds : List D} {S T : AS} : H a = some (.lst vs) → OwL K H vs ds T → ¬ T a → (∀ b, S b ↔ b = a ∨ T b) → Ow K H (.ref a) (.lst ds) S
  | dic {a : Addr} {kvs : List (Key × V)} {ds : List (Key × D)} {S T : AS} : H a = some (.dK kvs) → kvs.map (·.1) = ds.map (·.1) → OwL K H (kvs.map (·.2)) (ds.map (·.2)) T → ¬ T a → (∀ b, S b ↔ b = a ∨ T b) → Ow K H (.ref a) (.dic ds) S
  | ins {a dx : Addr} {c : Str} {fs : List (Str × V)} {ds : List (Str × D)} {S T : AS} : H a = some (.ins (He.ga K c) dx fs) → H dx = some (.own a) → fs.map (·.1) = ds.map (·.1) → OwL K H (fs.map (·.2)) (ds.map (·.2)) T → ¬ T a → ¬ T dx → (∀ b, S b ↔ b = a ∨ b = dx ∨ T b) → Ow K H (.ref a) (.ins c ds) S
  | exc {a dx : Addr} {c : Str} {v : V} {d : D} {S T : AS} : H a = some (ExV (.ref (He.ga K c)) dx a) → H dx = some (.xd [("value", v)]) → Ow K H v d T → ¬ T a → ¬ T dx → (∀ b, S b ↔ b = a ∨ b = dx ∨ T b) → Ow K H (.ref a) (.exc c d) S
inductive OwL (K : PySem.W.Frag) (H : Hp) : List V → List D → AS → Prop
  | nil {S : AS} : (∀ b, ¬ S b) → OwL K H [] [] S
  | cons {v : V} {vs : List V} {d : D} {ds : List D} {S T R : AS} : Ow K H v d T → OwL K H vs ds R → (∀ b, T b → R b → False) → (∀ b, S b ↔ T b ∨ R b) → OwL K H (v :: vs) (d :: ds) S
end
mutual
theorem Ow.rp : ∀ {v : V} {d : D} {S : AS}, Ow K H v d S → Rp K H v d
  | _, _, _, .leaf _ r _ => r
  | _, _, _, .tup h r => .tup (SqT.of h) (OwL.rp r)
  | _, _, _, .lst h r _ _ => .lst h (OwL.rp r)
  | _, _, _, .dic h k r _ _ => .dic (.inl h) k (OwL.rp r)
  | _, _, _, .ins h _ k r _ _ _ => .ins h k (OwL.rp r)
  | _, _, _, .exc h k r _ _ _ => .exc h k (Ow.rp r)
theorem OwL.rp : ∀ {vs : List V} {ds : List D} {S : AS}, OwL K H vs ds S → RpL K H vs ds
  | _, _, _, .nil _ => .nil
  | _, _, _, .cons r t _ _ => .cons (Ow.rp r) (OwL.rp t)
end
/-- what is owned and not hidden is seen -/
theorem vis_at {Z : AS} (n : Nt H Z) {a : Addr} {xs : List V} (h : H a = some (.tup xs)) : vis H Z a = some (.tup xs) := vis_in h fun z => (n a z).2 xs (.inl h)
mutual
theorem Ow.vis {Z : AS} (n : Nt H Z) : ∀ {v : V} {d : D} {S : AS}, Ow K H v d S → (∀ a, S a → ¬ Z a) → Rp K (Rf.vis H Z) v d
  | _, _, _, .leaf i r _, _ => Rp.imm (vis_tup n) i r
  | _, _, _, .tup h r, q => .tup (SqT.of (vis_at n h)) (OwL.vis n r q)
  | _, _, _, .lst h r _ e, q => .lst (vis_in h (q _ ((e _).mpr (.inl rfl)))) (OwL.vis n r fun b hb => q b ((e b).mpr (.inr hb)))
  | _, _, _, .dic h k r _ e, q => .dic (.inl (vis_in h (q _ ((e _).mpr (.inl rfl))))) k (OwL.vis n r fun b hb => q b ((e b).mpr (.inr hb)))
  | _, _, _, .ins h _ k r _ _ e, q => .ins (vis_in h (q _ ((e _).mpr (.inl rfl)))) k (OwL.vis n r fun b hb => q b ((e b).mpr (.inr (.inr hb))))
  | _, _, _, .exc h k r _ _ e, q => .exc (vis_in h (q _ ((e _).mpr (.inl rfl)))) (vis_in k (q _ ((e _).mpr (.inr (.inl rfl))))) (Ow.vis n r fun b hb => q b ((e b).mpr (.inr (.inr hb))))
theorem OwL.vis {Z : AS} (n : Nt H Z) : ∀ {vs : List V} {ds : List D} {S : AS}, OwL K H vs ds S → (∀ a, S a → ¬ Z a) → RpL K (Rf.vis H Z) vs ds
  | _, _, _, .nil _, _ => .nil
  | _, _, _, .cons r t _ e, q => .cons (Ow.vis n r fun b hb => q b ((e b).mpr (.inl hb))) (OwL.vis n t fun b hb => q b ((e b).mpr (.inr hb)))
end
/-! what is owned stays as long as its own things and the tuples stay -/
mutual
theorem Ow.carry (tp : ∀ a xs, Rd H a (.tup xs) → Rd H' a (.tup xs)) (tq : ∀ a xs, H a = some (.tup xs) → H' a = some (.tup xs)) : ∀ {v : V} {d : D} {S : AS}, Ow K H v d S → (∀ a o, S a → H a = some o → H' a = some o) → Ow K H' v d S
  | _, _, _, .leaf i r e, _ => .leaf i (Rp.imm tp i r) e
  | _, _, _, .tup h r, q => .tup (tq _ _ h) (OwL.carry tp tq r q)
  | _, _, _, .lst h r n e, q => .lst (q _ _ ((e _).mpr (.inl rfl)) h) (OwL.carry tp tq r fun b o hb => q b o ((e b).mpr (.inr hb))) n e
  | _, _, _, .dic h k r n e, q => .dic (q _ _ ((e _).mpr (.inl rfl)) h) k (OwL.carry tp tq r fun b o hb => q b o ((e b).mpr (.inr hb))) n e
  | _, _, _, .ins h h2 k r n m e, q => .ins (q _ _ ((e _).mpr (.inl rfl)) h) (q _ _ ((e _).mpr (.inr (.inl rfl))) h2) k (OwL.carry tp tq r fun b o hb => q b o ((e b).mpr (.inr (.inr hb)))) n m e
  | _, _, _, .exc h k r n m e, q => .exc (q _ _ ((e _).mpr (.inl rfl)) h) (q _ _ ((e _).mpr (.inr (.inl rfl))) k) (Ow.carry tp tq r fun b o hb => q b o ((e b).mpr (.inr (.inr hb)))) n m e
theorem OwL.carry (tp : ∀ a xs, Rd H a (.tup xs) → Rd H' a (.tup xs)) (tq : ∀ a xs, H a = some (.tup xs) → H' a = some (.tup xs)) : ∀ {vs : List V} {ds : List D} {S : AS}, OwL K H vs ds S → (∀ a o, S a → H a = some o → H' a = some o) → OwL K H' vs ds S
  | _, _, _, .nil e, _ => .nil e
  | _, _, _, .cons r t d e, q => .cons (Ow.carry tp tq r fun b o hb => q b o ((e b).mpr (.inl hb))) (OwL.carry tp tq t fun b o hb => q b o ((e b).mpr (.inr hb))) d e
end
/-! what is owned is there, and no tuple -/
mutual
theorem Ow.nt : ∀ {v : V} {d : D} {S : AS}, Ow K H v d S → Nt H S
  | _, _, _, .leaf _ _ e => fun a z => absurd z (e a)
  | _, _, _, .tup _ r => OwL.nt r
  | _, _, _, .lst h r _ e => fun b z => by
    rcases (e b).mp z with rfl | z
    · exact ⟨by rw [h]; simp, fun xs r => by rcases r with r | ⟨o, r⟩ <;> rw [h] at r <;> cases r⟩
    · exact OwL.nt r b z
  | _, _, _, .dic h _ r _ e => fun b z => by
    rcases (e b).mp z with rfl | z
    · exact ⟨by rw [h]; simp, fun xs r => by rcases r with r | ⟨o, r⟩ <;> rw [h] at r <;> cases r⟩
    · exact OwL.nt r b z
  | _, _, _, .ins h h2 _ r _ _ e => fun b z => by
    rcases (e b).mp z with rfl | rfl | z
    · exact ⟨by rw [h]; simp, fun xs r => by rcases r with r | ⟨o, r⟩ <;> rw [h] at r <;> cases r⟩
    · exact ⟨by rw [h2]; simp, fun xs r => by rcases r with r | ⟨o, r⟩ <;> rw [h2] at r <;> cases r⟩
    · exact OwL.nt r b z
  | _, _, _, .exc h h2 r _ _ e => fun b z => by
    rcases (e b).mp z with rfl | rfl | z
    · exact ⟨by rw [h]; simp, fun xs r => by rcases r with r | ⟨o, r⟩ <;> rw [h] at r <;> simp [ExV] at r⟩
    · exact ⟨by rw [h2]; simp, fun xs r => by rcases r with r | ⟨o, r⟩ <;> rw [h2] at r <;> cases r⟩
    · exact Ow.nt r b z
theorem OwL.nt : ∀ {vs : List V} {ds : List D} {S : AS}, OwL K H vs ds S → Nt H S
  | _, _, _, .nil e => fun a z => absurd z (e a)
  | _, _, _, .cons r t _ e => fun b z => ((e b).mp z).elim (Ow.nt r b) (OwL.nt t b)
end
end

abbrev Env := List (Option D)
inductive R (α : Type) where
  | ok (a : α) (e : Env)
  | exc (c : Str) (d : D) (e : Env)
  | bad
/-- all that is hidden: what lies outside, what the slots own -/
def zo (U : AS) (S : Nat → AS) : AS := fun a => U a ∨ ∃ i, S i a
structure Rel (K : PySem.W.Frag) (M : List Nat) (U : AS) (S : Nat → AS) (H : Hp) (σ : L2.St) (env : Env) : Prop where
  own : ∀ i d, i ∈ M → env[i]? = some (some d) → ∃ v, σ[i]? = some (some v) ∧ Ow K H v d (S i)
  frz : ∀ i d, i ∉ M → env[i]? = some (some d) → ∃ v, σ[i]? = some (some v) ∧ Rp K (vis H (zo U S)) v d
  dis : ∀ i j a, i ≠ j → S i a → S j a → False
  out : ∀ i a, S i a → U a → False
  nt : Nt H (zo U S)
  len : env.length = σ.length
structure Post (K : PySem.W.Frag) (M : List Nat) (U : AS) (S : Nat → AS) (H : Hp) (σ : L2.St) (S' : Nat → AS) (H' : Hp) (env' : Env) : Prop where
  rel : Rel K M U S' H' σ env'
  keep : ∀ a o, H a = some o → (∀ i, ¬ S i a) → H' a = some o
  grow : ∀ i a, S' i a → (∃ j, S j a) ∨ H a = none
end Rf

namespace Rf
open PySem PySem.Spec PyProof.Rows L2

inductive O (α : Type) where
  | ok (a : α)
  | exc (c : Str) (d : D)
  | bad
def O.bind {α β : Type} (x : O α) (f : α → O β) : O β := match x with
  | .ok a => f a
  | .exc c d => .exc c d
  | .bad => .bad
def R.bind {α β : Type} (x : R α) (f : α → Env → R β) : R β := match x with
  | .ok a e => f a e
  | .exc c d e => .exc c d e
  | .bad => .bad
/-- a pure outcome, the slots as they were -/
def O.at {α : Type} (x : O α) (e : Env) : R α := match x with
  | .ok a => .ok a e
  | .exc c d => .exc c d e
  | .bad => .bad

def zb (b : Bool) (U : AS) (S : Nat → AS) : AS := fun a => U a ∨ (b = true ∧ ∃ i, S i a)
theorem zb_true {U : AS} {S : Nat → AS} : zb true U S = zo U S := by funext a; simp [zb, zo]
theorem zb_false {U : AS} {S : Nat → AS} : zb false U S = U := by funext a; simp [zb]
theorem zb_zo {b : Bool} {U : AS} {S : Nat → AS} {a : Addr} (h : zb b U S a) : zo U S a := h.elim .inl fun z => .inr z.2
theorem vis_sub {H : Hp} {Z Z' : AS} (h : ∀ a, Z a → Z' a) : Ex (vis H Z') (vis H Z) := fun a o e => by
  obtain ⟨h1, h2⟩ := of_vis e
  exact vis_in h1 fun z => h2 (h a z)

/-- what is wanted of an exception out of a pure thing -/
def okE (K : PySem.W.Frag) (W : WX) (Z : AS) (H : Hp) (σ : L2.St) (c : Str) (d : D) : Prop :=
  ∀ dx v H', Ex H H' → ¬ Z dx → H' dx = some (.xd [("value", v)]) → Rp K (vis H' Z) v d → W (.ref (He.ga K c)) (some dx) σ H'
def Po {α β : Type} (K : PySem.W.Frag) (W : WX) (Z : AS) (H : Hp) (σ : L2.St) (rel : Hp → β → α → Prop) (Q : β → Hp → Prop) : O α → Prop
  | .ok a => ∀ v H', Ex H H' → rel H' v a → Q v H'
  | .exc c d => okE K W Z H σ c d
  | .bad => False
theorem fresh_back {H H' : Hp} {p : Addr} (e : Ex H H') (h : H' p = none) : H p = none := by
  cases h1 : H p with
  | none => rfl
  | some o => rw [e p o h1] at h; cases h
theorem okE.mono {K : PySem.W.Frag} {W : WX} {Z : AS} {H H1 : Hp} {σ : L2.St} {c : Str} {d : D} (h : okE K W Z H σ c d) (e : Ex H H1) : okE K W Z H1 σ c d :=
  fun dx v H' e1 n x r => h dx v H' (e.trans e1) n x r
section
variable {α β γ δ : Type} {K : PySem.W.Frag} {W : WX} {Z : AS} {H : Hp} {σ : L2.St} {rel1 : Hp → γ → α → Prop} {rel2 : Hp → δ → β → Prop} {Q : δ → Hp → Prop} {Q1 : γ → Hp → Prop} {x : O α} {f : α → O β}
theorem Po.up {H1 : Hp} {y : O β} (e : Ex H H1) (h : Po K W Z H σ rel2 Q y) : Po K W Z H1 σ rel2 Q y := by
  cases y with
  | ok b => exact fun v H' e1 r => h v H' (e.trans e1) r
  | exc c d => exact okE.mono h e
  | bad => exact h
theorem Po.step (h : Po K W Z H σ rel2 Q (x.bind f)) (k : ∀ a v H1, x = .ok a → Ex H H1 → rel1 H1 v a → Po K W Z H1 σ rel2 Q (f a) → Q1 v H1) : Po K W Z H σ rel1 Q1 x := by
  cases x with
  | ok a => exact fun v H1 e r => k a v H1 rfl e r (Po.up e h)
  | exc c d => exact h
  | bad => exact h
theorem Po.last (h : Po K W Z H σ rel2 Q (x.bind f)) (k : ∀ a v H1, x = .ok a → Ex H H1 → rel1 H1 v a → Po K W Z H1 σ rel2 Q (f a) → Q1 v H1) : Po K W Z H σ rel1 Q1 x := Po.step h k
end

abbrev rpZ (K : PySem.W.Frag) (Z : AS) : Hp → V → D → Prop := fun H v d => Rp K (vis H Z) v d
abbrev rlZ (K : PySem.W.Frag) (Z : AS) : Hp → List V → List D → Prop := fun H v d => RpL K (vis H Z) v d
/-- a new list -/
abbrev nlZ (K : PySem.W.Frag) (Z : AS) (H0 : Hp) : Hp → V → List D → Prop := fun H v ds => ∃ p vs, v = .ref p ∧ H0 p = none ∧ H p = some (.lst vs) ∧ RpL K (vis H Z) vs ds

/-- a pure expression: b: what it gives may be kept (else it is looked at alone) -/
def SP (X : Cx) (M : List Nat) (W : WX) (b : Bool) (e : Expr) (F : Env → O D) : Prop :=
  ∃ t : TE, PE X e t ∧ ∀ σ H env U S, Rel X.K M U S H σ env → ∀ Q, Po X.K W (zb b U S) H σ (rpZ X.K (zb b U S)) Q (F env) → t σ H Q
def SPL (X : Cx) (M : List Nat) (W : WX) (b : Bool) (e : Expr) (F : Env → O (List D)) : Prop :=
  ∃ t : TE, PE X e t ∧ ∀ σ H env U S, Rel X.K M U S H σ env → ∀ Q, Po X.K W (zb b U S) H σ (nlZ X.K (zb b U S) H) Q (F env) → t σ H Q
abbrev eqZ : Hp → Bool → Bool → Prop := fun _ b c => b = c
def STp (X : Cx) (M : List Nat) (W : WX) (b : Bool) (e : Expr) (F : Env → O Bool) : Prop :=
  ∃ t : TT, PT X e t ∧ ∀ σ H env U S, Rel X.K M U S H σ env → ∀ Q, Po X.K W (zb b U S) H σ eqZ Q (F env) → t σ H Q

/-! what is kept when the heap only grows -/
section
variable {K : PySem.W.Frag} {M : List Nat} {U : AS} {S : Nat → AS} {H H' : Hp} {σ : L2.St} {env : Env}
theorem Rel.mono (r : Rel K M U S H σ env) (e : Ex H H') : Rel K M U S H' σ env where
  own := fun i d hi he => by
    obtain ⟨v, h1, h2⟩ := r.own i d hi he
    exact ⟨v, h1, h2.carry (fun a xs => ex_rd e) (fun a xs h => e a _ h) fun a o _ h => e a o h⟩
  frz := fun i d hi he => by
    obtain ⟨v, h1, h2⟩ := r.frz i d hi he
    exact ⟨v, h1, h2.mono (vis_mono e)⟩
  dis := r.dis
  out := r.out
  nt := r.nt.new e
  len := r.len
theorem Rel.ntb (r : Rel K M U S H σ env) (b : Bool) : Nt H (zb b U S) := fun a z => r.nt a (zb_zo z)
theorem Rel.post (r : Rel K M U S H σ env) (e : Ex H H') : Post K M U S H σ S H' env :=
  ⟨r.mono e, fun a o h _ => e a o h, fun i a h => .inl ⟨i, h⟩⟩
theorem Post.vis {S' : Nat → AS} {env' : Env} (p : Post K M U S H σ S' H' env') : Ex (Rf.vis H (zo U S)) (Rf.vis H' (zo U S')) := fun a o h => by
  obtain ⟨h1, h2⟩ := of_vis h
  refine vis_in (p.keep a o h1 fun i z => h2 (.inr ⟨i, z⟩)) fun z => ?_
  rcases z with z | ⟨i, z⟩
  · exact h2 (.inl z)
  · rcases p.grow i a z with ⟨j, q⟩ | q
    · exact h2 (.inr ⟨j, q⟩)
    · rw [q] at h1; cases h1
theorem Post.trans {S1 S2 : Nat → AS} {H1 H2 : Hp} {e1 e2 : Env} (a : Post K M U S H σ S1 H1 e1) (b : Post K M U S1 H1 σ S2 H2 e2) : Post K M U S H σ S2 H2 e2 where
  rel := b.rel
  keep := fun x o h n => by
    refine b.keep x o (a.keep x o h n) fun i z => ?_
    rcases a.grow i x z with ⟨j, q⟩ | q
    · exact n j q
    · rw [q] at h; cases h
  grow := fun i x z => by
    rcases b.grow i x z with ⟨j, q⟩ | q
    · exact a.grow j x q
    · cases h : H x with
      | none => exact .inr rfl
      | some o =>
        left
        refine Classical.byContradiction fun n => ?_
        rw [a.keep x o h fun j w => n ⟨j, w⟩] at q
        cases q
end

/-! weakening, lifting -/
section
variable {X : Cx} {M : List Nat} {W : WX} {e : Expr} {F : Env → O D}
theorem zb_ex {H : Hp} {U : AS} {S : Nat → AS} : Ex (vis H (zb true U S)) (vis H (zb false U S)) := vis_sub fun a z => z.elim .inl fun q => nomatch q.1
theorem imm_up {K : PySem.W.Frag} {H : Hp} {Z Z' : AS} {v : V} {d : D} (n : Nt H Z') (i : imm d = true) (r : Rp K (vis H Z) v d) : Rp K (vis H Z') v d := Rp.imm (vis_tup n) i (r.mono vis_ex)
theorem immL_up {K : PySem.W.Frag} {H : Hp} {Z Z' : AS} {v : List V} {d : List D} (n : Nt H Z') (i : immL d = true) (r : RpL K (vis H Z) v d) : RpL K (vis H Z') v d := RpL.imm (vis_tup n) i (r.mono vis_ex)
/-- a thing that may be kept may be looked at -/
def noX {α : Type} : O α → O α
  | .ok a => .ok a
  | _ => .bad
theorem SP.look (h : SP X M W true e F) : SP X M W false e (fun env => noX (F env)) := by
  obtain ⟨t, p, q⟩ := h
  refine ⟨t, p, fun σ H env U S r Q hp => q σ H env U S r Q ?_⟩
  dsimp only at hp
  cases hF : F env with
  | ok d => rw [hF] at hp; exact fun v H' ex rp => hp v H' ex (rp.mono zb_ex)
  | exc c d => rw [hF] at hp; exact hp.elim
  | bad => rw [hF] at hp; exact hp.elim
/-- what is looked at and immutable may be kept -/
def keepI : O D → O D
  | .ok d => if imm d then .ok d else .bad
  | _ => .bad
theorem SP.kept (h : SP X M W false e F) : SP X M W true e (fun env => keepI (F env)) := by
  obtain ⟨t, p, q⟩ := h
  refine ⟨t, p, fun σ H env U S r Q hp => q σ H env U S r Q ?_⟩
  dsimp only at hp
  cases hF : F env with
  | ok d =>
    rw [hF] at hp
    simp only [keepI] at hp
    cases hi : imm d with
    | false => rw [hi] at hp; exact (by simpa [Po] using hp)
    | true =>
      rw [hi] at hp
      intro v H' ex rp
      refine hp v H' ex ?_
      exact imm_up ((r.ntb true).new ex) hi rp
  | exc c d => rw [hF] at hp; exact hp.elim
  | bad => rw [hF] at hp; exact hp.elim
def mkL : O (List D) → O D
  | .ok ds => .ok (.lst ds)
  | .exc c d => .exc c d
  | .bad => .bad
theorem SPL.sp {b : Bool} {F : Env → O (List D)} (h : SPL X M W b e F) : SP X M W b e (fun env => mkL (F env)) := by
  obtain ⟨t, p, q⟩ := h
  refine ⟨t, p, fun σ H env U S r Q hp => q σ H env U S r Q ?_⟩
  dsimp only at hp
  cases hF : F env with
  | ok ds =>
    rw [hF] at hp
    rintro v H' ex ⟨p, vs, rfl, hn, hl, rp⟩
    refine hp _ H' ex (.lst (vis_in hl fun z => ?_) rp)
    exact absurd hn ((r.ntb b) p z).1
  | exc c d => rw [hF] at hp; exact hp
  | bad => rw [hF] at hp; exact hp.elim
end

/-! names, constants -/
section
variable {X : Cx} {M : List Nat} {W : WX} {pos : Pos}
def eVar (i : Nat) : Env → O D := fun env => match env[i]? with
  | some (some d) => .ok d
  | _ => .bad
theorem sp_var {i : Nat} {x : Str} (hM : M.contains i = false) (hN : X.N[i]? = some x) (hv : Vis X.env.scope x) (hd : (x == ("__debug__" : Str)) = false := by decide) (hcd : (x == ("__classdict__" : Str)) = false := by decide) : SP X M W true (.Name x pos) (eVar i) := by
  refine ⟨_, pe_var hN hv hd hcd, fun σ H env U S r Q hp => ?_⟩
  have hM' : i ∉ M := by simpa using hM
  unfold eVar at hp
  split at hp
  · rename_i d he
    obtain ⟨v, h1, h2⟩ := r.frz i d hM' he
    exact ⟨v, h1, hp v H (Ex.refl H) (by rw [rpZ, zb_true]; exact h2)⟩
  · exact hp.elim
/-- a slot that owns what it holds: looked at -/
theorem sp_own {i : Nat} {x : Str} (hM : M.contains i = true) (hN : X.N[i]? = some x) (hv : Vis X.env.scope x) (hd : (x == ("__debug__" : Str)) = false := by decide) (hcd : (x == ("__classdict__" : Str)) = false := by decide) : SP X M W false (.Name x pos) (eVar i) := by
  refine ⟨_, pe_var hN hv hd hcd, fun σ H env U S r Q hp => ?_⟩
  have hM' : i ∈ M := by simpa using hM
  unfold eVar at hp
  split at hp
  · rename_i d he
    obtain ⟨v, h1, h2⟩ := r.own i d hM' he
    exact ⟨v, h1, hp v H (Ex.refl H) (by rw [rpZ, zb_false]; exact h2.vis (fun a z => r.nt a (.inl z)) fun a ha hu => r.out i a ha hu)⟩
  · exact hp.elim
def eC (d : D) : Env → O D := fun _ => .ok d
theorem sp_int {b : Bool} {i j} : SP X M W b (.Constant (.int i) j pos) (eC (.int i)) := ⟨_, pe_int, fun σ H env U S r Q hp => hp _ H (Ex.refl H) (.int i)⟩
theorem sp_bl {b : Bool} {i j} : SP X M W b (.Constant (.bool i) j pos) (eC (.bl i)) := ⟨_, pe_bl, fun σ H env U S r Q hp => hp _ H (Ex.refl H) (.bl i)⟩
theorem sp_non {b : Bool} {j} : SP X M W b (.Constant .none j pos) (eC .non) := ⟨_, pe_non, fun σ H env U S r Q hp => hp _ H (Ex.refl H) .non⟩
theorem sp_str {b : Bool} {i j} : SP X M W b (.Constant (.str i) j pos) (eC (.str i)) := ⟨_, pe_str, fun σ H env U S r Q hp => hp _ H (Ex.refl H) (.str i)⟩
theorem sp_gint {b : Bool} {x : Str} {i : Int} (hg : Gl X x) (hm : ∃ t, X.mg x = some (.int i t)) (hd : (x == ("__debug__" : Str)) = false := by decide) : SP X M W b (.Name x pos) (eC (.int i)) := by
  obtain ⟨t, hm⟩ := hm
  exact ⟨_, pe_glob (v := .int i) hg hm ⟨_, rfl⟩ hd, fun σ H env U S r Q hp => hp _ H (Ex.refl H) (.int i)⟩
theorem sp_gstr {b : Bool} {x : Str} {i : Str} (hg : Gl X x) (hm : ∃ t, X.mg x = some (.str i t)) (hd : (x == ("__debug__" : Str)) = false := by decide) : SP X M W b (.Name x pos) (eC (.str i)) := by
  obtain ⟨t, hm⟩ := hm
  exact ⟨_, pe_glob (v := .str i) hg hm ⟨_, rfl⟩ hd, fun σ H env U S r Q hp => hp _ H (Ex.refl H) (.str i)⟩
/-- a module's table: what it stands for is known to K -/
theorem sp_glob {b : Bool} {x : Str} {a : Addr} {d : D} (hg : Gl X x) (hm : X.mg x = some (.ref a)) (hr : ∀ H, Rp X.K H (.ref a) d) (hd : (x == ("__debug__" : Str)) = false := by decide) : SP X M W b (.Name x pos) (eC d) := by
  exact ⟨_, pe_glob (v := .ref a) hg hm rfl hd, fun σ H env U S r Q hp => hp _ H (Ex.refl H) (hr _)⟩
end

/-! nodes -/
def sq : List TE → L2.St → Hp → (List V → Hp → Prop) → Prop
  | [], _, H, k => k [] H
  | t :: ts, σ, H, k => t σ H fun v H1 => sq ts σ H1 fun vs H2 => k (v :: vs) H2
inductive PEs (X : Cx) : List Expr → List TE → Prop
  | nil : PEs X [] []
  | cons {e : Expr} {es : List Expr} {t : TE} {ts : List TE} : PE X e t → PEs X es ts → PEs X (e :: es) (t :: ts)
inductive SPs (X : Cx) (M : List Nat) (W : WX) (b : Bool) : List Expr → List (Env → O D) → Prop
  | nil : SPs X M W b [] []
  | cons {e : Expr} {es : List Expr} {F : Env → O D} {Fs : List (Env → O D)} : SP X M W b e F → SPs X M W b es Fs → SPs X M W b (e :: es) (F :: Fs)
abbrev RN := List V → L2.St → Hp → VK → Prop
def Node (X : Cx) (es : List Expr) (e : Expr) (r : RN) : Prop := ∀ ts, PEs X es ts → ∃ t, PE X e t ∧ ∀ σ H Q, sq ts σ H (fun vs H' => r vs σ H' Q) → t σ H Q
def Val (K : PySem.W.Frag) (W : WX) (r : RN) (g : List D → O D) : Prop := ∀ H Z σ vs ds Q, Nt H Z → RpL K (vis H Z) vs ds → Po K W Z H σ (rpZ K Z) Q (g ds) → r vs σ H Q
def ValL (K : PySem.W.Frag) (W : WX) (r : RN) (g : List D → O (List D)) : Prop := ∀ H Z σ vs ds Q, Nt H Z → RpL K (vis H Z) vs ds → Po K W Z H σ (nlZ K Z H) Q (g ds) → r vs σ H Q
def seqF : List (Env → O D) → Env → O (List D)
  | [], _ => .ok []
  | F :: Fs, env => (F env).bind fun d => (seqF Fs env).bind fun ds => .ok (d :: ds)
def nd {α : Type} (g : List D → O α) (Fs : List (Env → O D)) : Env → O α := fun env => (seqF Fs env).bind g
section
variable {X : Cx} {M : List Nat} {W : WX} {b : Bool}
theorem sps_run {es : List Expr} {Fs : List (Env → O D)} (h : SPs X M W b es Fs) : ∃ ts, PEs X es ts ∧ ∀ σ H env U S, Rel X.K M U S H σ env → ∀ (k : List V → Hp → Prop),
    Po X.K W (zb b U S) H σ (rlZ X.K (zb b U S)) k (seqF Fs env) → sq ts σ H k := by
  induction h with
  | nil => exact ⟨[], .nil, fun σ H env U S r k h => h [] H (Ex.refl H) .nil⟩
  | @cons e es F Fs h1 _ ih =>
    obtain ⟨t, p, q⟩ := h1
    obtain ⟨ts, ps, qs⟩ := ih
    refine ⟨t :: ts, .cons p ps, fun σ H env U S r k h => ?_⟩
    refine q σ H env U S r _ (Po.step h fun d v H1 hF e1 r1 h1 => ?_)
    refine qs σ H1 env U S (r.mono e1) _ (Po.step h1 fun ds vs H2 hFs e2 r2 h2 => ?_)
    exact h2 (v :: vs) H2 (Ex.refl H2) (.cons (r1.mono (vis_mono e2)) r2)
theorem sp_node {es : List Expr} {e : Expr} {r : RN} {g : List D → O D} {Fs : List (Env → O D)} (n : Node X es e r) (v : Val X.K W r g) (h : SPs X M W b es Fs) : SP X M W b e (nd g Fs) := by
  obtain ⟨ts, ps, qs⟩ := sps_run h
  obtain ⟨t, p, q⟩ := n ts ps
  refine ⟨t, p, fun σ H env U S rl Q hp => q σ H Q (qs σ H env U S rl _ (Po.step hp fun ds vs H1 hF e1 r1 h1 => ?_))⟩
  exact v H1 _ σ vs ds Q ((rl.ntb b).new e1) r1 h1
theorem spl_node {es : List Expr} {e : Expr} {r : RN} {g : List D → O (List D)} {Fs : List (Env → O D)} (n : Node X es e r) (v : ValL X.K W r g) (h : SPs X M W b es Fs) : SPL X M W b e (nd g Fs) := by
  obtain ⟨ts, ps, qs⟩ := sps_run h
  obtain ⟨t, p, q⟩ := n ts ps
  refine ⟨t, p, fun σ H env U S rl Q hp => q σ H Q (qs σ H env U S rl _ ?_)⟩
  have hp' : Po X.K W (zb b U S) H σ (nlZ X.K (zb b U S) H) Q ((seqF Fs env).bind g) := hp
  refine Po.step hp' fun ds vs H1 hF e1 r1 h1 => v H1 _ σ vs ds Q ((rl.ntb b).new e1) r1 ?_
  cases hg : g ds with
  | ok ys =>
    rw [hg] at h1
    rintro w H2 e2 ⟨p', us, rfl, hn, hl, rr⟩
    exact h1 _ H2 e2 ⟨p', us, rfl, fresh_back e1 hn, hl, rr⟩
  | exc c d => rw [hg] at h1; exact h1
  | bad => rw [hg] at h1; exact h1
end
end Rf

namespace Rf
open PySem PySem.Spec PyProof.Rows L2

def r1 (r : V → Hp → VK → Prop) : RN := fun vs _ H Q => match vs with
  | [x] => r x H Q
  | _ => False
def r2 (r : R2) : RN := fun vs _ H Q => match vs with
  | [x, y] => r x y H Q
  | _ => False
def g1 {α : Type} (f : D → O α) : List D → O α
  | [a] => f a
  | _ => .bad
def g2 {α : Type} (f : D → D → O α) : List D → O α
  | [a, b] => f a b
  | _ => .bad
def g3 {α : Type} (f : D → D → D → O α) : List D → O α
  | [a, b, c] => f a b c
  | _ => .bad
section
variable {X : Cx} {W : WX} {a c : Expr} {pos : Pos}
theorem node_op {op : Operator} {r : R2} (ho : OpR X (binaryOp op) r) : Node X [a, c] (.BinOp a op c pos) (r2 r) := by
  intro ts h
  cases h with | cons h1 h => cases h with | cons h2 h => cases h with | nil => exact ⟨_, pe_op ho h1 h2, fun σ H Q h => h⟩
theorem node_un {op : UnaryOp} {r : V → Hp → VK → Prop} (ho : UnR X (unaryOp op) r) : Node X [a] (.UnaryOp op a pos) (r1 r) := by
  intro ts h
  cases h with | cons h1 h => cases h with | nil => exact ⟨_, pe_un ho h1, fun σ H Q h => h⟩
theorem node_cmp {op : CmpOp} {r : R2} (ho : OpR X (compareOp op) r) (hm : behindInMarks op c = false) : Node X [a, c] (.Compare a [op] [c] pos) (r2 r) := by
  intro ts h
  cases h with | cons h1 h => cases h with | cons h2 h => cases h with | nil => exact ⟨_, pe_cmpR ho h1 h2 hm, fun σ H Q h => h⟩
theorem node_ix {r : R2} (hr : IxR X r) (hs : PlainIx c) : Node X [a, c] (.Subscript a c pos) (r2 r) := by
  intro ts h
  cases h with | cons h1 h => cases h with | cons h2 h => cases h with | nil => exact ⟨_, pe_ix hr h1 h2 hs, fun σ H Q h => h⟩
end
section
variable {K : PySem.W.Frag} {W : WX}
/-- by the two operands -/
def V2 (K : PySem.W.Frag) (W : WX) (r : R2) (f : D → D → O D) : Prop := ∀ H Z σ x y d e Q, Nt H Z → Rp K (vis H Z) x d → Rp K (vis H Z) y e → Po K W Z H σ (rpZ K Z) Q (f d e) → r x y H Q
def V1 (K : PySem.W.Frag) (W : WX) (r : V → Hp → VK → Prop) (f : D → O D) : Prop := ∀ H Z σ x d Q, Nt H Z → Rp K (vis H Z) x d → Po K W Z H σ (rpZ K Z) Q (f d) → r x H Q
theorem V2.val {r : R2} {f : D → D → O D} (h : V2 K W r f) : Val K W (r2 r) (g2 f) := by
  intro H Z σ vs ds Q n rp hp
  cases rp with
  | nil => exact hp.elim
  | cons p1 rp => cases rp with
    | nil => exact hp.elim
    | cons p2 rp => cases rp with
      | nil => exact h H Z σ _ _ _ _ Q n p1 p2 hp
      | cons _ _ => exact hp.elim
theorem V1.val {r : V → Hp → VK → Prop} {f : D → O D} (h : V1 K W r f) : Val K W (r1 r) (g1 f) := by
  intro H Z σ vs ds Q n rp hp
  cases rp with
  | nil => exact hp.elim
  | cons p1 rp => cases rp with
    | nil => exact h H Z σ _ _ Q n p1 hp
    | cons _ _ => exact hp.elim
/-- an int operation -/
def fI (C : Int → Int → Bool) (g : Int → Int → D) : D → D → O D
  | .int i, .int j => if C i j then .ok (g i j) else .bad
  | _, _ => .bad
theorem v2_I {C : Int → Int → Prop} {C' : Int → Int → Bool} {g : Int → Int → V} {g' : Int → Int → D} (hc : ∀ i j, C' i j = true → C i j) (hg : ∀ H i j, Rp K H (g i j) (g' i j)) : V2 K W (rI C g) (fI C' g') := by
  intro H Z σ x y d e Q n h1 h2 hp
  cases h1 <;> try exact hp.elim
  cases h2 <;> try exact hp.elim
  rename_i i j
  simp only [fI] at hp
  cases hcc : C' i j with
  | false => rw [hcc] at hp; exact (by simpa [Po] using hp)
  | true => rw [hcc] at hp; exact ⟨i, j, rfl, rfl, hc i j hcc, hp _ H (Ex.refl H) (hg _ i j)⟩
theorem v2_I0 {g : Int → Int → V} {g' : Int → Int → D} (hg : ∀ H i j, Rp K H (g i j) (g' i j)) : V2 K W (rI0 g) (fI (fun _ _ => true) g') := by
  intro H Z σ x y d e Q n h1 h2 hp
  cases h1 <;> try exact hp.elim
  cases h2 <;> try exact hp.elim
  rename_i i j
  exact ⟨i, j, rfl, rfl, hp _ H (Ex.refl H) (hg _ i j)⟩
theorem Po_new {Z : AS} {H : Hp} {σ : L2.St} {Q : VK} {d : D} (h : Po K W Z H σ (rpZ K Z) Q (.ok d)) {p : Addr} {o : HO} (hn : H p = none) (hr : Rp K (vis (upd H p o) Z) (.ref p) d) : Q (.ref p) (upd H p o) :=
  h _ _ (Ex.new hn) hr
theorem fresh_vis {H : Hp} {Z : AS} {p : Addr} {o : HO} (n : Nt H Z) (hn : H p = none) : vis (upd H p o) Z p = some o := vis_in upd_same fun z => (n p z).1 hn

/-! add -/
def fAdd : D → D → O D
  | .int i, .int j => .ok (.int (i + j))
  | .str x, .str y => if x.length + y.length ≤ sizeLine then .ok (.str (catS x y)) else .bad
  | .tup xs, .tup ys => if xs.length + ys.length ≤ sizeLine then .ok (.tup (xs ++ ys)) else .bad
  | .lst xs, .lst ys => if xs.length + ys.length ≤ sizeLine then .ok (.lst (xs ++ ys)) else .bad
  | _, _ => .bad
def rAddAll (K : PySem.W.Frag) : R2 := fun x y H Q => ((rI0 (fun i j => V.int (i + j)) x y H Q ∨ (∃ i j, x = .str i ∧ y = .str j ∧ i.length + j.length ≤ sizeLine ∧ Q (.str (i ++ j)) H)) ∨ rCatA K x y H Q) ∨ rCat x y H Q
theorem op_addAll {X : Cx} : OpR X (binaryOp .Add) (rAddAll X.K) := ((op_add.or op_add_str).or op_catA).or op_cat
theorem of_some_vis {H : Hp} {Z : AS} {a : Addr} {o : HO} (h : vis H Z a = some o) : H a = some o := (of_vis h).1
theorem SqT.up {H : Hp} {Z : AS} {a : Addr} {xs : List V} (h : SqT K (vis H Z) a xs) : SqT K H a xs := ex_t vis_ex h
theorem v2_add : V2 K W (rAddAll K) fAdd := by
  intro H Z σ x y d e Q n h1 h2 hp
  cases h1 <;> cases h2 <;> try exact hp.elim
  · exact .inl (.inl (.inl ⟨_, _, rfl, rfl, hp _ H (Ex.refl H) (.int _)⟩))
  · simp only [fAdd, catS_eq] at hp
    split at hp
    · rename_i hl
      exact .inl (.inl (.inr ⟨_, _, rfl, rfl, hl, hp _ H (Ex.refl H) (.str _)⟩))
    · exact hp.elim
  · rename_i a xs ds ha ra b ys es hb rb
    simp only [fAdd] at hp
    split at hp
    · rename_i hl
      have l1 := ra.length
      have l2 := rb.length
      refine .inl (.inr ⟨a, b, xs, ys, rfl, rfl, SqT.up ha, SqT.up hb, by omega, fun e => ?_, fun _ e => ?_, fun _ _ p hn => ?_⟩)
      · subst e; cases ra; exact hp _ H (Ex.refl H) (.tup hb rb)
      · subst e; cases rb; rw [List.append_nil] at hp; exact hp _ H (Ex.refl H) (.tup ha ra)
      · exact Po_new hp hn (.tup (SqT.of (fresh_vis n hn)) ((ra.append rb).mono (vis_mono (Ex.new hn))))
    · exact hp.elim
  · rename_i a xs ds ha ra b ys es hb rb
    simp only [fAdd] at hp
    split at hp
    · rename_i hl
      have l1 := ra.length
      have l2 := rb.length
      refine .inr ⟨a, b, xs, ys, rfl, rfl, of_some_vis ha, of_some_vis hb, by omega, fun p hn => ?_⟩
      exact Po_new hp hn (.lst (fresh_vis n hn) ((ra.append rb).mono (vis_mono (Ex.new hn))))
    · exact hp.elim
/-- list + list: a new list -/
def fAddL : D → D → O (List D)
  | .lst xs, .lst ys => if xs.length + ys.length ≤ sizeLine then .ok (xs ++ ys) else .bad
  | _, _ => .bad
theorem vl_add : ValL K W (r2 rCat) (g2 fAddL) := by
  intro H Z σ vs ds Q n rp hp
  cases rp with
  | nil => exact hp.elim
  | cons p1 rp => cases rp with
    | nil => exact hp.elim
    | cons p2 rp => cases rp with
      | cons _ _ => exact hp.elim
      | nil =>
        cases p1 <;> cases p2 <;> try exact hp.elim
        rename_i a xs ds ha ra b ys es hb rb
        simp only [g2, fAddL] at hp
        split at hp
        · rename_i hl
          have l1 := ra.length
          have l2 := rb.length
          refine ⟨a, b, xs, ys, rfl, rfl, of_some_vis ha, of_some_vis hb, by omega, fun p hn => ?_⟩
          exact hp _ _ (Ex.new hn) ⟨p, _, rfl, hn, upd_same, (ra.append rb).mono (vis_mono (Ex.new hn))⟩
        · exact hp.elim

/-! the other operators -/
def fSub : D → D → O D := fI (fun _ _ => true) fun i j => .int (i - j)
theorem v2_sub : V2 K W (rI0 fun i j => V.int (i - j)) fSub := v2_I0 fun _ _ _ => .int _
def cMul (i j : Int) : Bool := decide (i.natAbs < 2 ^ 4000) && decide (j.natAbs < 2 ^ 4000)
theorem cMul_ok (i j : Int) (h : cMul i j = true) : CMulW i j := by
  simp only [cMul, Bool.and_eq_true, decide_eq_true_eq] at h
  exact wide_mul h.1 h.2 (by decide) (by decide) (by decide)
def fMulI : D → D → O D := fI cMul fun i j => .int (i * j)
theorem v2_mul : V2 K W (rI CMulW fun i j => V.int (i * j)) fMulI := v2_I cMul_ok fun _ _ _ => .int _
def cDiv (_ j : Int) : Bool := decide (0 < j) && decide (j < 1073741824)
theorem cDiv_ok (i j : Int) (h : cDiv i j = true) : CDiv i j := by
  simp only [cDiv, Bool.and_eq_true, decide_eq_true_eq] at h
  exact h
def fDiv : D → D → O D := fI cDiv fun i j => .int (i / j)
theorem v2_div : V2 K W (rI CDiv fun i j => V.int (i / j)) fDiv := v2_I cDiv_ok fun _ _ _ => .int _
def fMod : D → D → O D := fI (fun _ j => decide (0 < j)) fun i j => .int (i % j)
theorem v2_mod : V2 K W (rI (fun _ j => 0 < j) fun i j => V.int (i % j)) fMod := v2_I (fun _ _ h => of_decide_eq_true h) fun _ _ _ => .int _
def cPow (i j : Int) : Bool := decide (0 ≤ j) && decide (j ≤ 1000) && decide (i.natAbs < 2 ^ 1000)
def CPowW (i j : Int) : Prop := 0 ≤ j ∧ j ≤ 1000 ∧ i.natAbs < 2 ^ 1000
theorem op_powW {X : Cx} : OpR X (binaryOp .Pow) (rI CPowW fun i j => .int (i ^ j.toNat)) := opI fun i j _ _ _ _ _ hc q => by
  refine pow_int hc.1 ?_ q
  have hb : Builtin.Int.intBits i ≤ 1000 := by
    have h1 : i.natAbs.log2 + 1 ≤ 1000 ∨ i.natAbs = 0 := by
      by_cases h0 : i.natAbs = 0
      · exact .inr h0
      · left
        have := (Nat.log2_lt h0).mpr hc.2.2
        omega
    rcases h1 with h1 | h1
    · unfold Builtin.Int.intBits
      split <;> omega
    · have : i = 0 := by omega
      subst this
      decide
  obtain ⟨h1, h2, _⟩ := hc
  have h3 : (Builtin.Int.intBits i : Int) ≤ 1000 := by exact_mod_cast hb
  have h4 : (Builtin.Int.intBits i : Int) * j ≤ 1000 * 1000 := Int.mul_le_mul h3 h2 h1 (by decide)
  exact Int.le_trans h4 (by decide)
theorem cPow_ok (i j : Int) (h : cPow i j = true) : CPowW i j := by
  simp only [cPow, Bool.and_eq_true, decide_eq_true_eq] at h
  exact ⟨h.1.1, h.1.2, h.2⟩
def fPow : D → D → O D := fI cPow fun i j => .int (i ^ j.toNat)
theorem v2_pow : V2 K W (rI CPowW fun i j => V.int (i ^ j.toNat)) fPow := v2_I cPow_ok fun _ _ _ => .int _
def fAnd : D → D → O D := fI (fun _ _ => true) fun i j => .int (Builtin.bitAnd i j)
theorem v2_and : V2 K W (rI0 fun i j => V.int (Builtin.bitAnd i j)) fAnd := v2_I0 fun _ _ _ => .int _
def fOr : D → D → O D := fI (fun _ _ => true) fun i j => .int (Builtin.bitOr i j)
theorem v2_or : V2 K W (rI0 fun i j => V.int (Builtin.bitOr i j)) fOr := v2_I0 fun _ _ _ => .int _
def fNeg : D → O D
  | .int i => .ok (.int (-i))
  | _ => .bad
theorem v1_neg : V1 K W (rU fun i => V.int (-i)) fNeg := by
  intro H Z σ x d Q n h hp
  cases h <;> try exact hp.elim
  exact ⟨_, rfl, hp _ H (Ex.refl H) (.int _)⟩
end
end Rf

namespace Rf
open PySem PySem.Spec PyProof.Rows L2

/-! plain data, == -/
mutual
/-- plain data, nested at most n deep -/
def pd : Nat → D → Bool
  | _, .non => true
  | _, .bl _ => true
  | _, .int _ => true
  | _, .str x => okL x.cps.toList
  | 0, .tup _ => false
  | n + 1, .tup xs => pdL n xs
  | 0, .lst _ => false
  | n + 1, .lst xs => pdL n xs
  | _, .dic _ => false
  | _, .ins _ _ => false
  | _, .exc _ _ => false
  | _, .scr _ => false
def pdL : Nat → List D → Bool
  | _, [] => true
  | n, x :: xs => pd n x && pdL n xs
end
mutual
def toP : D → PyData
  | .non => .none
  | .bl b => .bool b
  | .int i => .int i
  | .str x => .str x
  | .tup xs => .tuple (toPL xs)
  | .lst xs => .list (toPL xs)
  | .dic _ => .none
  | .ins _ _ => .none
  | .exc _ _ => .none
  | .scr _ => .none
def toPL : List D → List PyData
  | [] => []
  | x :: xs => toP x :: toPL xs
end
mutual
def dEq : D → D → Bool
  | .non, .non => true
  | .bl a, .bl b => a == b
  | .bl a, .int j => (if a then 1 else 0) == j
  | .int i, .bl b => i == (if b then 1 else 0)
  | .int i, .int j => i == j
  | .str x, .str y => nbeq x.cps.toList y.cps.toList
  | .lst xs, .lst ys => dEqL xs ys
  | .tup xs, .tup ys => dEqL xs ys
  | _, _ => false
def dEqL : List D → List D → Bool
  | [], [] => true
  | x :: xs, y :: ys => dEq x y && dEqL xs ys
  | _, _ => false
end
mutual
theorem eqv_eq : ∀ (n m : Nat) (d e : D), pd n d = true → pd m e = true → PyData.eqv (toP d) (toP e) = dEq d e
  | n, m, d, e, h1, h2 => by
    match d, e, h1, h2 with
    | .dic _, _, h1, _ => simp [pd] at h1
    | .ins _ _, _, h1, _ => simp [pd] at h1
    | .exc _ _, _, h1, _ => simp [pd] at h1
    | .scr _, _, h1, _ => simp [pd] at h1
    | _, .dic _, _, h2 => simp [pd] at h2
    | _, .ins _ _, _, h2 => simp [pd] at h2
    | _, .exc _ _, _, h2 => simp [pd] at h2
    | _, .scr _, _, h2 => simp [pd] at h2
    | .tup xs, .tup ys, h1, h2 =>
      cases n with
      | zero => simp [pd] at h1
      | succ n =>
        cases m with
        | zero => simp [pd] at h2
        | succ m => simpa [toP, PyData.eqv, dEq] using eqvL_eq n m xs ys (by simpa [pd] using h1) (by simpa [pd] using h2)
    | .lst xs, .lst ys, h1, h2 =>
      cases n with
      | zero => simp [pd] at h1
      | succ n =>
        cases m with
        | zero => simp [pd] at h2
        | succ m => simpa [toP, PyData.eqv, dEq] using eqvL_eq n m xs ys (by simpa [pd] using h1) (by simpa [pd] using h2)
    | .non, .non, _, _ => rfl
    | .non, .bl _, _, _ => rfl
    | .non, .int _, _, _ => rfl
    | .non, .str _, _, _ => rfl
    | .non, .tup _, _, _ => rfl
    | .non, .lst _, _, _ => rfl
    | .bl _, .non, _, _ => rfl
    | .bl _, .bl _, _, _ => rfl
    | .bl _, .int _, _, _ => rfl
    | .bl _, .str _, _, _ => rfl
    | .bl _, .tup _, _, _ => rfl
    | .bl _, .lst _, _, _ => rfl
    | .int _, .non, _, _ => rfl
    | .int _, .bl _, _, _ => rfl
    | .int _, .int _, _, _ => rfl
    | .int _, .str _, _, _ => rfl
    | .int _, .tup _, _, _ => rfl
    | .int _, .lst _, _, _ => rfl
    | .str _, .non, _, _ => rfl
    | .str _, .bl _, _, _ => rfl
    | .str _, .int _, _, _ => rfl
    | .str x, .str y, _, _ => exact Rf.beq_nbeq x y
    | .str _, .tup _, _, _ => rfl
    | .str _, .lst _, _, _ => rfl
    | .tup _, .non, _, _ => rfl
    | .tup _, .bl _, _, _ => rfl
    | .tup _, .int _, _, _ => rfl
    | .tup _, .str _, _, _ => rfl
    | .tup _, .lst _, _, _ => rfl
    | .lst _, .non, _, _ => rfl
    | .lst _, .bl _, _, _ => rfl
    | .lst _, .int _, _, _ => rfl
    | .lst _, .str _, _, _ => rfl
    | .lst _, .tup _, _, _ => rfl
theorem eqvL_eq : ∀ (n m : Nat) (d e : List D), pdL n d = true → pdL m e = true → PyData.eqvAll (toPL d) (toPL e) = dEqL d e
  | n, m, [], [], _, _ => by simp [toPL, PyData.eqvAll, dEqL]
  | n, m, [], _ :: _, _, _ => by simp [toPL, PyData.eqvAll, dEqL]
  | n, m, _ :: _, [], _, _ => by simp [toPL, PyData.eqvAll, dEqL]
  | n, m, x :: xs, y :: ys, h1, h2 => by
    simp only [pdL, Bool.and_eq_true] at h1 h2
    simp only [toPL, PyData.eqvAll, dEqL, eqv_eq n m x y h1.1 h2.1, eqvL_eq n m xs ys h1.2 h2.2]
end
section
variable {K : PySem.W.Frag} {H : Hp}
mutual
theorem pd_dp : ∀ (n : Nat) (d : D) (v : V), pd n d = true → Rp K H v d → Dp K H v (toP d)
  | n, .non, _, _, .non => by simp only [toP]; exact .non
  | n, .bl _, _, _, .bl b => by simp only [toP]; exact .bl b
  | n, .int _, _, _, .int i => by simp only [toP]; exact .int i
  | n, .str _, _, _, .str x => by simp only [toP]; exact .str x
  | 0, .tup _, _, h, .tup _ _ => by simp [pd] at h
  | n + 1, .tup xs, _, h, .tup a r => by simp only [toP]; exact .tup a (pdL_dp n xs _ (by simpa [pd] using h) r)
  | 0, .lst _, _, h, .lst _ _ => by simp [pd] at h
  | n + 1, .lst xs, _, h, .lst a r => by simp only [toP]; exact .lst (SqL.of a) (pdL_dp n xs _ (by simpa [pd] using h) r)
  | n, .dic _, _, h, _ => by simp [pd] at h
  | n, .ins _ _, _, h, _ => by simp [pd] at h
  | n, .exc _ _, _, h, _ => by simp [pd] at h
  | n, .scr _, _, h, _ => by simp [pd] at h
theorem pdL_dp : ∀ (n : Nat) (d : List D) (v : List V), pdL n d = true → RpL K H v d → DpAll K H v (toPL d)
  | n, [], _, _, .nil => by simp only [toPL]; exact .nil
  | n, x :: xs, _, h, .cons r t => by
    simp only [pdL, Bool.and_eq_true] at h
    simp only [toPL]
    exact .cons (pd_dp n x _ h.1 r) (pdL_dp n xs _ h.2 t)
end
mutual
theorem pd_lay : ∀ (n : Nat) (d : D), pd n d = true → (toP d).canLay0 = true ∧ (toP d).depth ≤ n
  | n, .non, _ => by simp [toP, PyData.canLay0, PyData.depth]
  | n, .bl _, _ => by simp [toP, PyData.canLay0, PyData.depth]
  | n, .int _, _ => by simp [toP, PyData.canLay0, PyData.depth]
  | n, .str _, h => by simpa [toP, PyData.canLay0, PyData.depth, pd, okL_eq] using h
  | 0, .tup _, h => by simp [pd] at h
  | n + 1, .tup xs, h => by
    have := pdL_lay n xs (by simpa [pd] using h)
    simp only [toP, PyData.canLay0, PyData.depth]
    exact ⟨this.1, by omega⟩
  | 0, .lst _, h => by simp [pd] at h
  | n + 1, .lst xs, h => by
    have := pdL_lay n xs (by simpa [pd] using h)
    simp only [toP, PyData.canLay0, PyData.depth]
    exact ⟨this.1, by omega⟩
  | n, .dic _, h => by simp [pd] at h
  | n, .ins _ _, h => by simp [pd] at h
  | n, .exc _ _, h => by simp [pd] at h
  | n, .scr _, h => by simp [pd] at h
theorem pdL_lay : ∀ (n : Nat) (d : List D), pdL n d = true → PyData.canLayAll0 (toPL d) = true ∧ PyData.depthAll (toPL d) ≤ n
  | n, [], _ => by simp [toPL, PyData.canLayAll0, PyData.depthAll]
  | n, x :: xs, h => by
    simp only [pdL, Bool.and_eq_true] at h
    have h1 := pd_lay n x h.1
    have h2 := pdL_lay n xs h.2
    simp only [toPL, PyData.canLayAll0, PyData.depthAll]
    exact ⟨by simp [h1.1, h2.1], by omega⟩
end
theorem pd_shaped {d : D} (h : pd 60 d = true) : SeqAt.shaped (toP d) = true := by
  have := pd_lay 60 d h
  unfold SeqAt.shaped
  simp only [this.1, Bool.true_and, decide_eq_true_eq]
  omega
end

/-! comparisons -/
def fEq (neg : Bool) : D → D → O D := fun d e => if pd 60 d && pd 60 e then .ok (.bl (if neg then !dEq d e else dEq d e)) else .bad
section
variable {K : PySem.W.Frag} {W : WX}
theorem v2_eq : V2 K W (rEqD K) (fEq false) := by
  intro H Z σ x y d e Q n h1 h2 hp
  simp only [fEq] at hp
  split at hp
  · rename_i hh
    simp only [Bool.and_eq_true] at hh
    refine ⟨toP d, toP e, pd_dp 60 d x hh.1 (h1.mono vis_ex), pd_dp 60 e y hh.2 (h2.mono vis_ex), pd_shaped hh.1, pd_shaped hh.2, ?_⟩
    rw [eqv_eq 60 60 d e hh.1 hh.2]
    exact hp _ H (Ex.refl H) (.bl _)
  · exact hp.elim
theorem v2_ne : V2 K W (rNeD K) (fEq true) := by
  intro H Z σ x y d e Q n h1 h2 hp
  simp only [fEq] at hp
  split at hp
  · rename_i hh
    simp only [Bool.and_eq_true] at hh
    refine ⟨toP d, toP e, pd_dp 60 d x hh.1 (h1.mono vis_ex), pd_dp 60 e y hh.2 (h2.mono vis_ex), pd_shaped hh.1, pd_shaped hh.2, ?_⟩
    rw [eqv_eq 60 60 d e hh.1 hh.2]
    exact hp _ H (Ex.refl H) (.bl _)
  · exact hp.elim
def fLt : D → D → O D := fI (fun _ _ => true) fun i j => .bl (decide (i < j))
def fLe : D → D → O D := fI (fun _ _ => true) fun i j => .bl (decide (i ≤ j))
def fGt : D → D → O D := fI (fun _ _ => true) fun i j => .bl (decide (j < i))
def fGe : D → D → O D := fI (fun _ _ => true) fun i j => .bl (decide (j ≤ i))
theorem v2_lt : V2 K W (rI0 fun i j => V.bl (decide (i < j))) fLt := v2_I0 fun _ _ _ => .bl _
theorem v2_le : V2 K W (rI0 fun i j => V.bl (decide (i ≤ j))) fLe := v2_I0 fun _ _ _ => .bl _
theorem v2_gt : V2 K W (rI0 fun i j => V.bl (decide (j < i))) fGt := v2_I0 fun _ _ _ => .bl _
theorem v2_ge : V2 K W (rI0 fun i j => V.bl (decide (j ≤ i))) fGe := v2_I0 fun _ _ _ => .bl _
def isNon : D → Bool
  | .non => true
  | _ => false
def fIs (neg : Bool) : D → D → O D
  | d, .non => .ok (.bl (if neg then !isNon d else isNon d))
  | _, _ => .bad
theorem rp_non {H : Hp} {x : V} {d : D} (h : Rp K H x d) : decide (x = .non) = isNon d := by cases h <;> simp [isNon]
theorem v2_is : V2 K W (fun x y H Q => y = .non ∧ Q (.bl (decide (x = .non))) H) (fIs false) := by
  intro H Z σ x y d e Q n h1 h2 hp
  cases h2 <;> try exact hp.elim
  refine ⟨rfl, ?_⟩
  rw [rp_non h1]
  exact hp _ H (Ex.refl H) (.bl _)
theorem v2_isnot : V2 K W (fun x y H Q => y = .non ∧ Q (.bl (!decide (x = .non))) H) (fIs true) := by
  intro H Z σ x y d e Q n h1 h2 hp
  cases h2 <;> try exact hp.elim
  refine ⟨rfl, ?_⟩
  rw [rp_non h1]
  exact hp _ H (Ex.refl H) (.bl _)
end
end Rf

namespace Rf
open PySem PySem.Spec PyProof.Rows L2

/-! in -/
def rInQ (K : PySem.W.Frag) (neg : Bool) : R2 := fun x y H Q => ∃ d ds, Dp K H x d ∧ (Dp K H y (.list ds) ∨ Dp K H y (.tuple ds)) ∧ SeqAt.shaped d = true ∧ PyData.canLayAll0 ds = true ∧ Q (.bl (if neg then !ds.any fun z => PyData.eqv z d else ds.any fun z => PyData.eqv z d)) H
section
variable {X : Cx}
theorem op_inQ (hu : X.A.units + 65 < cLine) : OpR X (compareOp .In) (rInQ X.K false) := by
  intro pins s σ H x y v u Q I rx ry h
  obtain ⟨d, ds, hd, he, sd, se, q⟩ := h
  obtain ⟨as, r1⟩ := Dp.reads I d x v hd rx
  rcases he with he | he
  · obtain ⟨bs, r2⟩ := Dp.reads I (.list ds) y u he ry
    exact SeqAt.in_list_reads r2 r1 se (SeqAt.canLay_of_shaped sd) (room_in_shaped sd hu) ⟨.bl _, H, I, rfl, q⟩
  · obtain ⟨bs, r2⟩ := Dp.reads I (.tuple ds) y u he ry
    exact SeqAt.in_tuple_reads r2 r1 se (SeqAt.canLay_of_shaped sd) (room_in_shaped sd hu) ⟨.bl _, H, I, rfl, q⟩
theorem op_notInQ (hu : X.A.units + 65 < cLine) : OpR X (compareOp .NotIn) (rInQ X.K true) := by
  intro pins s σ H x y v u Q I rx ry h
  obtain ⟨d, ds, hd, he, sd, se, q⟩ := h
  obtain ⟨as, r1⟩ := Dp.reads I d x v hd rx
  rcases he with he | he
  · obtain ⟨bs, r2⟩ := Dp.reads I (.list ds) y u he ry
    exact SeqAt.notIn_list_reads r2 r1 se (SeqAt.canLay_of_shaped sd) (room_in_shaped sd hu) ⟨.bl _, H, I, rfl, q⟩
  · obtain ⟨bs, r2⟩ := Dp.reads I (.tuple ds) y u he ry
    exact SeqAt.notIn_tuple_reads r2 r1 se (SeqAt.canLay_of_shaped sd) (room_in_shaped sd hu) ⟨.bl _, H, I, rfl, q⟩
def rDInQ (neg : Bool) : R2 := fun x y H Q => ∃ a o, y = .ref a ∧ DGet H a x o ∧ Q (.bl (if neg then !o.isSome else o.isSome)) H
theorem op_dinQ (hu : X.A.units + 1 < cLine) : OpR X (compareOp .In) (rDInQ false) := by
  intro pins s σ H x y v u Q I rx ry h
  obtain ⟨a, o, rfl, g, q⟩ := h
  cases ry
  exact d_in hu I g rx fun s' I' => ⟨.bl _, H, I', rfl, q⟩
theorem op_dnotInQ (hu : X.A.units + 1 < cLine) : OpR X (compareOp .NotIn) (rDInQ true) := by
  intro pins s σ H x y v u Q I rx ry h
  obtain ⟨a, o, rfl, g, q⟩ := h
  cases ry
  exact d_notIn hu I g rx fun s' I' => ⟨.bl _, H, I', rfl, q⟩
def rSgn (neg : Bool) : R2 := fun x y H Q => ∃ (c : Nat) (z : Str), x = .str ⟨#[c]⟩ ∧ y = .str z ∧ Q (.bl (if neg then !decide (c ∈ z.cps.toList) else decide (c ∈ z.cps.toList))) H
theorem op_sgn : OpR X (compareOp .In) (rSgn false) := op_in_sign
theorem op_notSgn : OpR X (compareOp .NotIn) (rSgn true) := op_notIn_sign
def rInAll (K : PySem.W.Frag) (neg : Bool) : R2 := fun x y H Q => (rInQ K neg x y H Q ∨ rDInQ neg x y H Q) ∨ rSgn neg x y H Q
theorem op_inAll (hu : X.A.units + 65 < cLine) : OpR X (compareOp .In) (rInAll X.K false) := ((op_inQ hu).or (op_dinQ (by omega))).or op_sgn
theorem op_notInAll (hu : X.A.units + 65 < cLine) : OpR X (compareOp .NotIn) (rInAll X.K true) := ((op_notInQ hu).or (op_dnotInQ (by omega))).or op_notSgn
end
def keyOf : D → Option Key
  | .int i => some (.inl i)
  | .str x => some (.inr x)
  | _ => none
def hasK (k : Key) : List (Key × D) → Bool
  | [] => false
  | (j, _) :: r => @decide (j = k) (Qk.dec j k) || hasK k r
def inL (x : D) : List D → Bool
  | [] => false
  | y :: ys => dEq y x || inL x ys
def ng (neg b : Bool) : Bool := if neg then !b else b
def fIn (neg : Bool) (x : D) : D → O D
  | .tup ys => if pd 59 x && pdL 59 ys then .ok (.bl (ng neg (inL x ys))) else .bad
  | .lst ys => if pd 59 x && pdL 59 ys then .ok (.bl (ng neg (inL x ys))) else .bad
  | .dic kvs => match keyOf x with
    | some k => .ok (.bl (ng neg (hasK k kvs)))
    | none => .bad
  | .str z => match x with
    | .str ⟨⟨[c]⟩⟩ => .ok (.bl (ng neg (decide (c ∈ z.cps.toList))))
    | _ => .bad
  | _ => .bad
theorem inL_eq (x : D) (n m : Nat) (hx : pd n x = true) : ∀ ys : List D, pdL m ys = true → ((toPL ys).any fun z => PyData.eqv z (toP x)) = inL x ys
  | [], _ => by simp [toPL, inL]
  | y :: ys, h => by
    simp only [pdL, Bool.and_eq_true] at h
    simp only [toPL, inL, List.any_cons, eqv_eq m n y x h.1 hx, inL_eq x n m hx ys h.2]
theorem hasK_eq (k : Key) : ∀ {kvs : List (Key × V)} {ds : List (Key × D)}, kvs.map (·.1) = ds.map (·.1) → (valV kvs k).isSome = hasK k ds
  | [], [], _ => rfl
  | [], _ :: _, h => by simp at h
  | _ :: _, [], h => by simp at h
  | (a, v) :: kvs, (b, d) :: ds, h => by
    simp only [List.map_cons, List.cons.injEq] at h
    obtain ⟨rfl, h⟩ := h
    by_cases e : a = k
    · rw [valV_pos (p := (a, v)) e]; simp [hasK, e]
    · rw [valV_neg (p := (a, v)) e, hasK_eq k h]; simp [hasK, e]
section
variable {K : PySem.W.Frag} {W : WX}
theorem pd_mono60 {x : D} (h : pd 59 x = true) : SeqAt.shaped (toP x) = true := by
  have := pd_lay 59 x h
  unfold SeqAt.shaped
  simp only [this.1, Bool.true_and, decide_eq_true_eq]
  omega
theorem v2_in (neg : Bool) : V2 K W (rInAll K neg) (fIn neg) := by
  intro H Z σ x y d e Q n h1 h2 hp
  cases h2 with
  | non => exact hp.elim
  | bl _ => exact hp.elim
  | int _ => exact hp.elim
  | ins _ _ _ => exact hp.elim
  | exc _ _ _ => exact hp.elim
  | scr _ => exact hp.elim
  | str z =>
    simp only [fIn] at hp
    split at hp
    · rename_i c
      cases h1
      exact .inr ⟨c, z, rfl, rfl, hp _ H (Ex.refl H) (.bl _)⟩
    · exact hp.elim
  | @tup a vs ds ha r =>
    simp only [fIn] at hp
    split at hp
    · rename_i hh
      simp only [Bool.and_eq_true] at hh
      refine .inl (.inl ⟨toP d, toPL ds, pd_dp 59 d x hh.1 (h1.mono vis_ex), .inr (.tup (SqT.up ha) (pdL_dp 59 ds vs hh.2 (r.mono vis_ex))), pd_mono60 hh.1, (pdL_lay 59 ds hh.2).1, ?_⟩)
      rw [inL_eq d 59 59 hh.1 ds hh.2]
      exact hp _ H (Ex.refl H) (.bl _)
    · exact hp.elim
  | @lst a vs ds ha r =>
    simp only [fIn] at hp
    split at hp
    · rename_i hh
      simp only [Bool.and_eq_true] at hh
      refine .inl (.inl ⟨toP d, toPL ds, pd_dp 59 d x hh.1 (h1.mono vis_ex), .inl (.lst (SqL.of (of_some_vis ha)) (pdL_dp 59 ds vs hh.2 (r.mono vis_ex))), pd_mono60 hh.1, (pdL_lay 59 ds hh.2).1, ?_⟩)
      rw [inL_eq d 59 59 hh.1 ds hh.2]
      exact hp _ H (Ex.refl H) (.bl _)
    · exact hp.elim
  | @dic a kvs ds ha hk r =>
    simp only [fIn] at hp
    split at hp
    · rename_i k hkk
      have hx : x = kV k := by
        cases h1 <;> simp [keyOf] at hkk <;> subst hkk <;> rfl
      refine .inl (.inr ⟨a, valV kvs k, rfl, .inl ⟨kvs, k, ex_rd vis_ex ha, hx, rfl⟩, ?_⟩)
      rw [hasK_eq k hk]
      exact hp _ H (Ex.refl H) (.bl _)
    · exact hp.elim
end

/-! tests -/
def asB : O D → O Bool
  | .ok (.bl b) => .ok b
  | .ok _ => .bad
  | .exc c d => .exc c d
  | .bad => .bad
def ofB : O Bool → O D
  | .ok b => .ok (.bl b)
  | .exc c d => .exc c d
  | .bad => .bad
section
variable {X : Cx} {M : List Nat} {W : WX} {b : Bool} {e : Expr}
theorem Po_asB {Z : AS} {H : Hp} {σ : L2.St} {Q : Bool → Hp → Prop} {x : O D} (h : Po X.K W Z H σ eqZ Q (asB x)) : Po X.K W Z H σ (rpZ X.K Z) (fun v H' => ∃ c, v = .bl c ∧ Q c H') x := by
  cases x with
  | ok d =>
    intro v H' ex rp
    cases rp <;> try exact h.elim
    exact ⟨_, rfl, h _ H' ex rfl⟩
  | exc c d => exact h
  | bad => exact h.elim
theorem st_val {F : Env → O D} (h : SP X M W b e F) (he : ∀ whole, isTrue e X.env whole = (do let v ← whole; standAt e.pos; holding [v] (truthy v)) := by intro _; rfl) : STp X M W b e (fun env => asB (F env)) := by
  obtain ⟨t, p, q⟩ := h
  exact ⟨_, pt_val p he, fun σ H env U S r Q hp => q σ H env U S r _ (Po_asB hp)⟩
theorem st_cmp {op : CmpOp} {r : R2} {f : D → D → O D} {a c : Expr} {pos : Pos} {Fa Fc : Env → O D} (ho : OpR X (compareOp op) r) (v : V2 X.K W r f) (ha : SP X M W b a Fa) (hc : SP X M W b c Fc) (hm : behindInMarks op c = false := by first | exact nobehind _ (by decide) (by decide) | rfl) :
    STp X M W b (.Compare a [op] [c] pos) (fun env => asB (nd (g2 f) [Fa, Fc] env)) := by
  obtain ⟨ts, ps, qs⟩ := sps_run (SPs.cons ha (SPs.cons hc SPs.nil))
  cases ps with | cons p1 ps => cases ps with | cons p2 ps => cases ps with | nil =>
  refine ⟨_, pt_cmpR ho p1 p2 hm, fun σ H env U S rl Q hp => ?_⟩
  have h0 := Po_asB hp
  have h1 : Po X.K W (zb b U S) H σ (rpZ X.K (zb b U S)) (fun v H' => ∃ c, v = .bl c ∧ Q c H') ((seqF [Fa, Fc] env).bind (g2 f)) := h0
  have := qs σ H env U S rl (fun vs H' => r2 r vs σ H' fun v H' => ∃ c, v = .bl c ∧ Q c H') (Po.step h1 fun ds vs H1 hF e1 r1 h1 => v.val H1 _ σ vs ds _ ((rl.ntb b).new e1) r1 h1)
  exact this
theorem sp_cmp {op : CmpOp} {r : R2} {f : D → D → O D} {a c : Expr} {pos : Pos} {Fa Fc : Env → O D} (ho : OpR X (compareOp op) r) (v : V2 X.K W r f) (ha : SP X M W b a Fa) (hc : SP X M W b c Fc) (hm : behindInMarks op c = false := by first | exact nobehind _ (by decide) (by decide) | rfl) :
    SP X M W b (.Compare a [op] [c] pos) (nd (g2 f) [Fa, Fc]) := sp_node (node_cmp ho hm) v.val (.cons ha (.cons hc .nil))
theorem sp_op {op : Operator} {r : R2} {f : D → D → O D} {a c : Expr} {pos : Pos} {Fa Fc : Env → O D} (ho : OpR X (binaryOp op) r) (v : V2 X.K W r f) (ha : SP X M W b a Fa) (hc : SP X M W b c Fc) :
    SP X M W b (.BinOp a op c pos) (nd (g2 f) [Fa, Fc]) := sp_node (node_op ho) v.val (.cons ha (.cons hc .nil))
theorem sp_un {op : UnaryOp} {r : V → Hp → VK → Prop} {f : D → O D} {a : Expr} {pos : Pos} {Fa : Env → O D} (ho : UnR X (unaryOp op) r) (v : V1 X.K W r f) (ha : SP X M W b a Fa) :
    SP X M W b (.UnaryOp op a pos) (nd (g1 f) [Fa]) := sp_node (node_un ho) v.val (.cons ha .nil)

/-! and, or, not, if -/
def bAnd (F G : Env → O Bool) : Env → O Bool := fun env => (F env).bind fun a => if a then G env else .ok false
def bOr (F G : Env → O Bool) : Env → O Bool := fun env => (F env).bind fun a => if a then .ok true else G env
def bNot (F : Env → O Bool) : Env → O Bool := fun env => (F env).bind fun a => .ok (!a)
def vAnd (F G : Env → O D) : Env → O D := fun env => (asB (F env)).bind fun a => if a then G env else .ok (.bl false)
def vOr (F G : Env → O D) : Env → O D := fun env => (asB (F env)).bind fun a => if a then .ok (.bl true) else G env
def vNot (F : Env → O D) : Env → O D := fun env => (asB (F env)).bind fun a => .ok (.bl (!a))
def vIf (C : Env → O Bool) (F G : Env → O D) : Env → O D := fun env => (C env).bind fun a => if a then F env else G env
def SW (X : Cx) (M : List Nat) (W : WX) (b : Bool) (e : Expr) (F : Env → O Bool) : Prop :=
  ∃ t : TT, PW X e t ∧ ∀ σ H env U S, Rel X.K M U S H σ env → ∀ Q, Po X.K W (zb b U S) H σ eqZ Q (F env) → t σ H Q
theorem SW.st {F : Env → O Bool} (h : SW X M W b e F) : STp X M W b e F := by
  obtain ⟨t, p, q⟩ := h
  exact ⟨t, p.pt, q⟩
variable {a c : Expr} {rest : List Expr} {pos : Pos} {F G : Env → O Bool} {FD GD : Env → O D}
theorem sw_and1 (h : STp X M W b a F) : SW X M W b (.BoolOp .And [a] pos) F := by
  obtain ⟨t, p, q⟩ := h
  exact ⟨t, pw_and1 p, q⟩
theorem sw_or1 (h : STp X M W b a F) : SW X M W b (.BoolOp .Or [a] pos) F := by
  obtain ⟨t, p, q⟩ := h
  exact ⟨t, pw_or1 p, q⟩
theorem sw_and (h : STp X M W b a F) (h2 : SW X M W b (.BoolOp .And (c :: rest) pos) G) : SW X M W b (.BoolOp .And (a :: c :: rest) pos) (bAnd F G) := by
  obtain ⟨t, p, q⟩ := h
  obtain ⟨t2, p2, q2⟩ := h2
  refine ⟨_, pw_and p p2, fun σ H env U S r Q hp => q σ H env U S r _ ?_⟩
  have hp' : Po X.K W (zb b U S) H σ eqZ Q ((F env).bind fun a => if a then G env else .ok false) := hp
  refine Po.step hp' fun k v H1 hF e1 r1 h1 => ?_
  obtain rfl : v = k := r1
  cases v with
  | true => exact q2 σ H1 env U S (r.mono e1) Q h1
  | false => exact h1 false H1 (Ex.refl H1) rfl
theorem sw_or (h : STp X M W b a F) (h2 : SW X M W b (.BoolOp .Or (c :: rest) pos) G) : SW X M W b (.BoolOp .Or (a :: c :: rest) pos) (bOr F G) := by
  obtain ⟨t, p, q⟩ := h
  obtain ⟨t2, p2, q2⟩ := h2
  refine ⟨_, pw_or p p2, fun σ H env U S r Q hp => q σ H env U S r _ ?_⟩
  have hp' : Po X.K W (zb b U S) H σ eqZ Q ((F env).bind fun a => if a then .ok true else G env) := hp
  refine Po.step hp' fun k v H1 hF e1 r1 h1 => ?_
  obtain rfl : v = k := r1
  cases v with
  | true => exact h1 true H1 (Ex.refl H1) rfl
  | false => exact q2 σ H1 env U S (r.mono e1) Q h1
theorem st_not (h : STp X M W b a F) : STp X M W b (.UnaryOp .Not a pos) (bNot F) := by
  obtain ⟨t, p, q⟩ := h
  refine ⟨_, pt_not p, fun σ H env U S r Q hp => q σ H env U S r _ ?_⟩
  have hp' : Po X.K W (zb b U S) H σ eqZ Q ((F env).bind fun a => .ok (!a)) := hp
  refine Po.step hp' fun k v H1 hF e1 r1 h1 => ?_
  obtain rfl : v = k := r1
  exact h1 _ H1 (Ex.refl H1) rfl
theorem sp_one {op : BoolOp} (h : SP X M W b a FD) : SP X M W b (.BoolOp op [a] pos) FD := by
  obtain ⟨t, p, q⟩ := h
  exact ⟨t, pe_one p, q⟩
theorem sp_and (h : SP X M W b a FD) (h2 : SP X M W b (.BoolOp .And (c :: rest) pos) GD) : SP X M W b (.BoolOp .And (a :: c :: rest) pos) (vAnd FD GD) := by
  obtain ⟨t, p, q⟩ := h
  obtain ⟨t2, p2, q2⟩ := h2
  refine ⟨_, pe_and p p2, fun σ H env U S r Q hp => q σ H env U S r _ ?_⟩
  have hp' : Po X.K W (zb b U S) H σ (rpZ X.K (zb b U S)) Q ((asB (FD env)).bind fun a => if a then GD env else .ok (.bl false)) := hp
  have h1 : Po X.K W (zb b U S) H σ eqZ (fun k H1 => if k = true then t2 σ H1 Q else Q (.bl false) H1) (asB (FD env)) := Po.step hp' fun k v H1 hF e1 r1 h1 => by
    obtain rfl : v = k := r1
    cases v with
    | true => exact q2 σ H1 env U S (r.mono e1) Q h1
    | false => exact h1 _ H1 (Ex.refl H1) (.bl false)
  exact Po_asB h1
theorem sp_or (h : SP X M W b a FD) (h2 : SP X M W b (.BoolOp .Or (c :: rest) pos) GD) : SP X M W b (.BoolOp .Or (a :: c :: rest) pos) (vOr FD GD) := by
  obtain ⟨t, p, q⟩ := h
  obtain ⟨t2, p2, q2⟩ := h2
  refine ⟨_, pe_or p p2, fun σ H env U S r Q hp => q σ H env U S r _ ?_⟩
  have hp' : Po X.K W (zb b U S) H σ (rpZ X.K (zb b U S)) Q ((asB (FD env)).bind fun a => if a then .ok (.bl true) else GD env) := hp
  have h1 : Po X.K W (zb b U S) H σ eqZ (fun k H1 => if k = true then Q (.bl true) H1 else t2 σ H1 Q) (asB (FD env)) := Po.step hp' fun k v H1 hF e1 r1 h1 => by
    obtain rfl : v = k := r1
    cases v with
    | true => exact h1 _ H1 (Ex.refl H1) (.bl true)
    | false => exact q2 σ H1 env U S (r.mono e1) Q h1
  exact Po_asB h1
theorem sp_not (h : SP X M W b a FD) : SP X M W b (.UnaryOp .Not a pos) (vNot FD) := by
  obtain ⟨t, p, q⟩ := h
  refine ⟨_, pe_not p, fun σ H env U S r Q hp => q σ H env U S r _ ?_⟩
  have hp' : Po X.K W (zb b U S) H σ (rpZ X.K (zb b U S)) Q ((asB (FD env)).bind fun a => .ok (.bl (!a))) := hp
  have h1 : Po X.K W (zb b U S) H σ eqZ (fun k H1 => Q (.bl (!k)) H1) (asB (FD env)) := Po.step hp' fun k v H1 hF e1 r1 h1 => by
    obtain rfl : v = k := r1
    exact h1 _ H1 (Ex.refl H1) (.bl _)
  exact Po_asB h1
theorem sp_if {C : Env → O Bool} {t f : Expr} (hc : STp X M W b c C) (h1 : SP X M W b t FD) (h2 : SP X M W b f GD) : SP X M W b (.IfExp c t f pos) (vIf C FD GD) := by
  obtain ⟨tc, pc, qc⟩ := hc
  obtain ⟨t1, p1, q1⟩ := h1
  obtain ⟨t2, p2, q2⟩ := h2
  refine ⟨_, pe_ifExp pc p1 p2, fun σ H env U S r Q hp => qc σ H env U S r _ ?_⟩
  have hp' : Po X.K W (zb b U S) H σ (rpZ X.K (zb b U S)) Q ((C env).bind fun a => if a then FD env else GD env) := hp
  refine Po.step hp' fun k v H1 hF e1 r1 h1 => ?_
  obtain rfl : v = k := r1
  cases v with
  | true => exact q1 σ H1 env U S (r.mono e1) Q h1
  | false => exact q2 σ H1 env U S (r.mono e1) Q h1
end
end Rf

namespace Rf
open PySem PySem.Spec PyProof.Rows L2

/-! argument lists -/
def noStar : List Expr → Bool
  | [] => true
  | .Starred _ _ :: _ => false
  | _ :: es => noStar es
theorem noStar_head {e : Expr} {es : List Expr} (h : noStar (e :: es) = true) (env : PySem.Env) : starEach (e :: es) env = (false, eval e env) :: starEach es env ∧ noStar es = true := by
  cases e <;> first
    | exact ⟨rfl, h⟩
    | (simp [noStar] at h)
theorem noStar_plain : ∀ {es : List Expr}, noStar es = true → ∀ (pos : Pos) (env : PySem.Env), (backTo pos (starEach es env)).any (·.1) = false
  | [], _, _, _ => rfl
  | e :: es, h, pos, env => by
    obtain ⟨h1, h2⟩ := noStar_head h env
    rw [h1]
    have := noStar_plain h2 pos env
    simp only [backTo] at this ⊢
    simpa using this
section
variable {X : Cx} {M : List Nat} {W : WX} {b : Bool}
theorem pa_of {es : List Expr} {ts : List TE} (h : PEs X es ts) (hs : noStar es = true) : ∃ t : TA, PA X es t ∧ ∀ σ H k, sq ts σ H k → t σ H k := by
  induction h with
  | nil => exact ⟨_, pa_nil, fun σ H k h => h⟩
  | @cons e es t ts h1 h2 ih =>
    obtain ⟨e1, e2⟩ := noStar_head hs X.env
    obtain ⟨u, p, q⟩ := ih e2
    refine ⟨tCons t (sq ts), pa_cons h1 ?_ e1, fun σ H k h => h⟩
    exact ⟨fun pos pins s σ H Q I hw => p.run pos pins s σ H Q I (q σ H Q hw)⟩
theorem node_tup {es : List Expr} {k : Nat} {pos : Pos} (hs : noStar es = true) : Node X es (.Tuple es k pos) (fun vs _ H Q => vs.length ≤ sizeLine ∧ ∀ p, H p = none → Q (.ref p) (upd H p (.tup vs))) := by
  intro ts h
  obtain ⟨t, p, q⟩ := pa_of h hs
  exact ⟨_, pe_tup p, fun σ H Q hq => q σ H _ hq⟩
theorem node_lst {es : List Expr} {pos : Pos} (hs : noStar es = true) : Node X es (.List es pos) (fun vs _ H Q => vs.length ≤ sizeLine ∧ ∀ p, H p = none → Q (.ref p) (upd H p (.lst vs))) := by
  intro ts h
  obtain ⟨t, p, q⟩ := pa_of h hs
  exact ⟨_, pe_lst p, fun σ H Q hq => q σ H _ hq⟩
def gTupD (ds : List D) : O D := if ds.length ≤ sizeLine then .ok (.tup ds) else .bad
def gLstD (ds : List D) : O (List D) := if ds.length ≤ sizeLine then .ok ds else .bad
variable {K : PySem.W.Frag}
theorem val_tup : Val K W (fun vs _ H Q => vs.length ≤ sizeLine ∧ ∀ p, H p = none → Q (.ref p) (upd H p (.tup vs))) gTupD := by
  intro H Z σ vs ds Q n rp hp
  simp only [gTupD] at hp
  split at hp
  · rename_i hl
    refine ⟨by rw [rp.length]; exact hl, fun p hn => ?_⟩
    exact Po_new hp hn (.tup (SqT.of (fresh_vis n hn)) (rp.mono (vis_mono (Ex.new hn))))
  · exact hp.elim
theorem vl_lst : ValL K W (fun vs _ H Q => vs.length ≤ sizeLine ∧ ∀ p, H p = none → Q (.ref p) (upd H p (.lst vs))) gLstD := by
  intro H Z σ vs ds Q n rp hp
  simp only [gLstD] at hp
  split at hp
  · rename_i hl
    refine ⟨by rw [rp.length]; exact hl, fun p hn => ?_⟩
    exact hp _ _ (Ex.new hn) ⟨p, _, rfl, hn, upd_same, rp.mono (vis_mono (Ex.new hn))⟩
  · exact hp.elim
theorem sp_tup {es : List Expr} {Fs : List (Env → O D)} {k : Nat} {pos : Pos} (h : SPs X M W b es Fs) (hs : noStar es = true := by rfl) : SP X M W b (.Tuple es k pos) (nd gTupD Fs) := sp_node (node_tup hs) val_tup h
theorem spl_lst {es : List Expr} {Fs : List (Env → O D)} {pos : Pos} (h : SPs X M W b es Fs) (hs : noStar es = true := by rfl) : SPL X M W b (.List es pos) (nd gLstD Fs) := spl_node (node_lst hs) vl_lst h

/-! subscripts -/
def rIxAll (K : PySem.W.Frag) : R2 := fun x y H Q => (rIxL K x y H Q ∨ rIxT K x y H Q) ∨ rIxS x y H Q
theorem ix_all : IxR X (rIxAll X.K) := (ix_list.or ix_tup).or ix_str
def fIx : D → D → O D
  | .tup xs, .int i => match atI xs i with
    | some d => .ok d
    | none => .bad
  | .lst xs, .int i => match atI xs i with
    | some d => .ok d
    | none => .bad
  | .scr ns, .int i => match atI ns i with
    | some d => .ok (.int d)
    | none => .bad
  | .str z, .int i => if z.length ≤ sizeLine then match atI z.cps.toList i with
    | some c => .ok (.str ⟨#[c]⟩)
    | none => .bad else .bad
  | _, _ => .bad
theorem RpL.at {H : Hp} {vs : List V} {ds : List D} {i : Int} {d : D} (r : RpL K H vs ds) (h : atI ds i = some d) : ∃ v, atI vs i = some v ∧ Rp K H v d := by
  unfold atI at h ⊢
  rw [r.length]
  cases e : ixN ds.length i with
  | none => rw [e] at h; simp at h
  | some j =>
    rw [e] at h
    obtain ⟨v, h1, h2⟩ := r.get (i := j) (by simpa using h)
    exact ⟨v, by simpa using h1, h2⟩
theorem v2_ix : V2 K W (rIxAll K) fIx := by
  intro H Z σ x y d e Q n h1 h2 hp
  cases h2 <;> try (cases h1 <;> exact hp.elim)
  rename_i i
  cases h1 <;> try exact hp.elim
  · rename_i z
    simp only [fIx] at hp
    split at hp
    · rename_i hz
      split at hp
      · rename_i c hc
        exact .inr ⟨z, i, c, rfl, rfl, hz, hc, hp _ H (Ex.refl H) (.str _)⟩
      · exact hp.elim
    · exact hp.elim
  · rename_i a vs ds ha r
    simp only [fIx] at hp
    split at hp
    · rename_i d' hd
      obtain ⟨v, hv, rv⟩ := RpL.at r hd
      exact .inl (.inr ⟨a, vs, i, v, rfl, rfl, SqT.up ha, hv, hp v H (Ex.refl H) rv⟩)
    · exact hp.elim
  · rename_i a vs ds ha r
    simp only [fIx] at hp
    split at hp
    · rename_i d' hd
      obtain ⟨v, hv, rv⟩ := RpL.at r hd
      exact .inl (.inl ⟨a, vs, i, v, rfl, rfl, SqL.of (of_some_vis ha), hv, hp v H (Ex.refl H) rv⟩)
    · exact hp.elim
  · rename_i a ns ha
    simp only [fIx] at hp
    split at hp
    · rename_i d' hd
      refine .inl (.inl ⟨a, _, i, .int d', rfl, rfl, ex_l vis_ex ha, ?_, hp _ H (Ex.refl H) (.int _)⟩)
      unfold atI at hd ⊢
      rw [List.length_map]
      cases e : ixN ns.length i with
      | none => rw [e] at hd; simp at hd
      | some j => rw [e] at hd; simp at hd ⊢; exact hd
    · exact hp.elim
theorem sp_ix {a c : Expr} {pos : Pos} {Fa Fc : Env → O D} (ha : SP X M W b a Fa) (hc : SP X M W b c Fc) (hs : PlainIx c := by intro _ _; rfl) : SP X M W b (.Subscript a c pos) (nd (g2 fIx) [Fa, Fc]) := sp_node (node_ix ix_all hs) v2_ix.val (.cons ha (.cons hc .nil))

/-! slices -/
def cutD {α : Type} (xs : List α) (lo hi : Option Int) : List α := (xs.drop (HT.sIx xs.length 0 lo)).take (HT.sIx xs.length xs.length hi - HT.sIx xs.length 0 lo)
def rSlAll (K : PySem.W.Frag) : V → Option Int → Option Int → Hp → VK → Prop := fun x lo hi H Q => (rSlL K x lo hi H Q ∨ rSlA K x lo hi H Q) ∨ rSlS x lo hi H Q
theorem SlR.or {r r' : V → Option Int → Option Int → Hp → VK → Prop} (h : L2.SlR X r) (h' : L2.SlR X r') : L2.SlR X (fun x lo hi H Q => r x lo hi H Q ∨ r' x lo hi H Q) := by
  intro pins s σ H x v vl vu lo hi sl Q I rx hs pl pu q
  rcases q with q | q
  · exact h pins s σ H x v vl vu lo hi sl Q I rx hs pl pu q
  · exact h' pins s σ H x v vl vu lo hi sl Q I rx hs pl pu q
theorem sl_all : L2.SlR X (rSlAll X.K) := SlR.or (SlR.or sl_list sl_tupA) sl_str
def fSl (x : D) (lo hi : Option Int) : O D := match x with
  | .tup xs => .ok (.tup (cutD xs lo hi))
  | .lst xs => .ok (.lst (cutD xs lo hi))
  | .str z => if z.length ≤ sizeLine then .ok (.str (cutS z lo hi)) else .bad
  | _ => .bad
def fSlL (x : D) (lo hi : Option Int) : O (List D) := match x with
  | .lst xs => .ok (cutD xs lo hi)
  | _ => .bad
theorem RpL.drop {H : Hp} : ∀ {vs : List V} {ds : List D} (n : Nat), RpL K H vs ds → RpL K H (vs.drop n) (ds.drop n)
  | _, _, 0, r => r
  | _, _, _ + 1, .nil => .nil
  | _, _, n + 1, .cons _ t => RpL.drop n t
theorem RpL.take {H : Hp} : ∀ {vs : List V} {ds : List D} (n : Nat), RpL K H vs ds → RpL K H (vs.take n) (ds.take n)
  | _, _, 0, _ => .nil
  | _, _, _ + 1, .nil => .nil
  | _, _, n + 1, .cons r t => .cons r (RpL.take n t)
theorem RpL.cut {H : Hp} {vs : List V} {ds : List D} (lo hi : Option Int) (r : RpL K H vs ds) : RpL K H (cutV vs lo hi) (cutD ds lo hi) := by
  unfold cutV cutD
  rw [r.length]
  exact (r.drop _).take _
theorem cut_whole {ds : List D} {lo hi : Option Int} (h : HT.sIx ds.length 0 lo = 0 ∧ HT.sIx ds.length ds.length hi = ds.length) : cutD ds lo hi = ds := by
  unfold cutD
  rw [h.1, h.2]
  simp
theorem v_sl {H : Hp} {Z : AS} {σ : L2.St} {x : V} {d : D} {lo hi : Option Int} {Q : VK} (n : Nt H Z) (h : Rp K (vis H Z) x d) (hp : Po K W Z H σ (rpZ K Z) Q (fSl d lo hi)) : rSlAll K x lo hi H Q := by
  cases h <;> try exact hp.elim
  · rename_i z
    simp only [fSl] at hp
    split at hp
    · rename_i hz
      exact .inr ⟨z, rfl, hz, hp _ H (Ex.refl H) (.str _)⟩
    · exact hp.elim
  · rename_i a vs ds ha r
    refine .inl (.inr ⟨a, vs, rfl, SqT.up ha, fun e => ?_, fun _ p hn => ?_⟩)
    · refine hp _ H (Ex.refl H) (.tup ha ?_)
      rw [r.length] at e
      rw [cut_whole e]
      exact r
    · exact Po_new hp hn (.tup (SqT.of (fresh_vis n hn)) ((r.cut lo hi).mono (vis_mono (Ex.new hn))))
  · rename_i a vs ds ha r
    refine .inl (.inl ⟨a, vs, rfl, SqL.of (of_some_vis ha), fun p hn => ?_⟩)
    exact Po_new hp hn (.lst (fresh_vis n hn) ((r.cut lo hi).mono (vis_mono (Ex.new hn))))
theorem v_slL {H : Hp} {Z : AS} {σ : L2.St} {x : V} {d : D} {lo hi : Option Int} {Q : VK} (n : Nt H Z) (h : Rp K (vis H Z) x d) (hp : Po K W Z H σ (nlZ K Z H) Q (fSlL d lo hi)) : rSlL K x lo hi H Q := by
  cases h <;> try exact hp.elim
  rename_i a vs ds ha r
  refine ⟨a, vs, rfl, SqL.of (of_some_vis ha), fun p hn => ?_⟩
  exact hp _ _ (Ex.new hn) ⟨p, _, rfl, hn, upd_same, (r.cut lo hi).mono (vis_mono (Ex.new hn))⟩
/-- an optional bound -/
def SPO (X : Cx) (M : List Nat) (W : WX) (b : Bool) (e : Option Expr) (F : Env → O (Option Int)) : Prop :=
  ∃ t : TO, PO X e t ∧ ∀ σ H env U S, Rel X.K M U S H σ env → ∀ Q, Po X.K W (zb b U S) H σ (fun _ (o o' : Option Int) => o = o') Q (F env) → t σ H Q
def oNone : Env → O (Option Int) := fun _ => .ok none
def asI : O D → O (Option Int)
  | .ok (.int i) => .ok (some i)
  | .ok _ => .bad
  | .exc c d => .exc c d
  | .bad => .bad
def oSome (F : Env → O D) : Env → O (Option Int) := fun env => asI (F env)
theorem spo_none : SPO X M W b none oNone := ⟨_, po_none, fun σ H env U S r Q hp => hp none H (Ex.refl H) rfl⟩
theorem spo_some {e : Expr} {F : Env → O D} (h : SP X M W b e F) : SPO X M W b (some e) (oSome F) := by
  obtain ⟨t, p, q⟩ := h
  refine ⟨_, po_some p, fun σ H env U S r Q hp => q σ H env U S r _ ?_⟩
  unfold oSome at hp
  cases hF : F env with
  | ok d =>
    rw [hF] at hp
    intro v H' ex rp
    cases rp <;> try exact hp.elim
    exact ⟨_, rfl, hp _ H' ex rfl⟩
  | exc c d => rw [hF] at hp; exact hp
  | bad => rw [hF] at hp; exact hp.elim
def eSl (F : Env → O D) (L R : Env → O (Option Int)) : Env → O D := fun env => (F env).bind fun d => (L env).bind fun lo => (R env).bind fun hi => fSl d lo hi
def eSlL (F : Env → O D) (L R : Env → O (Option Int)) : Env → O (List D) := fun env => (F env).bind fun d => (L env).bind fun lo => (R env).bind fun hi => fSlL d lo hi
theorem sp_sl {e : Expr} {lo hi : Option Expr} {F : Env → O D} {L R : Env → O (Option Int)} {p2 pos : Pos} (h : SP X M W b e F) (hl : SPO X M W b lo L) (hr : SPO X M W b hi R) : SP X M W b (.Subscript e (.Slice lo hi none p2) pos) (eSl F L R) := by
  obtain ⟨t, p, q⟩ := h
  obtain ⟨tl, pl, ql⟩ := hl
  obtain ⟨tr, pr, qr⟩ := hr
  refine ⟨_, pe_slice sl_all p pl pr, fun σ H env U S r Q hp => q σ H env U S r _ ?_⟩
  have hp' : Po X.K W (zb b U S) H σ (rpZ X.K (zb b U S)) Q ((F env).bind fun d => (L env).bind fun lo => (R env).bind fun hi => fSl d lo hi) := hp
  refine Po.step hp' fun d v H1 _ e1 r1 h1 => ql σ H1 env U S (r.mono e1) _ (Po.step h1 fun lo lo' H2 _ e2 r2 h2 => qr σ H2 env U S (r.mono (e1.trans e2)) _ (Po.step h2 fun hi hi' H3 _ e3 r3 h3 => ?_))
  subst r2 r3
  exact v_sl ((r.ntb b).new ((e1.trans e2).trans e3)) (r1.mono (vis_mono (e2.trans e3))) h3
theorem spl_sl {e : Expr} {lo hi : Option Expr} {F : Env → O D} {L R : Env → O (Option Int)} {p2 pos : Pos} (h : SP X M W b e F) (hl : SPO X M W b lo L) (hr : SPO X M W b hi R) : SPL X M W b (.Subscript e (.Slice lo hi none p2) pos) (eSlL F L R) := by
  obtain ⟨t, p, q⟩ := h
  obtain ⟨tl, pl, ql⟩ := hl
  obtain ⟨tr, pr, qr⟩ := hr
  refine ⟨_, pe_slice sl_list p pl pr, fun σ H env U S r Q hp => q σ H env U S r _ ?_⟩
  have hp' : Po X.K W (zb b U S) H σ (nlZ X.K (zb b U S) H) Q ((F env).bind fun d => (L env).bind fun lo => (R env).bind fun hi => fSlL d lo hi) := hp
  refine Po.step hp' fun d v H1 _ e1 r1 h1 => ql σ H1 env U S (r.mono e1) _ (Po.step h1 fun lo lo' H2 _ e2 r2 h2 => qr σ H2 env U S (r.mono (e1.trans e2)) _ (Po.step h2 fun hi hi' H3 _ e3 r3 h3 => ?_))
  subst r2 r3
  refine v_slL (W := W) (σ := σ) (Z := zb b U S) ((r.ntb b).new ((e1.trans e2).trans e3)) (r1.mono (vis_mono (e2.trans e3))) ?_
  cases hg : fSlL d lo' hi' with
  | ok ys =>
    rw [hg] at h3
    rintro w H4 e4 ⟨p', us, rfl, hn, hl', rr⟩
    exact h3 _ H4 e4 ⟨p', us, rfl, fresh_back ((e1.trans e2).trans e3) hn, hl', rr⟩
  | exc c d => rw [hg] at h3; exact h3
  | bad => rw [hg] at h3; exact h3
end
end Rf

namespace Rf
open PySem PySem.Spec PyProof.Rows L2
section
variable {X : Cx} {M : List Nat} {W : WX} {b : Bool} {K : PySem.W.Frag}
def rc (r : List V → Hp → VK → Prop) : RN := fun vs _ H Q => r vs H Q
theorem node_callB {id : String} {r : List V → Hp → VK → Prop} {x : Str} {p pos : Pos} {e : Expr} {es : List Expr} (hc : CallR X (.builtin id) r) (hg : Gl X x) (hm : X.mg x = none) (hv : bootBuiltins x = some (.builtin id)) (hs : noStar (e :: es) = true) (hn : x ≠ "__name__" := by decide) (hdb : (x == ("__debug__" : Str)) = false := by decide) :
    Node X (e :: es) (.Call (.Name x p) (e :: es) [] pos) (rc r) := by
  intro ts h
  obtain ⟨t, pa, q⟩ := pa_of h hs
  obtain ⟨h1, h2⟩ := noStar_head hs X.env
  exact ⟨_, pe_callB hc hg hm hv pa hn hdb h1 (noStar_plain h2 pos X.env), fun σ H Q hq => q σ H _ hq⟩
theorem node_callTy {T : String} {r : List V → Hp → VK → Prop} {x : Str} {p pos : Pos} {e : Expr} {es : List Expr} (hc : CallR X (.type T) r) (hg : Gl X x) (hm : X.mg x = none) (hv : bootBuiltins x = some (.type T)) (hs : noStar (e :: es) = true) (hn : x ≠ "__name__" := by decide) (hdb : (x == ("__debug__" : Str)) = false := by decide) :
    Node X (e :: es) (.Call (.Name x p) (e :: es) [] pos) (rc r) := by
  intro ts h
  obtain ⟨t, pa, q⟩ := pa_of h hs
  obtain ⟨h1, h2⟩ := noStar_head hs X.env
  exact ⟨_, pe_callTy hc hg hm hv pa hn hdb h1 (noStar_plain h2 pos X.env), fun σ H Q hq => q σ H _ hq⟩
/-- by the one argument -/
def VC1 (K : PySem.W.Frag) (W : WX) (r : List V → Hp → VK → Prop) (f : D → O D) : Prop := ∀ H Z σ x d Q, Nt H Z → Rp K (vis H Z) x d → Po K W Z H σ (rpZ K Z) Q (f d) → r [x] H Q
def VC1L (K : PySem.W.Frag) (W : WX) (r : List V → Hp → VK → Prop) (f : D → O (List D)) : Prop := ∀ H Z σ x d Q, Nt H Z → Rp K (vis H Z) x d → Po K W Z H σ (nlZ K Z H) Q (f d) → r [x] H Q
def VC2 (K : PySem.W.Frag) (W : WX) (r : List V → Hp → VK → Prop) (f : D → D → O D) : Prop := ∀ H Z σ x y d e Q, Nt H Z → Rp K (vis H Z) x d → Rp K (vis H Z) y e → Po K W Z H σ (rpZ K Z) Q (f d e) → r [x, y] H Q
theorem VC1.val {r : List V → Hp → VK → Prop} {f : D → O D} (h : VC1 K W r f) : Val K W (rc r) (g1 f) := by
  intro H Z σ vs ds Q n rp hp
  cases rp with
  | nil => exact hp.elim
  | cons p1 rp => cases rp with
    | nil => exact h H Z σ _ _ Q n p1 hp
    | cons _ _ => exact hp.elim
theorem VC1L.val {r : List V → Hp → VK → Prop} {f : D → O (List D)} (h : VC1L K W r f) : ValL K W (rc r) (g1 f) := by
  intro H Z σ vs ds Q n rp hp
  cases rp with
  | nil => exact hp.elim
  | cons p1 rp => cases rp with
    | nil => exact h H Z σ _ _ Q n p1 hp
    | cons _ _ => exact hp.elim
theorem VC2.val {r : List V → Hp → VK → Prop} {f : D → D → O D} (h : VC2 K W r f) : Val K W (rc r) (g2 f) := by
  intro H Z σ vs ds Q n rp hp
  cases rp with
  | nil => exact hp.elim
  | cons p1 rp => cases rp with
    | nil => exact hp.elim
    | cons p2 rp => cases rp with
      | nil => exact h H Z σ _ _ _ _ Q n p1 p2 hp
      | cons _ _ => exact hp.elim
section
variable {x : Str} {p pos : Pos} {e e' : Expr} {F F' : Env → O D} {f : D → O D} {f2 : D → D → O D} {fl : D → O (List D)} {r : List V → Hp → VK → Prop}
theorem sp_b1 {id : String} (hc : CallR X (.builtin id) r) (v : VC1 X.K W r f) (hg : Gl X x) (hm : X.mg x = none) (hv : bootBuiltins x = some (.builtin id)) (h : SP X M W b e F) (hs : noStar [e] = true := by rfl) (hn : x ≠ "__name__" := by decide) (hdb : (x == ("__debug__" : Str)) = false := by decide) :
    SP X M W b (.Call (.Name x p) [e] [] pos) (nd (g1 f) [F]) := sp_node (node_callB hc hg hm hv hs hn hdb) v.val (.cons h .nil)
theorem sp_b2 {id : String} (hc : CallR X (.builtin id) r) (v : VC2 X.K W r f2) (hg : Gl X x) (hm : X.mg x = none) (hv : bootBuiltins x = some (.builtin id)) (h : SP X M W b e F) (h' : SP X M W b e' F') (hs : noStar [e, e'] = true := by rfl) (hn : x ≠ "__name__" := by decide) (hdb : (x == ("__debug__" : Str)) = false := by decide) :
    SP X M W b (.Call (.Name x p) [e, e'] [] pos) (nd (g2 f2) [F, F']) := sp_node (node_callB hc hg hm hv hs hn hdb) v.val (.cons h (.cons h' .nil))
theorem sp_t1 {T : String} (hc : CallR X (.type T) r) (v : VC1 X.K W r f) (hg : Gl X x) (hm : X.mg x = none) (hv : bootBuiltins x = some (.type T)) (h : SP X M W b e F) (hs : noStar [e] = true := by rfl) (hn : x ≠ "__name__" := by decide) (hdb : (x == ("__debug__" : Str)) = false := by decide) :
    SP X M W b (.Call (.Name x p) [e] [] pos) (nd (g1 f) [F]) := sp_node (node_callTy hc hg hm hv hs hn hdb) v.val (.cons h .nil)
theorem spl_t1 {T : String} (hc : CallR X (.type T) r) (v : VC1L X.K W r fl) (hg : Gl X x) (hm : X.mg x = none) (hv : bootBuiltins x = some (.type T)) (h : SP X M W b e F) (hs : noStar [e] = true := by rfl) (hn : x ≠ "__name__" := by decide) (hdb : (x == ("__debug__" : Str)) = false := by decide) :
    SPL X M W b (.Call (.Name x p) [e] [] pos) (nd (g1 fl) [F]) := spl_node (node_callTy hc hg hm hv hs hn hdb) v.val (.cons h .nil)
theorem spl_b1 {id : String} (hc : CallR X (.builtin id) r) (v : VC1L X.K W r fl) (hg : Gl X x) (hm : X.mg x = none) (hv : bootBuiltins x = some (.builtin id)) (h : SP X M W b e F) (hs : noStar [e] = true := by rfl) (hn : x ≠ "__name__" := by decide) (hdb : (x == ("__debug__" : Str)) = false := by decide) :
    SPL X M W b (.Call (.Name x p) [e] [] pos) (nd (g1 fl) [F]) := spl_node (node_callB hc hg hm hv hs hn hdb) v.val (.cons h .nil)
end

/-! len -/
def rLenAll (K : PySem.W.Frag) : List V → Hp → VK → Prop := fun xs H Q => (∃ x n, xs = [x] ∧ LenV K x H n ∧ Q (.int n) H) ∨ (∃ a kvs, xs = [V.ref a] ∧ H a = some (.dK kvs) ∧ Q (.int kvs.length) H)
theorem call_lenAll : CallR X (.builtin "len") (rLenAll X.K) := call_len.or call_lenD
def fLen : D → O D
  | .tup xs => .ok (.int xs.length)
  | .lst xs => .ok (.int xs.length)
  | .scr ns => .ok (.int ns.length)
  | .str x => if x.length ≤ sizeLine then .ok (.int x.length) else .bad
  | _ => .bad
theorem vc_len : VC1 K W (rLenAll K) fLen := by
  intro H Z σ x d Q n h hp
  cases h <;> try exact hp.elim
  · rename_i z
    simp only [fLen] at hp
    split at hp
    · rename_i hz
      exact .inl ⟨_, z.length, rfl, ⟨hz, rfl⟩, hp _ H (Ex.refl H) (.int _)⟩
    · exact hp.elim
  · rename_i a vs ds ha r
    refine .inl ⟨_, vs.length, rfl, .inr ⟨vs, SqT.up ha, rfl⟩, ?_⟩
    rw [r.length]
    exact hp _ H (Ex.refl H) (.int _)
  · rename_i a vs ds ha r
    refine .inl ⟨_, vs.length, rfl, .inl ⟨vs, SqL.of (of_some_vis ha), rfl⟩, ?_⟩
    rw [r.length]
    exact hp _ H (Ex.refl H) (.int _)
  · rename_i a ns ha
    refine .inl ⟨_, (ns.map V.int).length, rfl, .inl ⟨_, ex_l vis_ex ha, rfl⟩, ?_⟩
    rw [List.length_map]
    exact hp _ H (Ex.refl H) (.int _)
/-! abs, int, min, max, str -/
def fAbs : D → O D
  | .int i => .ok (.int (if i < 0 then -i else i))
  | _ => .bad
theorem vc_abs : VC1 K W (fun xs H Q => ∃ i, xs = [.int i] ∧ Q (.int (if i < 0 then -i else i)) H) fAbs := by
  intro H Z σ x d Q n h hp
  cases h <;> try exact hp.elim
  exact ⟨_, rfl, hp _ H (Ex.refl H) (.int _)⟩
def rIntAll : List V → Hp → VK → Prop := fun xs H Q => ((∃ i, xs = [.int i] ∧ Q (.int i) H) ∨ ∃ k, xs = [.bl k] ∧ Q (.int (if k then 1 else 0)) H) ∨ (∃ a n, xs = [.str a] ∧ PySem.intText? a = some n ∧ a.length ≤ 640 ∧ Q (.int n) H)
theorem call_intAll : CallR X (.type "int") rIntAll := call_int1.or call_int_str
def fInt : D → O D
  | .int i => .ok (.int i)
  | .bl k => .ok (.int (if k then 1 else 0))
  | .str a => if a.length ≤ 640 then match PySem.intText? a with
    | some n => .ok (.int n)
    | none => .bad else .bad
  | _ => .bad
theorem vc_int : VC1 K W rIntAll fInt := by
  intro H Z σ x d Q n h hp
  cases h <;> try exact hp.elim
  · exact .inl (.inr ⟨_, rfl, hp _ H (Ex.refl H) (.int _)⟩)
  · exact .inl (.inl ⟨_, rfl, hp _ H (Ex.refl H) (.int _)⟩)
  · simp only [fInt] at hp
    split at hp
    · rename_i hl
      split at hp
      · rename_i m hm
        exact .inr ⟨_, m, rfl, hm, hl, hp _ H (Ex.refl H) (.int _)⟩
      · exact hp.elim
    · exact hp.elim
def fMin2 : D → D → O D := fI (fun _ _ => true) fun i j => .int (if j < i then j else i)
def fMax2 : D → D → O D := fI (fun _ _ => true) fun i j => .int (if j > i then j else i)
theorem vc_min2 : VC2 K W (fun xs H Q => ∃ i j, xs = [.int i, .int j] ∧ Q (.int (if j < i then j else i)) H) fMin2 := by
  intro H Z σ x y d e Q n h1 h2 hp
  cases h1 <;> try exact hp.elim
  cases h2 <;> try exact hp.elim
  exact ⟨_, _, rfl, hp _ H (Ex.refl H) (.int _)⟩
theorem vc_max2 : VC2 K W (fun xs H Q => ∃ i j, xs = [.int i, .int j] ∧ Q (.int (if j > i then j else i)) H) fMax2 := by
  intro H Z σ x y d e Q n h1 h2 hp
  cases h1 <;> try exact hp.elim
  cases h2 <;> try exact hp.elim
  exact ⟨_, _, rfl, hp _ H (Ex.refl H) (.int _)⟩
def fStr : D → O D
  | .int i => if i.natAbs.log2 < 1920 then .ok (.str (toString i)) else .bad
  | _ => .bad
theorem vc_str : VC1 K W (fun xs H Q => ∃ i, xs = [.int i] ∧ i.natAbs.log2 < 1920 ∧ Q (.str (toString i)) H) fStr := by
  intro H Z σ x d Q n h hp
  cases h <;> try exact hp.elim
  simp only [fStr] at hp
  split at hp
  · rename_i hl
    exact ⟨_, rfl, hl, hp _ H (Ex.refl H) (.str _)⟩
  · exact hp.elim
/-! list, tuple -/
def fListL : D → O (List D)
  | .tup xs => .ok xs
  | .lst xs => .ok xs
  | _ => .bad
theorem vc_list : VC1L K W (fun xs H Q => ∃ p ys, xs = [.ref p] ∧ (SqL K H p ys ∨ SqT K H p ys) ∧ ∀ l, H l = none → Q (.ref l) (upd H l (.lst ys))) fListL := by
  intro H Z σ x d Q n h hp
  cases h <;> try exact hp.elim
  · rename_i a vs ds ha r
    exact ⟨a, vs, rfl, .inr (SqT.up ha), fun p hn => hp _ _ (Ex.new hn) ⟨p, _, rfl, hn, upd_same, r.mono (vis_mono (Ex.new hn))⟩⟩
  · rename_i a vs ds ha r
    exact ⟨a, vs, rfl, .inl (SqL.of (of_some_vis ha)), fun p hn => hp _ _ (Ex.new hn) ⟨p, _, rfl, hn, upd_same, r.mono (vis_mono (Ex.new hn))⟩⟩
def fTuple : D → O D
  | .tup xs => .ok (.tup xs)
  | .lst xs => .ok (.tup xs)
  | _ => .bad
theorem vc_tuple : VC1 K W (fun xs H Q => ∃ p ys, xs = [.ref p] ∧ ((SqL K H p ys ∧ ∀ l, H l = none → Q (.ref l) (upd H l (.tup ys))) ∨ (SqT K H p ys ∧ Q (.ref p) H))) fTuple := by
  intro H Z σ x d Q n h hp
  cases h <;> try exact hp.elim
  · rename_i a vs ds ha r
    exact ⟨a, vs, rfl, .inr ⟨SqT.up ha, hp _ H (Ex.refl H) (.tup ha r)⟩⟩
  · rename_i a vs ds ha r
    exact ⟨a, vs, rfl, .inl ⟨SqL.of (of_some_vis ha), fun p hn => Po_new hp hn (.tup (SqT.of (fresh_vis n hn)) (r.mono (vis_mono (Ex.new hn))))⟩⟩
/-! all, any, sum -/
def bls : List D → Option (List Bool)
  | [] => some []
  | .bl k :: r => (bls r).map (k :: ·)
  | _ :: _ => none
def intsD : List D → Option (List Int)
  | [] => some []
  | .int k :: r => (intsD r).map (k :: ·)
  | _ :: _ => none
theorem bls_ok {H : Hp} : ∀ {vs : List V} {ds : List D} {bs : List Bool}, RpL K H vs ds → bls ds = some bs → vs = bs.map V.bl
  | _, _, _, .nil, h => by simp [bls] at h; subst h; rfl
  | _, _, _, .cons r t, h => by
    cases r <;> simp [bls] at h
    obtain ⟨bs, h1, rfl⟩ := h
    rw [bls_ok t h1]; rfl
theorem intsD_ok {H : Hp} : ∀ {vs : List V} {ds : List D} {bs : List Int}, RpL K H vs ds → intsD ds = some bs → vs = bs.map V.int
  | _, _, _, .nil, h => by simp [intsD] at h; subst h; rfl
  | _, _, _, .cons r t, h => by
    cases r <;> simp [intsD] at h
    obtain ⟨bs, h1, rfl⟩ := h
    rw [intsD_ok t h1]; rfl
def fAll : D → O D
  | .lst xs => match bls xs with
    | some bs => .ok (.bl (bs.all id))
    | none => .bad
  | _ => .bad
def fAny : D → O D
  | .lst xs => match bls xs with
    | some bs => .ok (.bl (bs.any id))
    | none => .bad
  | _ => .bad
def fSum : D → O D
  | .lst xs => match intsD xs with
    | some bs => .ok (.int bs.sum)
    | none => .bad
  | _ => .bad
theorem vc_all : VC1 K W (rAll K) fAll := by
  intro H Z σ x d Q n h hp
  cases h <;> try exact hp.elim
  rename_i a vs ds ha r
  simp only [fAll] at hp
  split at hp
  · rename_i bs hb
    have hv := bls_ok r hb
    subst hv
    exact ⟨a, bs, rfl, SqL.of (of_some_vis ha), hp _ H (Ex.refl H) (.bl _)⟩
  · exact hp.elim
theorem vc_any : VC1 K W (rAny K) fAny := by
  intro H Z σ x d Q n h hp
  cases h <;> try exact hp.elim
  rename_i a vs ds ha r
  simp only [fAny] at hp
  split at hp
  · rename_i bs hb
    have hv := bls_ok r hb
    subst hv
    exact ⟨a, bs, rfl, SqL.of (of_some_vis ha), hp _ H (Ex.refl H) (.bl _)⟩
  · exact hp.elim
theorem vc_sum : VC1 K W (rSum K) fSum := by
  intro H Z σ x d Q n h hp
  cases h <;> try exact hp.elim
  rename_i a vs ds ha r
  simp only [fSum] at hp
  split at hp
  · rename_i bs hb
    have hv := intsD_ok r hb
    subst hv
    exact ⟨a, bs, rfl, SqL.of (of_some_vis ha), hp _ H (Ex.refl H) (.int _)⟩
  · exact hp.elim
/-! isinstance -/
/-- the name of the type of what stands for d -/
inductive Ty where
  | b (n : String)
  | own (c : Str)
  deriving DecidableEq
def tyD : D → Ty
  | .non => .b "NoneType"
  | .bl _ => .b "bool"
  | .int _ => .b "int"
  | .str _ => .b "str"
  | .tup _ => .b "tuple"
  | .lst _ => .b "list"
  | .dic _ => .b "dict"
  | .ins c _ => .own c
  | .exc c _ => .own c
  | .scr _ => .b "list"
def tyV (K : PySem.W.Frag) : Ty → Value
  | .b n => .type n
  | .own c => .ref (He.ga K c)
end
end Rf

namespace Rf
open PySem PySem.Spec PyProof.Rows L2

/-! things that change what the slots own -/
def PoE {α β : Type} (K : PySem.W.Frag) (M : List Nat) (W : WX) (U : AS) (S : Nat → AS) (H : Hp) (σ : L2.St) (rel : (Nat → AS) → Hp → β → α → Prop) (Q : β → Hp → Prop) : R α → Prop
  | .ok a env' => ∀ v H' S', Post K M U S H σ S' H' env' → rel S' H' v a → Q v H'
  | .exc c d env' => ∀ dx v H' S', Post K M U S H σ S' H' env' → H' dx = some (.xd [("value", v)]) → ¬ zo U S' dx → Rp K (vis H' (zo U S')) v d → W (.ref (He.ga K c)) (some dx) σ H'
  | .bad => False
/-- kept -/
abbrev rpE (K : PySem.W.Frag) (U : AS) : (Nat → AS) → Hp → V → D → Prop := fun S' H' v d => Rp K (vis H' (zo U S')) v d
abbrev rlE (K : PySem.W.Frag) (U : AS) : (Nat → AS) → Hp → List V → List D → Prop := fun S' H' v d => RpL K (vis H' (zo U S')) v d
abbrev eqE : (Nat → AS) → Hp → Bool → Bool → Prop := fun _ _ b c => b = c
abbrev un (U T : AS) : AS := fun a => U a ∨ T a
/-- owned, by nobody else -/
def PoO (K : PySem.W.Frag) (M : List Nat) (W : WX) (U : AS) (S : Nat → AS) (H : Hp) (σ : L2.St) (Q : VK) : R D → Prop
  | .ok d env' => ∀ v H' S' T, Post K M U S H σ S' H' env' → Rel K M (un U T) S' H' σ env' → Ow K H' v d T → (∀ a, T a → ¬ U a) → (∀ a, T a → (∃ j, S j a) ∨ H a = none) → Q v H'
  | .exc c d env' => ∀ dx v H' S', Post K M U S H σ S' H' env' → H' dx = some (.xd [("value", v)]) → ¬ zo U S' dx → Rp K (vis H' (zo U S')) v d → W (.ref (He.ga K c)) (some dx) σ H'
  | .bad => False
def SE (X : Cx) (M : List Nat) (W : WX) (e : Expr) (F : Env → R D) : Prop :=
  ∃ t : TE, PE X e t ∧ ∀ σ H env U S, Rel X.K M U S H σ env → ∀ Q, PoE X.K M W U S H σ (rpE X.K U) Q (F env) → t σ H Q
def SO (X : Cx) (M : List Nat) (W : WX) (e : Expr) (F : Env → R D) : Prop :=
  ∃ t : TE, PE X e t ∧ ∀ σ H env U S, Rel X.K M U S H σ env → ∀ Q, PoO X.K M W U S H σ Q (F env) → t σ H Q
def STe (X : Cx) (M : List Nat) (W : WX) (e : Expr) (F : Env → R Bool) : Prop :=
  ∃ t : TT, PT X e t ∧ ∀ σ H env U S, Rel X.K M U S H σ env → ∀ Q, PoE X.K M W U S H σ eqE Q (F env) → t σ H Q
section
variable {α β γ δ : Type} {K : PySem.W.Frag} {M : List Nat} {W : WX} {U : AS} {S : Nat → AS} {H : Hp} {σ : L2.St} {env : Env}
theorem PoE.up {rel : (Nat → AS) → Hp → δ → β → Prop} {Q : δ → Hp → Prop} {S1 : Nat → AS} {H1 : Hp} {e1 : Env} {y : R β} (p : Post K M U S H σ S1 H1 e1) (h : PoE K M W U S H σ rel Q y) : PoE K M W U S1 H1 σ rel Q y := by
  cases y with
  | ok b e => exact fun v H' S' q r => h v H' S' (p.trans q) r
  | exc c d e => exact fun dx v H' S' q x z r => h dx v H' S' (p.trans q) x z r
  | bad => exact h
theorem PoE.step {rel1 : (Nat → AS) → Hp → γ → α → Prop} {rel2 : (Nat → AS) → Hp → δ → β → Prop} {Q : δ → Hp → Prop} {Q1 : γ → Hp → Prop} {x : R α} {f : α → Env → R β} (h : PoE K M W U S H σ rel2 Q (x.bind f))
    (k : ∀ a env1 v H1 S1, x = .ok a env1 → Post K M U S H σ S1 H1 env1 → rel1 S1 H1 v a → PoE K M W U S1 H1 σ rel2 Q (f a env1) → Q1 v H1) : PoE K M W U S H σ rel1 Q1 x := by
  cases x with
  | ok a e => exact fun v H1 S1 p r => k a e v H1 S1 rfl p r (PoE.up p h)
  | exc c d e => exact h
  | bad => exact h
/-- a pure outcome is one that changes nothing -/
theorem PoE.pure {rel : (Nat → AS) → Hp → δ → β → Prop} {rel0 : Hp → δ → β → Prop} {Q : δ → Hp → Prop} {y : O β} (r : Rel K M U S H σ env) (h : PoE K M W U S H σ rel Q (y.at env)) (hr : ∀ H' v a, Ex H H' → rel0 H' v a → rel S H' v a) : Po K W (zo U S) H σ rel0 Q y := by
  cases y with
  | ok b => exact fun v H' ex rr => h v H' S (r.post ex) (hr H' v b ex rr)
  | exc c d => exact fun dx v H' ex nz x rr => h dx v H' S (r.post ex) x nz rr
  | bad => exact h
end
section
variable {K : PySem.W.Frag} {M : List Nat} {U T : AS} {S : Nat → AS} {H H' : Hp} {σ : L2.St} {env : Env}
theorem Rel.out_eq {U' : AS} (r : Rel K M U S H σ env) (h : ∀ a, U' a ↔ U a) : Rel K M U' S H σ env := by
  have : U' = U := funext fun a => propext (h a)
  subst this
  exact r
/-- new things hidden -/
theorem Rel.hide (r : Rel K M U S H σ env) (e : Ex H H') (f : ∀ a, T a → H a = none) (n : Nt H' T) : Rel K M (un U T) S H' σ env where
  own := (r.mono e).own
  frz := fun i d hi he => by
    obtain ⟨v, h1, h2⟩ := r.frz i d hi he
    refine ⟨v, h1, h2.mono fun a o h => ?_⟩
    obtain ⟨h3, h4⟩ := of_vis h
    refine vis_in (e a o h3) fun z => ?_
    rcases z with (z | z) | z
    · exact h4 (.inl z)
    · rw [f a z] at h3; cases h3
    · exact h4 (.inr z)
  dis := r.dis
  out := fun i a z u => by
    rcases u with u | u
    · exact r.out i a z u
    · exact (r.nt a (.inr ⟨i, z⟩)).1 (f a u)
  nt := fun a z => by
    rcases z with (z | z) | z
    · exact (r.nt.new e) a (.inl z)
    · exact n a z
    · exact (r.nt.new e) a (.inr z)
  len := r.len
end
section
variable {X : Cx} {M : List Nat} {W : WX} {e : Expr}
def lift (F : Env → O D) : Env → R D := fun env => (F env).at env
def liftB (F : Env → O Bool) : Env → R Bool := fun env => (F env).at env
theorem SP.se {F : Env → O D} (h : SP X M W true e F) : SE X M W e (lift F) := by
  obtain ⟨t, p, q⟩ := h
  refine ⟨t, p, fun σ H env U S r Q hp => q σ H env U S r Q ?_⟩
  rw [zb_true]
  exact PoE.pure r hp fun _ _ _ _ h => h
theorem STp.ste {F : Env → O Bool} (h : STp X M W true e F) : STe X M W e (liftB F) := by
  obtain ⟨t, p, q⟩ := h
  refine ⟨t, p, fun σ H env U S r Q hp => q σ H env U S r Q ?_⟩
  rw [zb_true]
  exact PoE.pure r hp fun _ _ _ _ h => h
/-- a test of what is looked at (an exception is refused) -/
theorem STp.look {F : Env → O Bool} (h : STp X M W false e F) : STp X M W true e (fun env => noX (F env)) := by
  obtain ⟨t, p, q⟩ := h
  refine ⟨t, p, fun σ H env U S r Q hp => q σ H env U S r Q ?_⟩
  dsimp only at hp
  cases hF : F env with
  | ok d => rw [hF] at hp; exact hp
  | exc c d => rw [hF] at hp; exact hp.elim
  | bad => rw [hF] at hp; exact hp.elim
theorem SO.se {F : Env → R D} (h : SO X M W e F) : SE X M W e F := by
  obtain ⟨t, p, q⟩ := h
  refine ⟨t, p, fun σ H env U S r Q hp => q σ H env U S r Q ?_⟩
  cases hF : F env with
  | ok d env' =>
    rw [hF] at hp
    intro v H' S' T po rl ow nu _
    refine hp v H' S' po (ow.vis po.rel.nt fun a ta z => ?_)
    rcases z with z | ⟨i, z⟩
    · exact nu a ta z
    · exact rl.out i a z (.inr ta)
  | exc c d env' => rw [hF] at hp; exact hp
  | bad => rw [hF] at hp; exact hp
/-- a new list of immutable things -/
def liftL (F : Env → O (List D)) : Env → R D := fun env => match F env with
  | .ok ds => if immL ds then .ok (.lst ds) env else .bad
  | .exc c d => .bad
  | .bad => .bad
theorem immL_ow {K : PySem.W.Frag} {H : Hp} : ∀ {vs : List V} {ds : List D}, immL ds = true → RpL K H vs ds → OwL K H vs ds (fun _ => False)
  | _, _, _, .nil => .nil fun _ h => h
  | _, _, i, .cons r t => by
    simp only [Rf.immL, Bool.and_eq_true] at i
    exact .cons (T := fun _ => False) (R := fun _ => False) (.leaf i.1 r fun _ h => h) (immL_ow i.2 t) (fun _ h => h.elim) fun b => by simp
theorem SPL.so {b : Bool} {F : Env → O (List D)} (h : SPL X M W b e F) : SO X M W e (liftL F) := by
  obtain ⟨t, p, q⟩ := h
  refine ⟨t, p, fun σ H env U S r Q hp => q σ H env U S r Q ?_⟩
  unfold liftL at hp
  cases hF : F env with
  | ok ds =>
    rw [hF] at hp
    simp only at hp
    cases hi : immL ds with
    | false => rw [hi] at hp; exact (show False by simpa [PoO] using hp).elim
    | true =>
      rw [hi] at hp
      rintro v H' ex ⟨p, vs, rfl, hn, hl, rp⟩
      have ow : Ow X.K H' (.ref p) (.lst ds) (fun a => a = p) := .lst hl (immL_ow hi (rp.mono vis_ex)) (fun z => z) (fun b => by simp)
      refine hp _ H' S _ (r.post ex) (r.hide ex (fun a e => by subst e; exact hn) ow.nt) ow ?_ ?_
      · rintro a rfl z
        exact (r.nt _ (.inl z)).1 hn
      · rintro a rfl
        exact .inr hn
  | exc c d => rw [hF] at hp; exact hp.elim
  | bad => rw [hF] at hp; exact hp.elim
/-- what is immutable is owned -/
def ownI : R D → R D
  | .ok d e => if imm d then .ok d e else .bad
  | _ => .bad
theorem SE.so {F : Env → R D} (h : SE X M W e F) : SO X M W e (fun env => ownI (F env)) := by
  obtain ⟨t, p, q⟩ := h
  refine ⟨t, p, fun σ H env U S r Q hp => q σ H env U S r Q ?_⟩
  dsimp only at hp
  cases hF : F env with
  | ok d env' =>
    rw [hF] at hp
    simp only [ownI] at hp
    cases hi : imm d with
    | false => rw [hi] at hp; exact (show False by simpa [PoO] using hp).elim
    | true =>
      rw [hi] at hp
      intro v H' S' po rp
      exact hp v H' S' (fun _ => False) po (po.rel.out_eq fun a => by simp [un]) (.leaf hi (rp.mono vis_ex) (fun _ h => h)) (fun _ h => h.elim) fun _ h => h.elim
  | exc c d env' => rw [hF] at hp; exact hp.elim
  | bad => rw [hF] at hp; exact hp.elim

/-! nodes -/
inductive SEs (X : Cx) (M : List Nat) (W : WX) : List Expr → List (Env → R D) → Prop
  | nil : SEs X M W [] []
  | cons {e : Expr} {es : List Expr} {F : Env → R D} {Fs : List (Env → R D)} : SE X M W e F → SEs X M W es Fs → SEs X M W (e :: es) (F :: Fs)
def seqR : List (Env → R D) → Env → R (List D)
  | [], env => .ok [] env
  | F :: Fs, env => (F env).bind fun d env => (seqR Fs env).bind fun ds env => .ok (d :: ds) env
def nr {α : Type} (g : List D → O α) (Fs : List (Env → R D)) : Env → R α := fun env => (seqR Fs env).bind fun ds env => (g ds).at env
theorem ses_run {es : List Expr} {Fs : List (Env → R D)} (h : SEs X M W es Fs) : ∃ ts, PEs X es ts ∧ ∀ σ H env U S, Rel X.K M U S H σ env → ∀ (k : List V → Hp → Prop),
    PoE X.K M W U S H σ (rlE X.K U) k (seqR Fs env) → sq ts σ H k := by
  induction h with
  | nil => exact ⟨[], .nil, fun σ H env U S r k h => h [] H S (r.post (Ex.refl H)) .nil⟩
  | @cons e es F Fs h1 _ ih =>
    obtain ⟨t, p, q⟩ := h1
    obtain ⟨ts, ps, qs⟩ := ih
    refine ⟨t :: ts, .cons p ps, fun σ H env U S r k h => ?_⟩
    refine q σ H env U S r _ (PoE.step h fun d env1 v H1 S1 hF p1 r1 h1 => ?_)
    refine qs σ H1 env1 U S1 p1.rel _ (PoE.step h1 fun ds env2 vs H2 S2 hFs p2 r2 h2 => ?_)
    exact h2 (v :: vs) H2 S2 (p2.rel.post (Ex.refl H2)) (.cons (r1.mono p2.vis) r2)
theorem se_node {es : List Expr} {r : RN} {g : List D → O D} {Fs : List (Env → R D)} (n : Node X es e r) (v : Val X.K W r g) (h : SEs X M W es Fs) : SE X M W e (nr g Fs) := by
  obtain ⟨ts, ps, qs⟩ := ses_run h
  obtain ⟨t, p, q⟩ := n ts ps
  refine ⟨t, p, fun σ H env U S rl Q hp => q σ H Q (qs σ H env U S rl _ (PoE.step hp fun ds env1 vs H1 S1 hF p1 r1 h1 => ?_))⟩
  exact v H1 _ σ vs ds Q p1.rel.nt r1 (PoE.pure p1.rel h1 fun _ _ _ _ h => h)
end
end Rf

namespace Rf
open PySem PySem.Spec PyProof.Rows L2

/-! statements -/
inductive Fl where
  | nx (e : Env)
  | rt (d : D) (e : Env)
  | exc (c : Str) (d : D) (e : Env)
  | bad
/-- G: the frame's place: M the slots that own, Pm those that must stay bound to what they hold -/
structure Pl where
  M : List Nat
  Pm : List Nat
  ro : Bool
structure PostS (K : PySem.W.Frag) (G : Pl) (U : AS) (S : Nat → AS) (H : Hp) (σ : L2.St) (S' : Nat → AS) (H' : Hp) (σ' : L2.St) (env' : Env) : Prop where
  rel : Rel K G.M U S' H' σ' env'
  keep : ∀ a o, H a = some o → (∀ i, ¬ S i a) → H' a = some o
  grow : ∀ i a, S' i a → (∃ j, S j a) ∨ H a = none
  prot : ∀ i, i ∈ G.Pm → σ'[i]? = σ[i]?
def Res (K : PySem.W.Frag) (ro : Bool) (U : AS) (S : Nat → AS) (H : Hp) (S' : Nat → AS) (H' : Hp) (v : V) (d : D) : Prop := match ro with
  | true => ∃ T : AS, Ow K H' v d T ∧ (∀ a, T a → ¬ zo U S' a) ∧ ∀ a, T a → (∃ j, S j a) ∨ H a = none
  | false => Rp K (vis H' (zo U S')) v d
def PoS (K : PySem.W.Frag) (G : Pl) (W : WX) (U : AS) (S : Nat → AS) (H : Hp) (σ : L2.St) (E : Ends) : Fl → Prop
  | .nx env' => ∀ σ' H' S', PostS K G U S H σ S' H' σ' env' → E.nx σ' H'
  | .rt d env' => ∀ v σ' H' S', PostS K G U S H σ S' H' σ' env' → Res K G.ro U S H S' H' v d → E.rt v H'
  | .exc c d env' => ∀ dx v σ' H' S', PostS K G U S H σ S' H' σ' env' → H' dx = some (.xd [("value", v)]) → ¬ zo U S' dx → Rp K (vis H' (zo U S')) v d → W (.ref (He.ga K c)) (some dx) σ' H'
  | .bad => False
def SS (X : Cx) (G : Pl) (W : WX) (st : Stmt) (B : Env → Fl) : Prop :=
  ∃ t : TS, PS X st t ∧ ∀ σ H env U S, Rel X.K G.M U S H σ env → ∀ E, PoS X.K G W U S H σ E (B env) → t E σ H
def SSs (X : Cx) (G : Pl) (W : WX) (st : List Stmt) (B : Env → Fl) : Prop :=
  ∃ t : TS, PSs X st t ∧ ∀ σ H env U S, Rel X.K G.M U S H σ env → ∀ E, PoS X.K G W U S H σ E (B env) → t E σ H
section
variable {K : PySem.W.Frag} {G : Pl} {W : WX} {U : AS} {S S1 S2 : Nat → AS} {H H1 H2 : Hp} {σ σ1 σ2 : L2.St} {env e1 e2 : Env} {E : Ends}
theorem PostS.refl (r : Rel K G.M U S H σ env) : PostS K G U S H σ S H σ env := ⟨r, fun _ _ h _ => h, fun i _ h => .inl ⟨i, h⟩, fun _ _ => rfl⟩
theorem PostS.of (p : Post K G.M U S H σ S1 H1 e1) : PostS K G U S H σ S1 H1 σ e1 := ⟨p.rel, p.keep, p.grow, fun _ _ => rfl⟩
theorem PostS.trans (a : PostS K G U S H σ S1 H1 σ1 e1) (b : PostS K G U S1 H1 σ1 S2 H2 σ2 e2) : PostS K G U S H σ S2 H2 σ2 e2 where
  rel := b.rel
  keep := fun x o h n => by
    refine b.keep x o (a.keep x o h n) fun i z => ?_
    rcases a.grow i x z with ⟨j, q⟩ | q
    · exact n j q
    · rw [q] at h; cases h
  grow := fun i x z => by
    rcases b.grow i x z with ⟨j, q⟩ | q
    · exact a.grow j x q
    · cases h : H x with
      | none => exact .inr rfl
      | some o =>
        left
        refine Classical.byContradiction fun n => ?_
        rw [a.keep x o h fun j w => n ⟨j, w⟩] at q
        cases q
  prot := fun i hi => (b.prot i hi).trans (a.prot i hi)
theorem Res.up {S' : Nat → AS} {H' : Hp} {v : V} {d : D} (p : PostS K G U S H σ S1 H1 σ1 e1) (r : Res K G.ro U S1 H1 S' H' v d) : Res K G.ro U S H S' H' v d := by
  unfold Res at r ⊢
  cases hg : G.ro with
  | false => rw [hg] at r; exact r
  | true =>
    rw [hg] at r
    obtain ⟨T, ow, nz, gr⟩ := r
    refine ⟨T, ow, nz, fun a ta => ?_⟩
    rcases gr a ta with ⟨j, q⟩ | q
    · exact p.grow j a q
    · cases h : H a with
      | none => exact .inr rfl
      | some o =>
        left
        refine Classical.byContradiction fun n => ?_
        rw [p.keep a o h fun j w => n ⟨j, w⟩] at q
        cases q
theorem PoS.up {f : Fl} (p : PostS K G U S H σ S1 H1 σ1 e1) (h : PoS K G W U S H σ E f) : PoS K G W U S1 H1 σ1 E f := by
  cases f with
  | nx e => exact fun σ' H' S' q => h σ' H' S' (p.trans q)
  | rt d e => exact fun v σ' H' S' q r => h v σ' H' S' (p.trans q) (r.up p)
  | exc c d e => exact fun dx v σ' H' S' q x z r => h dx v σ' H' S' (p.trans q) x z r
  | bad => exact h
def seqB (A B : Env → Fl) : Env → Fl := fun env => match A env with
  | .nx e => B e
  | .rt d e => .rt d e
  | .exc c d e => .exc c d e
  | .bad => .bad
theorem PoS.seq {A B : Env → Fl} {u : L2.St → Hp → Prop} (h : PoS K G W U S H σ E (seqB A B env)) (k : ∀ e σ' H' S', A env = .nx e → PostS K G U S H σ S' H' σ' e → PoS K G W U S' H' σ' E (B e) → u σ' H') : PoS K G W U S H σ { E with nx := u } (A env) := by
  unfold seqB at h
  cases hA : A env with
  | nx e => rw [hA] at h; exact fun σ' H' S' p => k e σ' H' S' hA p (PoS.up p h)
  | rt d e => rw [hA] at h; exact h
  | exc c d e => rw [hA] at h; exact h
  | bad => rw [hA] at h; exact h
end
section
variable {X : Cx} {G : Pl} {W : WX} {pos : Pos} {st : Stmt} {rest : List Stmt} {A B : Env → Fl}
def sNil : Env → Fl := fun env => .nx env
theorem ss_nil : SSs X G W [] sNil := ⟨_, pss_nil, fun σ H env U S r E h => h σ H S (PostS.refl r)⟩
theorem ss_cons (h1 : SS X G W st A) (h2 : SSs X G W rest B) : SSs X G W (st :: rest) (seqB A B) := by
  obtain ⟨t, p, q⟩ := h1
  obtain ⟨t2, p2, q2⟩ := h2
  refine ⟨_, pss_cons p p2, fun σ H env U S r E h => q σ H env U S r _ (PoS.seq h fun e σ' H' S' hA po h' => ?_)⟩
  exact q2 σ' H' e U S' po.rel E h'
theorem ss_one (h1 : SS X G W st A) : SSs X G W [st] A := by
  obtain ⟨t, p, q⟩ := h1
  exact ⟨_, pss_one p, q⟩
theorem s_pass : SS X G W (.Pass pos) sNil := ⟨_, ps_pass, fun σ H env U S r E h => h σ H S (PostS.refl r)⟩
/-! return -/
def sRet (F : Env → R D) : Env → Fl := fun env => match F env with
  | .ok d e => .rt d e
  | .exc c d e => .exc c d e
  | .bad => .bad
theorem s_ret {e : Expr} {F : Env → R D} (hG : G.ro = false) (h : SE X G.M W e F) : SS X G W (.Return (some e) pos) (sRet F) := by
  obtain ⟨t, p, q⟩ := h
  refine ⟨_, ps_ret p, fun σ H env U S r E h => q σ H env U S r _ ?_⟩
  unfold sRet at h
  cases hF : F env with
  | ok d e => rw [hF] at h; exact fun v H' S' po rp => h v σ H' S' (.of po) (by unfold Res; rw [hG]; exact rp)
  | exc c d e => rw [hF] at h; exact fun dx v H' S' po x z rp => h dx v σ H' S' (.of po) x z rp
  | bad => rw [hF] at h; exact h
theorem s_retO {e : Expr} {F : Env → R D} (hG : G.ro = true) (h : SO X G.M W e F) : SS X G W (.Return (some e) pos) (sRet F) := by
  obtain ⟨t, p, q⟩ := h
  refine ⟨_, ps_ret p, fun σ H env U S r E h => q σ H env U S r _ ?_⟩
  unfold sRet at h
  cases hF : F env with
  | ok d e =>
    rw [hF] at h
    intro v H' S' T po rl ow nu gr
    refine h v σ H' S' (.of po) ?_
    unfold Res
    rw [hG]
    refine ⟨T, ow, fun a ta z => ?_, gr⟩
    rcases z with z | ⟨i, z⟩
    · exact nu a ta z
    · exact rl.out i a z (.inr ta)
  | exc c d e => rw [hF] at h; exact fun dx v H' S' po x z rp => h dx v σ H' S' (.of po) x z rp
  | bad => rw [hF] at h; exact h
def sRetN : Env → Fl := fun env => .rt .non env
theorem s_retN : SS X G W (.Return none pos) sRetN := by
  refine ⟨_, ps_retN, fun σ H env U S r E h => h .non σ H S (PostS.refl r) ?_⟩
  unfold Res
  cases G.ro with
  | false => exact .non
  | true => exact ⟨fun _ => False, .leaf rfl .non (fun _ h => h), fun _ h => h.elim, fun _ h => h.elim⟩
/-! if -/
def sIf (C : Env → R Bool) (A B : Env → Fl) : Env → Fl := fun env => match C env with
  | .ok k e => if k then A e else B e
  | .exc c d e => .exc c d e
  | .bad => .bad
theorem s_if {c : Expr} {a b : List Stmt} {C : Env → R Bool} (hc : STe X G.M W c C) (h1 : SSs X G W a A) (h2 : SSs X G W b B) : SS X G W (.If c a b pos) (sIf C A B) := by
  obtain ⟨tc, pc, qc⟩ := hc
  obtain ⟨t1, p1, q1⟩ := h1
  obtain ⟨t2, p2, q2⟩ := h2
  refine ⟨_, ps_if pc p1 p2, fun σ H env U S r E h => qc σ H env U S r _ ?_⟩
  unfold sIf at h
  cases hC : C env with
  | ok k e =>
    rw [hC] at h
    rintro v H' S' po rfl
    have h' := PoS.up (.of po) h
    cases v with
    | true => exact q1 σ H' e U S' po.rel E h'
    | false => exact q2 σ H' e U S' po.rel E h'
  | exc c d e => rw [hC] at h; exact fun dx v H' S' po x z rp => h dx v σ H' S' (.of po) x z rp
  | bad => rw [hC] at h; exact h
/-! an expression as a statement -/
def sDrop (F : Env → R D) : Env → Fl := fun env => match F env with
  | .ok _ e => .nx e
  | .exc c d e => .exc c d e
  | .bad => .bad
theorem s_expr {e : Expr} {F : Env → R D} (h : SE X G.M W e F) (hs : swapsWith e none pos.line X.env = pure false := by rfl) : SS X G W (.Expr e pos) (sDrop F) := by
  obtain ⟨t, p, q⟩ := h
  refine ⟨_, ps_expr p hs, fun σ H env U S r E h => q σ H env U S r _ ?_⟩
  unfold sDrop at h
  cases hF : F env with
  | ok d e => rw [hF] at h; exact fun v H' S' po rp => h σ H' S' (.of po)
  | exc c d e => rw [hF] at h; exact fun dx v H' S' po x z rp => h dx v σ H' S' (.of po) x z rp
  | bad => rw [hF] at h; exact h
end
/-! stores -/
section
variable {K : PySem.W.Frag} {M : List Nat} {U : AS} {S : Nat → AS} {H : Hp} {σ : L2.St} {env : Env} {i : Nat} {v : V} {d : D}
theorem set_get {α : Type} {l : List α} {i j : Nat} {x y : α} (h : (l.set i x)[j]? = some y) : (j = i ∧ y = x ∧ i < l.length) ∨ (j ≠ i ∧ l[j]? = some y) := by
  by_cases e : j = i
  · subst e
    by_cases hl : j < l.length
    · rw [List.getElem?_set_self hl] at h; exact .inl ⟨rfl, (Option.some.inj h).symm, hl⟩
    · rw [List.getElem?_eq_none (by simpa using hl)] at h; cases h
  · rw [List.getElem?_set_ne (Ne.symm e)] at h; exact .inr ⟨e, h⟩
theorem Rel.set (r : Rel K M U S H σ env) (hi : i ∉ M) (rp : Rp K (vis H (zo U S)) v d) : Rel K M U S H (σ.set i (some v)) (env.set i (some d)) where
  own := fun j d' hj he => by
    rcases set_get he with ⟨rfl, _, _⟩ | ⟨ne, he⟩
    · exact absurd hj hi
    · obtain ⟨w, h1, h2⟩ := r.own j d' hj he
      exact ⟨w, by rw [List.getElem?_set_ne (Ne.symm ne)]; exact h1, h2⟩
  frz := fun j d' hj he => by
    rcases set_get he with ⟨rfl, hd, hl⟩ | ⟨ne, he⟩
    · cases hd
      exact ⟨v, List.getElem?_set_self (by rw [← r.len]; exact hl), rp⟩
    · obtain ⟨w, h1, h2⟩ := r.frz j d' hj he
      exact ⟨w, by rw [List.getElem?_set_ne (Ne.symm ne)]; exact h1, h2⟩
  dis := r.dis
  out := r.out
  nt := r.nt
  len := by simpa using r.len
open Classical in
/-- an owned thing is stored in an owning slot -/
theorem Rel.setO {T : AS} (r : Rel K M (un U T) S H σ env) (hi : i ∈ M) (ow : Ow K H v d T) (nu : ∀ a, T a → ¬ U a) : Rel K M U (fun j => if j = i then T else S j) H (σ.set i (some v)) (env.set i (some d)) where
  own := fun j d' hj he => by
    rcases set_get he with ⟨rfl, hd, hl⟩ | ⟨ne, he⟩
    · cases hd
      refine ⟨v, List.getElem?_set_self (by rw [← r.len]; exact hl), ?_⟩
      simpa using ow
    · obtain ⟨w, h1, h2⟩ := r.own j d' hj he
      refine ⟨w, by rw [List.getElem?_set_ne (Ne.symm ne)]; exact h1, ?_⟩
      simpa [ne] using h2
  frz := fun j d' hj he => by
    rcases set_get he with ⟨rfl, _, _⟩ | ⟨ne, he⟩
    · exact absurd hi hj
    · obtain ⟨w, h1, h2⟩ := r.frz j d' hj he
      refine ⟨w, by rw [List.getElem?_set_ne (Ne.symm ne)]; exact h1, h2.mono fun a o h => ?_⟩
      obtain ⟨h3, h4⟩ := of_vis h
      refine vis_in h3 fun z => h4 ?_
      rcases z with z | ⟨k, z⟩
      · exact .inl (.inl z)
      · by_cases hk : k = i
        · rw [if_pos hk] at z; exact .inl (.inr z)
        · rw [if_neg hk] at z; exact .inr ⟨k, z⟩
  dis := fun j k a ne h1 h2 => by
    by_cases hj : j = i
    · rw [if_pos hj] at h1
      have hk : ¬ k = i := fun e => ne (hj.trans e.symm)
      rw [if_neg hk] at h2
      exact r.out k a h2 (.inr h1)
    · rw [if_neg hj] at h1
      by_cases hk : k = i
      · rw [if_pos hk] at h2
        exact r.out j a h1 (.inr h2)
      · rw [if_neg hk] at h2
        exact r.dis j k a ne h1 h2
  out := fun j a h u => by
    by_cases hj : j = i
    · rw [if_pos hj] at h; exact nu a h u
    · rw [if_neg hj] at h; exact r.out j a h (.inl u)
  nt := fun a z => by
    rcases z with z | ⟨k, z⟩
    · exact r.nt a (.inl (.inl z))
    · by_cases hk : k = i
      · rw [if_pos hk] at z; exact r.nt a (.inl (.inr z))
      · rw [if_neg hk] at z; exact r.nt a (.inr ⟨k, z⟩)
  len := by simpa using r.len
end
section
variable {X : Cx} {G : Pl} {W : WX} {pos py : Pos} {x : Str} {i : Nat} {e : Expr} {F : Env → R D}
def sSet (i : Nat) (F : Env → R D) : Env → Fl := fun env => match F env with
  | .ok d e => .nx (e.set i (some d))
  | .exc c d e => .exc c d e
  | .bad => .bad
/-- what may be assigned to a name -/
def AsgE (X : Cx) (M : List Nat) (W : WX) (i : Nat) (st : Stmt) (F : Env → R D) : Prop :=
  ∃ t : TE, PS X st (tAsg t (gName i)) ∧ ∀ σ H env U S, Rel X.K M U S H σ env → ∀ Q, PoE X.K M W U S H σ (rpE X.K U) Q (F env) → t σ H Q
def AsgO (X : Cx) (M : List Nat) (W : WX) (i : Nat) (st : Stmt) (F : Env → R D) : Prop :=
  ∃ t : TE, PS X st (tAsg t (gName i)) ∧ ∀ σ H env U S, Rel X.K M U S H σ env → ∀ Q, PoO X.K M W U S H σ Q (F env) → t σ H Q
theorem asgE {M : List Nat} (hN : X.N.Nodup) (hi : X.N[i]? = some x) (hx : Loc X.env.scope x) (h : SE X M W e F) (hs : swapsWith e (some (.Name x py)) pos.line X.env = pure false := by rfl) (hf : X.fn x = true ∨ X.env.scope.names.lookup x = some .local := by first | exact .inl rfl | exact .inr rfl | assumption) :
    AsgE X M W i (.Assign [.Name x py] e pos) F := by
  obtain ⟨t, p, q⟩ := h
  exact ⟨t, ps_set hN hi hx p hs hf, q⟩
theorem asgO {M : List Nat} (hN : X.N.Nodup) (hi : X.N[i]? = some x) (hx : Loc X.env.scope x) (h : SO X M W e F) (hs : swapsWith e (some (.Name x py)) pos.line X.env = pure false := by rfl) (hf : X.fn x = true ∨ X.env.scope.names.lookup x = some .local := by first | exact .inl rfl | exact .inr rfl | assumption) :
    AsgO X M W i (.Assign [.Name x py] e pos) F := by
  obtain ⟨t, p, q⟩ := h
  exact ⟨t, ps_set hN hi hx p hs hf, q⟩
theorem s_set {st : Stmt} (hM : G.M.contains i = false) (hP : G.Pm.contains i = false) (h : AsgE X G.M W i st F) : SS X G W st (sSet i F) := by
  obtain ⟨t, p, q⟩ := h
  refine ⟨_, p, fun σ H env U S r E h => q σ H env U S r _ ?_⟩
  have hM' : i ∉ G.M := by simpa using hM
  have hP' : i ∉ G.Pm := by simpa using hP
  unfold sSet at h
  cases hF : F env with
  | ok d e =>
    rw [hF] at h
    exact fun v H' S' po rp => h _ H' S' ⟨po.rel.set hM' rp, po.keep, po.grow, fun j hj => List.getElem?_set_ne fun (e : i = j) => hP' (by rw [e]; exact hj)⟩
  | exc c d e => rw [hF] at h; exact fun dx v H' S' po x z rp => h dx v σ H' S' (.of po) x z rp
  | bad => rw [hF] at h; exact h
theorem s_setO {st : Stmt} (hM : G.M.contains i = true) (hP : G.Pm.contains i = false) (h : AsgO X G.M W i st F) : SS X G W st (sSet i F) := by
  obtain ⟨t, p, q⟩ := h
  refine ⟨_, p, fun σ H env U S r E h => q σ H env U S r _ ?_⟩
  have hM' : i ∈ G.M := by simpa using hM
  have hP' : i ∉ G.Pm := by simpa using hP
  unfold sSet at h
  cases hF : F env with
  | ok d e =>
    rw [hF] at h
    refine fun v H' S' T po rl ow nu gr => h _ H' _ ⟨rl.setO hM' ow nu, po.keep, fun j a z => ?_, fun j hj => List.getElem?_set_ne fun (e : i = j) => hP' (by rw [e]; exact hj)⟩
    by_cases hj : j = i
    · simp only [hj, if_true] at z; exact gr a z
    · simp only [hj, if_false] at z; exact po.grow j a z
  | exc c d e => rw [hF] at h; exact fun dx v H' S' po x z rp => h dx v σ H' S' (.of po) x z rp
  | bad => rw [hF] at h; exact h
end
end Rf

namespace Rf
open PySem PySem.Spec PyProof.Rows L2

/-! what a def promises -/
inductive C where
  | ok (d : D) (o : Env)
  | exc (c : Str) (d : D) (o : Env)
  | bad
def PoC (K : PySem.W.Frag) (io : List Nat) (ro : Bool) (U : AS) (S : Nat → AS) (H : Hp) (vs : List V) (Q : VK) (E : XK) : C → Prop
  | .ok d o => ∀ v H' S', Post K io U S H (vs.map some) S' H' o → Res K ro U S H S' H' v d → Q v H'
  | .exc c d o => ∀ dx v H' S', Post K io U S H (vs.map some) S' H' o → H' dx = some (.xd [("value", v)]) → ¬ zo U S' dx → Rp K (vis H' (zo U S')) v d → E (.ref (He.ga K c)) (some dx) H'
  | .bad => False
def spC (K : PySem.W.Frag) (n : Nat) (io : List Nat) (ro : Bool) (g : List D → C) : Sp := fun vs H Q E =>
  vs.length = n ∧ ∃ ds U S, ds.length = n ∧ Rel K io U S H (vs.map some) (ds.map some) ∧ PoC K io ro U S H vs Q E (g ds)
/-- what is left in the parameters that are handed in to be changed -/
def outs (io : List Nat) (p : Nat) (e : Env) : Env := (List.range p).map fun i => if io.contains i then (e[i]?).getD none else none
def env0 (n : Nat) (ds : List D) : Env := ds.map some ++ List.replicate (n - ds.length) none
def runB (n p : Nat) (io : List Nat) (B : Env → Fl) : List D → C := fun ds => match B (env0 n ds) with
  | .nx e => .ok .non (outs io p e)
  | .rt d e => .ok d (outs io p e)
  | .exc c d e => .exc c d (outs io p e)
  | .bad => .bad
/-- the owning slots: of the parameters those that are handed in to be changed -/
def plOk (M io : List Nat) (p : Nat) : Bool := M.all (fun i => !decide (i < p) || io.contains i) && io.all (fun i => M.contains i && decide (i < p))
theorem start_get {N : List Str} {vs : List V} {i : Nat} (h : i < vs.length) : (start N vs)[i]? = (vs.map some)[i]? := by
  unfold L2.start
  rw [List.getElem?_append_left (by simpa using h)]
theorem env0_get {n : Nat} {ds : List D} {i : Nat} {d : D} (h : (env0 n ds)[i]? = some (some d)) : (ds.map some)[i]? = some (some d) ∧ i < ds.length := by
  unfold env0 at h
  by_cases hl : i < ds.length
  · rw [List.getElem?_append_left (by simpa using hl)] at h; exact ⟨h, hl⟩
  · rw [List.getElem?_append_right (by simpa using hl)] at h
    obtain ⟨h1, h2⟩ := List.getElem?_eq_some_iff.mp h
    simp at h2
section
variable {P : Program} {w : World} {K : PySem.W.Frag} {mg : Str → Option Value} {base : Heap} {x qual : Str} {params : Arguments} {body : List Stmt} {scope : Scope} {dvs : List V} {kws : List (Str × V)} {f : Addr} {fd : FuncData}
theorem fn_mk {N ps : List Str} {k : Nat} {M io : List Nat} {ro : Bool} {B : Env → Fl} (F : FunD K x qual params body scope dvs kws f fd) (SC : FnScope N ps scope) (hp : plOk M io ps.length = true) (hN : ps.length ≤ N.length)
    (hbody : ∀ (cdv : Value) (A : Around) (outer : List PySem.Env) (s : Shared) (H : Hp) (E : XK), Room k (A.deeper (envOfC qual scope s.heap.objs.size f cdv)) →
      SSs (cxOf (L2.CX P w) P w K mg base N qual scope f cdv A outer s H E) ⟨M, io, ro⟩ (fun c d _ H => E c d H) body B) :
    FnOk P w K mg base (L2.CX P w) (k + 1) f fd ps (spC K ps.length io ro (runB N.length ps.length io B)) := by
  refine F.ok SC (fun vs H Q E h => h.1) fun cdv A outer s H vs Q E hr h => ?_
  obtain ⟨hl, ds, U, S, hd, rel, po⟩ := h
  obtain ⟨t, p, q⟩ := hbody cdv A outer s H E hr
  simp only [plOk, Bool.and_eq_true, List.all_eq_true, Bool.or_eq_true, Bool.not_eq_true', decide_eq_false_iff_not, List.contains_eq_mem, decide_eq_true_eq] at hp
  obtain ⟨hM, hio⟩ := hp
  refine ⟨t, p, q (start N vs) H (env0 N.length ds) U S ⟨?_, ?_, rel.dis, rel.out, rel.nt, ?_⟩ _ ?_⟩
  · intro i d hi he
    obtain ⟨h1, h2⟩ := env0_get he
    have hi2 : i ∈ io := (hM i hi).resolve_left (by omega)
    obtain ⟨v, h3, h4⟩ := rel.own i d hi2 h1
    exact ⟨v, by rw [start_get (by omega)]; exact h3, h4⟩
  · intro i d hi he
    obtain ⟨h1, h2⟩ := env0_get he
    have hi2 : i ∉ io := fun z => hi (hio i z).1
    obtain ⟨v, h3, h4⟩ := rel.frz i d hi2 h1
    exact ⟨v, by rw [start_get (by omega)]; exact h3, h4⟩
  · simp only [env0, L2.start, List.length_append, List.length_map, List.length_replicate]
    omega
  have fin : ∀ {S' : Nat → AS} {H' : Hp} {σ' : L2.St} {e : Env}, PostS K ⟨M, io, ro⟩ U S H (start N vs) S' H' σ' e → Post K io U S H (vs.map some) S' H' (outs io ps.length e) := by
    intro S' H' σ' e po
    refine ⟨⟨?_, ?_, po.rel.dis, po.rel.out, po.rel.nt, ?_⟩, po.keep, po.grow⟩
    · intro i d hi he
      have hi1 := (hio i hi).2
      have he2 : e[i]? = some (some d) := by
        unfold outs at he
        rw [List.getElem?_map, List.getElem?_range hi1] at he
        simp only [Option.map_some, List.contains_eq_mem, hi, decide_true, if_true, Option.some.injEq] at he
        cases hq : e[i]? with
        | none => rw [hq] at he; simp at he
        | some z => rw [hq] at he; simp at he; rw [he]
      obtain ⟨v, h1, h2⟩ := po.rel.own i d (hio i hi).1 he2
      refine ⟨v, ?_, h2⟩
      rw [← start_get (N := N) (by omega), ← po.prot i hi]
      exact h1
    · intro i d hi he
      unfold outs at he
      rw [List.getElem?_map] at he
      cases hq : (List.range ps.length)[i]? with
      | none => rw [hq] at he; simp at he
      | some j =>
        have hj : j = i := by
          obtain ⟨h1, h2⟩ := List.getElem?_eq_some_iff.mp hq
          rw [← h2]; simp
        subst hj
        rw [hq] at he
        simp [hi] at he
    · simp [outs, hl]
  simp only [runB] at po
  cases hB : B (env0 N.length ds) with
  | nx e =>
    rw [hB] at po
    intro σ' H' S' pos
    refine po .non H' S' (fin pos) ?_
    unfold Res
    cases ro with
    | false => exact .non
    | true => exact ⟨fun _ => False, .leaf rfl .non (fun _ h => h), fun _ h => h.elim, fun _ h => h.elim⟩
  | rt d e =>
    rw [hB] at po
    intro v σ' H' S' pos res
    exact po v H' S' (fin pos) res
  | exc c d e =>
    rw [hB] at po
    intro dx v σ' H' S' pos h1 h2 h3
    exact po dx v H' S' (fin pos) h1 h2 h3
  | bad => rw [hB] at po; exact po
end

/-! a def that may be called -/
structure Cal (P : Program) (w : World) (K : PySem.W.Frag) (mg : Str → Option Value) (base : Heap) (k : Nat) (x : Str) (m : Nat) (io : List Nat) (ro : Bool) (dds : List D) (g : List D → C) : Prop where
  ex : ∃ (f : Addr) (fd : FuncData) (ps : List Str) (dvs : List V) (dsV : List Value), mg x = some (.ref f) ∧ PySem.W.keepIn K (.ref f) = true ∧ ps.length = m + dds.length ∧ FnOk P w K mg base (L2.CX P w) k f fd ps (spC K (m + dds.length) io ro g) ∧
    Binds K fd ps dsV ∧ Vals dvs dsV ∧ ∀ H, RpL K H dvs dds
abbrev CalX (X : Cx) := Cal X.prog X.w X.K X.mg X.base
theorem Cal.mono {P : Program} {w : World} {K : PySem.W.Frag} {mg : Str → Option Value} {base : Heap} {j k : Nat} {x : Str} {m : Nat} {io : List Nat} {ro : Bool} {dds : List D} {g : List D → C} (h : Cal P w K mg base j x m io ro dds g) (hk : j ≤ k) : Cal P w K mg base k x m io ro dds g := by
  obtain ⟨f, fd, ps, dvs, dsV, h1, h2, h3, h4, h5⟩ := h.ex
  exact ⟨f, fd, ps, dvs, dsV, h1, h2, h3, h4.mono hk, h5⟩
/-- where one stands: room, what leaves -/
structure Gd (X : Cx) (W : WX) (k : Nat) : Prop where
  calm : X.calm = true
  room : Room k X.A
  takes : Takes X W
  nd : X.N.Nodup
  pass : PassesOwn (model X.prog X.w) X.A X.env X.xe
theorem Gd.hu {X : Cx} {W : WX} {k : Nat} (g : Gd X W k) : X.A.units + 65 < cLine := by have := g.room.un; omega
theorem Gd.hu1 {X : Cx} {W : WX} {k : Nat} (g : Gd X W k) : X.A.units + 1 < cLine := by have := g.room.un; omega
theorem Gd.hu64 {X : Cx} {W : WX} {k : Nat} (g : Gd X W k) : X.A.units + 64 < cLine := by have := g.room.un; omega
section
variable {X : Cx} {M : List Nat} {W : WX} {b : Bool} {k m : Nat} {x : Str} {ro : Bool} {dds : List D} {g : List D → C} {p pos : Pos} {e : Expr} {es : List Expr}
def ofC : C → O D
  | .ok d _ => .ok d
  | .exc c d _ => .exc c d
  | .bad => .bad
def rcall (K : PySem.W.Frag) (W : WX) (n : Nat) (io : List Nat) (ro : Bool) (dvs : List V) (g : List D → C) : RN := fun vs σ H Q => spC K n io ro g (vs ++ dvs) H Q fun cls d H' => W cls d σ H'
theorem rel_pure {K : PySem.W.Frag} {H : Hp} {Z : AS} {vs : List V} {ds : List D} (n : Nt H Z) (r : RpL K (vis H Z) vs ds) : Rel K [] Z (fun _ _ => False) H (vs.map some) (ds.map some) where
  own := fun i d hi => by simp at hi
  frz := fun i d _ he => by
    rw [List.getElem?_map] at he
    cases hq : ds[i]? with
    | none => rw [hq] at he; simp at he
    | some d' =>
      rw [hq] at he
      simp at he
      subst he
      obtain ⟨v, h1, h2⟩ := r.get hq
      refine ⟨v, by rw [List.getElem?_map, h1]; rfl, ?_⟩
      have : zo Z (fun _ _ => False) = Z := funext fun a => propext ⟨fun z => z.elim id fun ⟨_, f⟩ => f.elim, .inl⟩
      rw [this]
      exact h2
  dis := fun _ _ _ _ h => h.elim
  out := fun _ _ h => h.elim
  nt := fun a z => z.elim (n a) fun ⟨_, f⟩ => f.elim
  len := by simp [r.length]
theorem val_call {K : PySem.W.Frag} {dvs : List V} (hd : ∀ H, RpL K H dvs dds) : Val K W (rcall K W (m + dds.length) [] ro dvs g) (fun ds => if ds.length = m then ofC (g (ds ++ dds)) else .bad) := by
  intro H Z σ vs ds Q n rp hp
  dsimp only at hp
  by_cases hm : ds.length = m
  · rw [if_pos hm] at hp
    have rp' := rp.append (hd (vis H Z))
    have hl := rp'.length
    refine ⟨by rw [hl, List.length_append, hm], ds ++ dds, Z, fun _ _ => False, by rw [List.length_append, hm], rel_pure n rp', ?_⟩
    cases hg : g (ds ++ dds) with
    | ok d o =>
      rw [hg] at hp
      intro v H' S' po res
      have ex : Ex H H' := fun a o h => po.keep a o h fun _ f => f
      refine hp v H' ex ?_
      unfold Res at res
      cases ro with
      | false => exact res.mono (vis_sub fun a z => .inl z)
      | true =>
        obtain ⟨T, ow, nz, _⟩ := res
        exact (ow.vis po.rel.nt nz).mono (vis_sub fun a z => .inl z)
    | exc c d o =>
      rw [hg] at hp
      intro dx v H' S' po h1 h2 h3
      have ex : Ex H H' := fun a o h => po.keep a o h fun _ f => f
      exact hp dx v H' ex (fun z => h2 (.inl z)) h1 (h3.mono (vis_sub fun a z => .inl z))
    | bad => rw [hg] at hp; exact hp.elim
  · rw [if_neg hm] at hp
    exact hp.elim
def gCall (m : Nat) (dds : List D) (g : List D → C) : List D → O D := fun ds => if ds.length = m then ofC (g (ds ++ dds)) else .bad
theorem node_call (G : Gd X W k) (c : CalX X k x m [] ro dds g) (hg : Gl X x) (hs : noStar (e :: es) = true) (hdb : (x == ("__debug__" : Str)) = false := by decide) :
    ∃ dvs, (∀ H, RpL X.K H dvs dds) ∧ Node X (e :: es) (.Call (.Name x p) (e :: es) [] pos) (rcall X.K W (m + dds.length) [] ro dvs g) := by
  obtain ⟨f, fd, ps, dvs, dsV, h1, h2, h3, h4, h5, h6, h7⟩ := c.ex
  refine ⟨dvs, h7, fun ts h => ?_⟩
  obtain ⟨t, pa, q⟩ := pa_of h hs
  obtain ⟨n1, n2⟩ := noStar_head hs X.env
  exact ⟨_, pe_callSD h4 G.room hg h1 h2 h5 h6 (fun σ => passAt G.takes σ) pa hdb n1 (noStar_plain n2 pos X.env), fun σ H Q hq => q σ H _ hq⟩
theorem sp_call {Fs : List (Env → O D)} (G : Gd X W k) (c : CalX X k x m [] ro dds g) (hg : Gl X x) (h : SPs X M W b (e :: es) Fs) (hs : noStar (e :: es) = true := by rfl) (hdb : (x == ("__debug__" : Str)) = false := by decide) :
    SP X M W b (.Call (.Name x p) (e :: es) [] pos) (nd (gCall m dds g) Fs) := by
  obtain ⟨dvs, hd, n⟩ := node_call (p := p) (pos := pos) G c hg hs hdb
  exact sp_node n (val_call hd) h
theorem se_call {Fs : List (Env → R D)} (G : Gd X W k) (c : CalX X k x m [] ro dds g) (hg : Gl X x) (h : SEs X M W (e :: es) Fs) (hs : noStar (e :: es) = true := by rfl) (hdb : (x == ("__debug__" : Str)) = false := by decide) :
    SE X M W (.Call (.Name x p) (e :: es) [] pos) (nr (gCall m dds g) Fs) := by
  obtain ⟨dvs, hd, n⟩ := node_call (p := p) (pos := pos) G c hg hs hdb
  exact se_node n (val_call hd) h
end
end Rf

namespace Rf
open PySem PySem.Spec PyProof.Rows L2

/-! what is walked -/
def ItOk (K : PySem.W.Frag) (J : It) (Hv : Hp) (ds : List D) : Prop :=
  ∃ G Y, Walk J ds.length G Y ∧ (∀ H, Ex Hv H → G H) ∧ ∀ i H x H' Z, Nt H Z → Ex Hv (vis H Z) → Y i H x H' → Ex H H' ∧ ∃ d, ds[i]? = some d ∧ Rp K (vis H' Z) x d
abbrev itZ (K : PySem.W.Frag) (Z : AS) : Hp → It → List D → Prop := fun H J ds => ItOk K J (vis H Z) ds
def SI (X : Cx) (M : List Nat) (W : WX) (b : Bool) (tg iter : Expr) (F : Env → O (List D)) : Prop :=
  ∃ wi : TI, PI X tg iter wi ∧ ∀ σ H env U S, Rel X.K M U S H σ env → ∀ Q, Po X.K W (zb b U S) H σ (itZ X.K (zb b U S)) Q (F env) → wi σ H Q
section
variable {K : PySem.W.Frag}
theorem it_list {Hv : Hp} {a : Addr} {vs : List V} {ds : List D} (h : SqL K Hv a vs) (r : RpL K Hv vs ds) : ItOk K (Itl K a) Hv ds := by
  have w := walk_list (K := K) (a := a) (xs := vs)
  rw [r.length] at w
  refine ⟨_, _, w, fun H e => ex_l e h, fun i H x H' Z n e y => ?_⟩
  obtain ⟨rfl, hx⟩ := y
  obtain ⟨d, h1, h2⟩ := r.get' hx
  exact ⟨Ex.refl _, d, h1, h2.mono e⟩
theorem it_tup {Hv : Hp} {a : Addr} {vs : List V} {ds : List D} (h : SqT K Hv a vs) (r : RpL K Hv vs ds) : ItOk K (Itt K a) Hv ds := by
  have w := walk_tup (K := K) (a := a) (xs := vs)
  rw [r.length] at w
  refine ⟨_, _, w, fun H e => ex_t e h, fun i H x H' Z n e y => ?_⟩
  obtain ⟨rfl, hx⟩ := y
  obtain ⟨d, h1, h2⟩ := r.get' hx
  exact ⟨Ex.refl _, d, h1, h2.mono e⟩
def rangeD (lo : Int) (n : Nat) : List D := (List.range n).map fun i => .int (lo + (i : Nat))
theorem it_range {Hv : Hp} {lo : Int} {n : Nat} : ItOk K (Itr lo n) Hv (rangeD lo n) := by
  have w := walk_range (lo := lo) (n := n)
  have hl : (rangeD lo n).length = n := by simp [rangeD]
  refine ⟨_, fun i H x H' => i < n ∧ YFn (fun i => .int (lo + i)) i H x H', ?_, fun _ _ => True.intro, fun i H x H' Z nn e y => ?_⟩
  · rw [hl]
    exact ⟨w.goes, w.stops, fun i H x H' hi g y => ⟨hi, w.yields i H x H' hi g y⟩⟩
  · obtain ⟨hi, rfl, rfl⟩ := y
    refine ⟨Ex.refl _, .int (lo + i), ?_, .int _⟩
    simp [rangeD, List.getElem?_map, List.getElem?_range hi]
def signsD (z : Str) : List D := z.cps.toList.map fun c => .str ⟨#[c]⟩
theorem it_str {Hv : Hp} {z : Str} : ItOk K (Its z) Hv (signsD z) := by
  have w := walk_str (z := z)
  have hl : z.cps.size = (signsD z).length := by simp [signsD]
  rw [hl] at w
  refine ⟨_, _, w, fun _ _ => True.intro, fun i H x H' Z nn e y => ?_⟩
  obtain ⟨rfl, c, hc, rfl⟩ := y
  refine ⟨Ex.refl _, .str ⟨#[c]⟩, ?_, .str _⟩
  simp [signsD, List.getElem?_map, hc]
end
section
variable {X : Cx} {M : List Nat} {W : WX} {b : Bool} {tg e e2 : Expr} {F F2 : Env → O D}
/-- the items of a list; of a tuple; of a text -/
def itL : O D → O (List D)
  | .ok (.lst ds) => .ok ds
  | .ok (.scr ns) => .ok (ns.map .int)
  | .ok _ => .bad
  | .exc c d => .exc c d
  | .bad => .bad
def itT : O D → O (List D)
  | .ok (.tup ds) => .ok ds
  | .ok _ => .bad
  | .exc c d => .exc c d
  | .bad => .bad
def itS : O D → O (List D)
  | .ok (.str z) => .ok (signsD z)
  | .ok _ => .bad
  | .exc c d => .exc c d
  | .bad => .bad
theorem RpL.ints {K : PySem.W.Frag} {H : Hp} : ∀ ns : List Int, RpL K H (ns.map V.int) (ns.map D.int)
  | [] => .nil
  | n :: ns => .cons (.int n) (RpL.ints ns)
theorem si_list (h : SP X M W b e F) : SI X M W b tg e (fun env => itL (F env)) := by
  obtain ⟨t, p, q⟩ := h
  refine ⟨_, pi_list p, fun σ H env U S r Q hp => q σ H env U S r _ ?_⟩
  dsimp only at hp
  cases hF : F env with
  | ok d =>
    rw [hF] at hp
    intro v H' ex rp
    cases rp <;> try exact hp.elim
    · rename_i a vs ds ha rr
      exact ⟨a, rfl, ⟨vs, SqL.of (of_some_vis ha)⟩, hp _ H' ex (it_list (SqL.of ha) rr)⟩
    · rename_i a ns ha
      exact ⟨a, rfl, ⟨_, ex_l vis_ex ha⟩, hp _ H' ex (it_list ha (RpL.ints ns))⟩
  | exc c d => rw [hF] at hp; exact hp
  | bad => rw [hF] at hp; exact hp.elim
theorem si_tup (h : SP X M W b e F) : SI X M W b tg e (fun env => itT (F env)) := by
  obtain ⟨t, p, q⟩ := h
  refine ⟨_, pi_tup p, fun σ H env U S r Q hp => q σ H env U S r _ ?_⟩
  dsimp only at hp
  cases hF : F env with
  | ok d =>
    rw [hF] at hp
    intro v H' ex rp
    cases rp <;> try exact hp.elim
    rename_i a vs ds ha rr
    exact ⟨a, rfl, ⟨vs, SqT.up ha⟩, hp _ H' ex (it_tup ha rr)⟩
  | exc c d => rw [hF] at hp; exact hp
  | bad => rw [hF] at hp; exact hp.elim
theorem si_str (h : SP X M W b e F) : SI X M W b tg e (fun env => itS (F env)) := by
  obtain ⟨t, p, q⟩ := h
  refine ⟨_, pi_str p, fun σ H env U S r Q hp => q σ H env U S r _ ?_⟩
  dsimp only at hp
  cases hF : F env with
  | ok d =>
    rw [hF] at hp
    intro v H' ex rp
    cases rp <;> try exact hp.elim
    rename_i z
    exact ⟨z, rfl, hp _ H' ex it_str⟩
  | exc c d => rw [hF] at hp; exact hp
  | bad => rw [hF] at hp; exact hp.elim
def itR1 : O D → O (List D)
  | .ok (.int j) => if -(2 ^ 62) ≤ j ∧ j < 2 ^ 62 then .ok (rangeD 0 j.toNat) else .bad
  | .ok _ => .bad
  | .exc c d => .exc c d
  | .bad => .bad
theorem si_range1 {p pos : Pos} (hg : Gl X "range") (hm : X.mg "range" = none) (h : SP X M W b e F) (hs : noStar [e] = true := by rfl) : SI X M W b tg (.Call (.Name "range" p) [e] [] pos) (fun env => itR1 (F env)) := by
  obtain ⟨t, pp, q⟩ := h
  obtain ⟨h1, h2⟩ := noStar_head hs X.env
  refine ⟨_, pi_range1 hg hm (pa_cons pp pa_nil h1) h1, fun σ H env U S r Q hp => q σ H env U S r _ ?_⟩
  dsimp only at hp
  cases hF : F env with
  | ok d =>
    rw [hF] at hp
    intro v H' ex rp
    cases rp <;> try exact hp.elim
    rename_i j
    simp only [itR1] at hp
    split at hp
    · rename_i hj
      exact ⟨j, rfl, hj.1, hj.2, hp _ H' ex it_range⟩
    · exact hp.elim
  | exc c d => rw [hF] at hp; exact hp
  | bad => rw [hF] at hp; exact hp.elim
def itR2 : D → D → O (List D)
  | .int i, .int j => if (-(2 ^ 62) ≤ i ∧ i < 2 ^ 62) ∧ (-(2 ^ 62) ≤ j ∧ j < 2 ^ 62) then .ok (rangeD i (j - i).toNat) else .bad
  | _, _ => .bad
theorem si_range2 {p pos : Pos} (hg : Gl X "range") (hm : X.mg "range" = none) (h : SP X M W b e F) (h' : SP X M W b e2 F2) (hs : noStar [e, e2] = true := by rfl) : SI X M W b tg (.Call (.Name "range" p) [e, e2] [] pos) (nd (g2 itR2) [F, F2]) := by
  obtain ⟨ts, ps, qs⟩ := sps_run (SPs.cons h (SPs.cons h' SPs.nil))
  obtain ⟨n1, n2⟩ := noStar_head hs X.env
  obtain ⟨n3, n4⟩ := noStar_head n2 X.env
  cases ps with | cons p1 ps => cases ps with | cons p2 ps => cases ps with | nil =>
  refine ⟨_, pi_range2 hg hm (pa_cons p1 (pa_cons p2 pa_nil n3) n1) (by rw [n1, n3]; rfl) n3, fun σ H env U S r Q hp => ?_⟩
  have hp' : Po X.K W (zb b U S) H σ (itZ X.K (zb b U S)) Q ((seqF [F, F2] env).bind (g2 itR2)) := hp
  have := qs σ H env U S r (fun vs H1 => ∃ i j : Int, vs = [.int i, .int j] ∧ (-(2 ^ 62) ≤ i ∧ i < 2 ^ 62 ∧ -(2 ^ 62) ≤ j ∧ j < 2 ^ 62) ∧ Q (Itr i (j - i).toNat) H1) (Po.step hp' fun ds vs H1 hF e1 r1 h1 => by
    cases r1 with
    | nil => exact h1.elim
    | cons q1 r1 => cases r1 with
      | nil => exact h1.elim
      | cons q2 r1 => cases r1 with
        | cons _ _ => exact h1.elim
        | nil =>
          cases q1 <;> try exact h1.elim
          cases q2 <;> try exact h1.elim
          rename_i i j
          simp only [g2, itR2] at h1
          split at h1
          · rename_i hh
            exact ⟨i, j, rfl, ⟨hh.1.1, hh.1.2, hh.2.1, hh.2.2⟩, h1 _ H1 (Ex.refl H1) it_range⟩
          · exact h1.elim)
  exact this
end

/-! targets -/
/-- d is bound to the names of a target -/
def SG (X : Cx) (M : List Nat) (vs : List Nat) (tg : Expr) (g : D → Env → Option Env) : Prop :=
  ∃ t : TG, PG X tg t ∧ ∀ σ H env U S v d env1, Rel X.K M U S H σ env → Rp X.K (vis H (zo U S)) v d → g d env = some env1 → ∀ Q : L2.St → Hp → Prop,
    (∀ σ1, Rel X.K M U S H σ1 env1 → wipe σ1 vs = wipe σ vs → (∀ j, j ∉ vs → σ1[j]? = σ[j]?) → Q σ1 H) → t v σ H Q
def SGs (X : Cx) (M : List Nat) (vs : List Nat) (tgs : List Expr) (g : List D → Env → Option Env) : Prop :=
  ∃ t : TGs, PGs X tgs t ∧ ∀ σ H env U S v d env1, Rel X.K M U S H σ env → RpL X.K (vis H (zo U S)) v d → g d env = some env1 → ∀ Q : L2.St → Hp → Prop,
    (∀ σ1, Rel X.K M U S H σ1 env1 → wipe σ1 vs = wipe σ vs → (∀ j, j ∉ vs → σ1[j]? = σ[j]?) → Q σ1 H) → t v σ H Q
theorem wipe_set (σ : L2.St) (i : Nat) (x : Option V) : ∀ {vs : List Nat}, i ∈ vs → wipe (σ.set i x) vs = wipe σ vs
  | [], h => by simp at h
  | v :: vs, h => by
    unfold wipe
    by_cases hv : i ∈ vs
    · rw [wipe_set σ i x hv]
    · have e : v = i := by simp at h; rcases h with h | h; exact h.symm; exact absurd h hv
      subst e
      have : ∀ (σ : L2.St) (vs : List Nat), v ∉ vs → (wipe (σ.set v x) vs) = (wipe σ vs).set v x := by
        intro σ vs
        induction vs with
        | nil => intro _; rfl
        | cons u us ih =>
          intro hn
          simp only [List.mem_cons, not_or] at hn
          unfold wipe
          rw [ih hn.2, List.set_comm _ _ hn.1]
      rw [this σ vs hv, List.set_set]
section
variable {X : Cx} {M : List Nat} {vs : List Nat} {pos : Pos}
def gN (i : Nat) : D → Env → Option Env := fun d env => some (env.set i (some d))
theorem sg_name {i : Nat} {x : Str} (hM : M.contains i = false) (hv : vs.contains i = true) (hN : X.N.Nodup) (hi : X.N[i]? = some x) (hx : Loc X.env.scope x) (hf : X.fn x = true ∨ X.env.scope.names.lookup x = some .local := by first | exact .inl rfl | exact .inr rfl | assumption) : SG X M vs (.Name x pos) (gN i) := by
  refine ⟨_, pg_name hN hi hx hf, fun σ H env U S v d env1 r rp hg Q h => ?_⟩
  cases hg
  have hM' : i ∉ M := by simpa using hM
  have hv' : i ∈ vs := by simpa using hv
  exact h _ (r.set hM' rp) (wipe_set σ i _ hv') fun j hj => List.getElem?_set_ne fun (e : i = j) => hj (by rw [← e]; exact hv')
def gsN : List D → Env → Option Env
  | [], env => some env
  | _ :: _, _ => none
def gsC (g : D → Env → Option Env) (gs : List D → Env → Option Env) : List D → Env → Option Env
  | [], _ => none
  | d :: ds, env => (g d env).bind fun e => gs ds e
theorem sgs_nil : SGs X M vs [] gsN := by
  refine ⟨_, pgs_nil, fun σ H env U S v d env1 r rp hg Q h => ?_⟩
  cases rp with
  | nil => cases hg; exact ⟨rfl, h σ r rfl fun _ _ => rfl⟩
  | cons _ _ => cases hg
theorem sgs_cons {e : Expr} {es : List Expr} {g : D → Env → Option Env} {gs : List D → Env → Option Env} (h1 : SG X M vs e g) (h2 : SGs X M vs es gs) (p : ∀ t u, PG X e t → PGs X es u → PGs X (e :: es) (gCons t u) := by intro t u h1 h2; exact pgs_cons h1 h2) : SGs X M vs (e :: es) (gsC g gs) := by
  obtain ⟨t, p1, q1⟩ := h1
  obtain ⟨u, p2, q2⟩ := h2
  refine ⟨_, p t u p1 p2, fun σ H env U S v d env1 r rp hg Q h => ?_⟩
  cases rp with
  | nil => cases hg
  | @cons v vs' d ds r1 r2 =>
    simp only [gsC, Option.bind_eq_some_iff] at hg
    obtain ⟨e1, hg1, hg2⟩ := hg
    exact ⟨_, _, rfl, q1 σ H env U S _ _ _ r r1 hg1 _ fun σ1 rl1 w1 k1 => q2 σ1 H e1 U S _ _ _ rl1 r2 hg2 _ fun σ2 rl2 w2 k2 => h σ2 rl2 (w2.trans w1) fun j hj => (k2 j hj).trans (k1 j hj)⟩
def gT (n : Nat) (gs : List D → Env → Option Env) : D → Env → Option Env := fun d env => match d with
  | .tup ds => if ds.length = n then gs ds env else none
  | _ => none
theorem sg_tup {es : List Expr} {k n : Nat} {gs : List D → Env → Option Env} (h : SGs X M vs es gs) (p : ∀ t, PGs X es t → PG X (.Tuple es k pos) (gTup X.K n t)) : SG X M vs (.Tuple es k pos) (gT n gs) := by
  obtain ⟨t, p1, q1⟩ := h
  refine ⟨_, p t p1, fun σ H env U S v d env1 r rp hg Q h => ?_⟩
  cases rp <;> try (simp [gT] at hg; done)
  rename_i a ws ds ha rr
  simp only [gT] at hg
  split at hg
  · rename_i hl
    exact ⟨a, ws, rfl, SqT.up ha, by rw [rr.length]; exact hl, q1 σ H env U S _ _ _ r rr hg Q h⟩
  · cases hg
end
end Rf

namespace Rf
open PySem PySem.Spec PyProof.Rows L2

/-! list comprehensions -/
def W0 : WX := fun _ _ _ _ => False
def wipeE (env : Env) : List Nat → Env
  | [] => env
  | v :: vs => (wipeE env vs).set v none
theorem wipeE_get {env : Env} {i : Nat} {d : D} : ∀ {vs : List Nat}, (wipeE env vs)[i]? = some (some d) → env[i]? = some (some d) ∧ i ∉ vs
  | [], h => ⟨h, by simp⟩
  | v :: vs, h => by
    unfold wipeE at h
    rcases set_get h with ⟨_, h2, _⟩ | ⟨h1, h2⟩
    · cases h2
    · obtain ⟨h3, h4⟩ := wipeE_get h2
      exact ⟨h3, by simp [h1, h4]⟩
theorem wipeE_length (env : Env) : ∀ vs : List Nat, (wipeE env vs).length = env.length
  | [] => rfl
  | v :: vs => by unfold wipeE; rw [List.length_set, wipeE_length env vs]
section
variable {K : PySem.W.Frag} {M : List Nat} {U : AS} {S : Nat → AS} {H : Hp} {σ : L2.St} {env : Env}
theorem Rel.wipe (r : Rel K M U S H σ env) (vs : List Nat) : Rel K M U S H (L2.wipe σ vs) (wipeE env vs) where
  own := fun i d hi he => by
    obtain ⟨h1, h2⟩ := wipeE_get he
    obtain ⟨v, h3, h4⟩ := r.own i d hi h1
    exact ⟨v, by rw [wipe_out h2]; exact h3, h4⟩
  frz := fun i d hi he => by
    obtain ⟨h1, h2⟩ := wipeE_get he
    obtain ⟨v, h3, h4⟩ := r.frz i d hi h1
    exact ⟨v, by rw [wipe_out h2]; exact h3, h4⟩
  dis := r.dis
  out := r.out
  nt := r.nt
  len := by rw [wipe_length, wipeE_length]; exact r.len
/-- behind a turn the block's own names are forgotten -/
theorem Rel.unwipe {σ1 : L2.St} {e0 e1 : Env} {vs : List Nat} (r : Rel K M U S H σ1 e1) (hs : L2.wipe σ1 vs = L2.wipe σ vs) : Rel K M U S H (L2.wipe σ vs) (wipeE e1 vs) := by
  rw [← hs]
  exact r.wipe vs
end
/-- one turn: the target, the test, the element; then the names forgotten -/
def compF (vs : List Nat) (g : D → Env → Option Env) (T : Env → O Bool) (E : Env → O D) (env : Env) : List D → O (List D)
  | [] => .ok []
  | d :: ds => match g d env with
    | none => .bad
    | some e1 => (noX (T e1)).bind fun k => match k with
      | true => (noX (E e1)).bind fun y => (compF vs g T E env ds).bind fun ys => .ok (y :: ys)
      | false => compF vs g T E env ds
def eComp (b : Bool) (vs : List Nat) (I : Env → O (List D)) (g : D → Env → Option Env) (T : Env → O Bool) (E : Env → O D) : Env → O (List D) := fun env => (I env).bind fun ds =>
  if (b || immL ds) && decide (ds.length ≤ sizeLine) then compF vs g T E (wipeE env vs) ds else .bad
abbrev Bk (X : Cx) (scope : Scope) (s : Shared) (H : Hp) (C : Addr) (cl : List (Str × Addr)) (fp : List Addr) : Cx := X.blk s H scope (compEnvC scope cl C X.env) fp
theorem noX_ok {α : Type} {x : O α} {y : α} (h : noX x = .ok y) : x = .ok y := by
  cases x with
  | ok a => exact h
  | exc c d => cases h
  | bad => cases h
theorem immL_get : ∀ {ds : List D} {i : Nat} {d : D}, immL ds = true → ds[i]? = some d → imm d = true
  | [], _, _, _, h => by simp at h
  | _ :: _, 0, _, h, e => by simp at e; subst e; simp only [immL, Bool.and_eq_true] at h; exact h.1
  | _ :: ds, i + 1, _, h, e => by simp only [immL, Bool.and_eq_true] at h; exact immL_get h.2 (by simpa using e)
section
variable {X : Cx} {M : List Nat} {W : WX} {b : Bool} {own : List (Str × Nat)} {tg iter elt : Expr} {ifs : List Expr} {scope : Scope} {I : Env → O (List D)} {g : D → Env → Option Env} {T : Env → O Bool} {E : Env → O D}
/-- the reading of a comprehension, whatever it is used for -/
theorem lc_pure {wi : TI} {gt : TG} {tt : TT} {te : TE}
    (hi : ∀ σ H env U S, Rel X.K M U S H σ env → ∀ Q, Po X.K W (zb b U S) H σ (itZ X.K (zb b U S)) Q (I env) → wi σ H Q)
    (hg : ∀ σ H env U S v d env1, Rel X.K M U S H σ env → Rp X.K (vis H (zo U S)) v d → g d env = some env1 → ∀ Q : L2.St → Hp → Prop, (∀ σ1, Rel X.K M U S H σ1 env1 → wipe σ1 (own.map (·.2)) = wipe σ (own.map (·.2)) → Q σ1 H) → gt v σ H Q)
    (ht : ∀ σ H env U S, Rel X.K M U S H σ env → ∀ Q, Po X.K W0 (zb b U S) H σ eqZ Q (T env) → tt σ H Q)
    (he : ∀ σ H env U S, Rel X.K M U S H σ env → ∀ Q, Po X.K W0 (zb b U S) H σ (rpZ X.K (zb b U S)) Q (E env) → te σ H Q)
    (σ : L2.St) (H : Hp) (env : Env) (U : AS) (S : Nat → AS) (r : Rel X.K M U S H σ env) (Q : VK) (hp : Po X.K W (zb b U S) H σ (nlZ X.K (zb b U S) H) Q (eComp b (own.map (·.2)) I g T E env)) :
    tLc wi gt tt te (own.map (·.2)) σ H Q := by
  have hp' : Po X.K W (zb b U S) H σ (nlZ X.K (zb b U S) H) Q ((I env).bind fun ds => if (b || immL ds) && decide (ds.length ≤ sizeLine) then compF (own.map (·.2)) g T E (wipeE env (own.map (·.2))) ds else .bad) := hp
  refine hi σ H env U S r _ (Po.step hp' fun ds J H1 hI e1 it h1 => ?_)
  intro L hL
  generalize hvs : own.map (·.2) = vs at *
  have hcond : (b || immL ds) = true ∧ ds.length ≤ sizeLine := by
    by_cases hc : ((b || immL ds) && decide (ds.length ≤ sizeLine)) = true
    · simpa using hc
    · rw [if_neg hc] at h1; exact h1.elim
  have h2 : Po X.K W (zb b U S) H1 σ (nlZ X.K (zb b U S) H) Q (compF vs g T E (wipeE env vs) ds) := by
    have hc : ((b || immL ds) && decide (ds.length ≤ sizeLine)) = true := by simpa using hcond
    rw [if_pos hc] at h1; exact h1
  -- all of the turns
  obtain ⟨yss, hys⟩ : ∃ ys, compF vs g T E (wipeE env vs) ds = .ok ys := by
    cases hq : compF vs g T E (wipeE env vs) ds with
    | ok ys => exact ⟨ys, rfl⟩
    | bad => rw [hq] at h2; exact h2.elim
    | exc c d =>
      exfalso
      have : ∀ ds c d, compF vs g T E (wipeE env vs) ds ≠ .exc c d := by
        intro ds
        induction ds with
        | nil => intro c d h; cases h
        | cons x xs ih =>
          intro c d h
          unfold compF at h
          split at h
          · cases h
          · rename_i e1 _
            cases hT : T e1 with
            | ok k =>
              rw [hT] at h
              simp only [noX, O.bind] at h
              cases k with
              | false => exact ih c d h
              | true =>
                simp only at h
                cases hE : E e1 with
                | ok y =>
                  rw [hE] at h
                  simp only [noX] at h
                  cases hr : compF vs g T E (wipeE env vs) xs with
                  | ok ys => rw [hr] at h; cases h
                  | exc c' d' => exact ih c' d' hr
                  | bad => rw [hr] at h; cases h
                | exc _ _ => rw [hE] at h; cases h
                | bad => rw [hE] at h; cases h
            | exc _ _ => rw [hT] at h; cases h
            | bad => rw [hT] at h; cases h
      exact this ds c d hq
  rw [hys] at h2
  obtain ⟨G, Y, wk, hG, hY⟩ := it
  let TL : AS := fun a => a = L
  have hLH : H L = none := fresh_back e1 hL
  -- the heap at a turn: as at the start, but for the new list
  refine lc_it wk (Pv := fun i H' => i ≤ ds.length ∧ (∀ a o, H1 a = some o → H' a = some o) ∧ ∃ acc ys zs, H' L = some (.lst acc) ∧ RpL X.K (vis H' (un (zb b U S) TL)) acc ys ∧ acc.length ≤ i ∧ compF vs g T E (wipeE env vs) (ds.drop i) = .ok zs ∧ ys ++ zs = yss) ?_ ?_ ?_ ?_
  · exact ⟨Nat.zero_le _, Ex.new hL, [], [], yss, upd_same, .nil, Nat.le_refl _, by simpa using hys, rfl⟩
  · rintro i H' hi ⟨_, ex, _⟩
    exact hG H' fun a o h => ex a o (of_vis h).1
  · rintro i x H' H'' hi ⟨_, ex, acc, ys, zs, hl, ra, hal, hc, heq⟩ y
    -- what holds in the block, the new list hidden
    have rel1 : Rel X.K M (un U TL) S H' (wipe σ vs) (wipeE env vs) := by
      have q : Rel X.K M (un U TL) S H' σ env := (r.mono e1).hide ex (fun a e => by cases e; exact hL) fun a e => by
        cases e
        exact ⟨by rw [hl]; simp, fun xs z => by rcases z with z | ⟨o, z⟩ <;> rw [hl] at z <;> cases z⟩
      exact q.wipe vs
    have nt' : Nt H' (zb b (un U TL) S) := rel1.ntb b
    have hvv : Ex (vis H1 (zb b U S)) (vis H' (zb b (un U TL) S)) := fun a o h => by
      obtain ⟨h3, h4⟩ := of_vis h
      refine vis_in (ex a o h3) fun z => ?_
      rcases z with (z | z) | z
      · exact h4 (.inl z)
      · cases z; rw [hL] at h3; cases h3
      · exact h4 (.inr z)
    obtain ⟨ey, d, hd, rx⟩ := hY i H' x H'' _ nt' hvv y
    have rel2 := rel1.mono ey
    have rx2 : Rp X.K (vis H'' (zo (un U TL) S)) x d := by
      cases b with
      | true => rw [zb_true] at rx; exact rx
      | false =>
        have him : immL ds = true := by simpa using hcond.1
        exact imm_up rel2.nt (immL_get him hd) rx
    have hdrop : ds.drop i = d :: ds.drop (i + 1) := by
      obtain ⟨hlt, he⟩ := List.getElem?_eq_some_iff.mp hd
      rw [List.drop_eq_getElem_cons hlt, he]
    rw [hdrop] at hc
    unfold compF at hc
    cases hgd : g d (wipeE env vs) with
    | none => rw [hgd] at hc; cases hc
    | some e2 =>
      rw [hgd] at hc
      simp only at hc
      refine hg (wipe σ vs) H'' (wipeE env vs) (un U TL) S x d e2 rel2 rx2 hgd _ fun σ2 rel3 hw => ?_
      have hww : wipe σ2 vs = wipe σ vs := by
        rw [hw]
        have : ∀ (vs : List Nat) (σ : L2.St), wipe (wipe σ vs) vs = wipe σ vs := by
          intro vs σ
          apply List.ext_getElem?
          intro j
          by_cases hj : j ∈ vs
          · have h1 : ∀ τ : L2.St, τ.length = σ.length → (wipe τ vs)[j]? = if j < σ.length then some none else none := by
              intro τ hτ
              have hlen : (wipe τ vs).length = σ.length := by rw [wipe_length]; exact hτ
              by_cases hjl : j < σ.length
              · rw [if_pos hjl]
                cases hz : (wipe τ vs)[j]? with
                | none => rw [List.getElem?_eq_none_iff] at hz; omega
                | some o =>
                  cases o with
                  | none => rfl
                  | some v => exact absurd hj (wipe_some hz).2
              · rw [if_neg hjl]
                exact List.getElem?_eq_none (by omega)
            rw [h1 _ (wipe_length σ vs), h1 σ rfl]
          · rw [wipe_out hj]
        exact this vs σ
      refine ⟨hww, ?_⟩
      cases hT : T e2 with
      | exc _ _ => rw [hT] at hc; cases hc
      | bad => rw [hT] at hc; cases hc
      | ok k =>
        rw [hT] at hc
        simp only [noX, O.bind] at hc
        refine ht σ2 H'' e2 (un U TL) S rel3 _ ?_
        rw [hT]
        rintro k' H3 e3 rfl
        cases k' with
        | false =>
          simp only at hc
          refine ⟨hi, fun a o h => e3 a o (ey a o (ex a o h)), acc, ys, zs, e3 _ _ (ey _ _ hl), ra.mono ?_, by omega, hc, heq⟩
          exact vis_mono (ey.trans e3)
        | true =>
          simp only at hc
          cases hE : E e2 with
          | exc _ _ => rw [hE] at hc; cases hc
          | bad => rw [hE] at hc; cases hc
          | ok y1 =>
            rw [hE] at hc
            simp only [noX] at hc
            refine he σ2 H3 e2 (un U TL) S (rel3.mono e3) _ ?_
            rw [hE]
            intro v1 H4 e4 rv1
            cases hrec : compF vs g T E (wipeE env vs) (ds.drop (i + 1)) with
            | exc _ _ => rw [hrec] at hc; cases hc
            | bad => rw [hrec] at hc; cases hc
            | ok zs1 =>
              rw [hrec] at hc
              have hz : y1 :: zs1 = zs := by
                have := hc
                simp only [O.ok.injEq] at this
                exact this
              have e14 : Ex H' H4 := (ey.trans e3).trans e4
              have hl4 := e14 _ _ hl
              refine ⟨acc, hl4, by omega, hi, ?_, acc ++ [v1], ys ++ [y1], zs1, upd_same, ?_, by simp; omega, rfl, by rw [← heq, ← hz]; simp⟩
              · intro a o h
                have ne : a ≠ L := fun e => by subst e; rw [hL] at h; cases h
                rw [upd_ne ne]
                exact e14 a o (ex a o h)
              · have hsame : Ex (vis H4 (un (zb b U S) TL)) (vis (upd H4 L (.lst (acc ++ [v1]))) (un (zb b U S) TL)) := fun a o h => by
                  obtain ⟨h5, h6⟩ := of_vis h
                  have ne : a ≠ L := fun e => h6 (.inr e)
                  exact vis_in (by rw [upd_ne ne]; exact h5) h6
                refine RpL.append ((ra.mono (vis_mono e14)).mono hsame) (.cons ?_ .nil)
                have rv2 : Rp X.K (vis H4 (un (zb b U S) TL)) v1 y1 := by
                  have : zb b (un U TL) S = un (zb b U S) TL := by
                    funext a
                    apply propext
                    constructor
                    · rintro ((z | z) | z)
                      · exact .inl (.inl z)
                      · exact .inr z
                      · exact .inl (.inr z)
                    · rintro ((z | z) | z)
                      · exact .inl (.inl z)
                      · exact .inr z
                      · exact .inl (.inr z)
                  rw [← this]
                  exact rv1
                exact rv2.mono hsame
  · rintro H' ⟨_, ex, acc, ys, zs, hl, ra, hal, hc, heq⟩
    rw [List.drop_length] at hc
    cases hc
    rw [List.append_nil] at heq
    subst heq
    exact h2 _ H' ex ⟨L, acc, rfl, hLH, hl, ra.mono (vis_sub fun a z => .inl z)⟩
end
end Rf

namespace Rf
open PySem PySem.Spec PyProof.Rows L2

/-! canonical readings: they hang on the fragment alone -/
def cP (K : PySem.W.Frag) (M : List Nat) (W : WX) (b : Bool) (F : Env → O D) : TE := fun σ H Q => ∃ env U S, Rel K M U S H σ env ∧ Po K W (zb b U S) H σ (rpZ K (zb b U S)) Q (F env)
def cT (K : PySem.W.Frag) (M : List Nat) (W : WX) (b : Bool) (F : Env → O Bool) : TT := fun σ H Q => ∃ env U S, Rel K M U S H σ env ∧ Po K W (zb b U S) H σ eqZ Q (F env)
def cG (K : PySem.W.Frag) (M : List Nat) (vs : List Nat) (g : D → Env → Option Env) : TG := fun v σ H Q => ∃ env U S d env1, Rel K M U S H σ env ∧ Rp K (vis H (zo U S)) v d ∧ g d env = some env1 ∧ ∀ σ1, Rel K M U S H σ1 env1 → wipe σ1 vs = wipe σ vs → (∀ j, j ∉ vs → σ1[j]? = σ[j]?) → Q σ1 H
section
variable {X : Cx} {M : List Nat} {W : WX} {b : Bool} {own : List (Str × Nat)} {tg iter elt c e : Expr} {ifs : List Expr} {scope : Scope} {I : Env → O (List D)} {g : D → Env → Option Env} {T : Env → O Bool} {E : Env → O D} {vs : List Nat}
theorem SP.pe {F : Env → O D} (h : SP X M W b e F) : PE X e (cP X.K M W b F) := by
  obtain ⟨t, p, q⟩ := h
  refine ⟨fun pins s σ H Q I hw => p.run pins s σ H Q I ?_⟩
  obtain ⟨env, U, S, r, hp⟩ := hw
  exact q σ H env U S r Q hp
theorem STp.pt {F : Env → O Bool} (h : STp X M W b e F) : PT X e (cT X.K M W b F) := by
  obtain ⟨t, p, q⟩ := h
  refine ⟨fun pins s σ H Q I hw => p.run pins s σ H Q I ?_⟩
  obtain ⟨env, U, S, r, hp⟩ := hw
  exact q σ H env U S r Q hp
theorem SG.pg (h : SG X M vs tg g) : PG X tg (cG X.K M vs g) := by
  obtain ⟨t, p, q⟩ := h
  refine ⟨fun pins s σ H v u Q I rv hw => p.run pins s σ H v u Q I rv ?_⟩
  obtain ⟨env, U, S, d, env1, r, rp, hg, k⟩ := hw
  exact q σ H env U S v d env1 r rp hg Q k
/-- the tests of a comprehension, for all its blocks -/
inductive Tst where
  | no
  | one (F : Env → O Bool)
def Tst.f : Tst → Env → O Bool
  | .no => fun _ => .ok true
  | .one F => F
def tTst (K : PySem.W.Frag) (M : List Nat) (W : WX) (b : Bool) : Tst → TT
  | .no => tYes
  | .one F => cT K M W b F
def STs (X : Cx) (M : List Nat) (W : WX) (b : Bool) : List Expr → Tst → Prop
  | [], .no => True
  | [c], .one F => STp X M W b c F
  | _, _ => False
theorem STs.pts {t : Tst} (h : STs X M W b ifs t) : PTs X ifs (tTst X.K M W b t) := by
  match ifs, t, h with
  | [], .no, _ => exact pts_nil
  | [c], .one F, h => exact pts_one (STp.pt h)
/-- a comprehension: what its parts are -/
structure Lc (X : Cx) (M : List Nat) (W : WX) (b : Bool) (own : List (Str × Nat)) (tg iter elt : Expr) (ifs : List Expr) (scope : Scope) (I : Env → O (List D)) (g : D → Env → Option Env) (T : Tst) (E : Env → O D) : Prop where
  it : SI X M W b tg iter I
  ok : BlkOk X.N X.env.scope scope own
  tg : ∀ (s : Shared) (H : Hp) (C : Addr) (cl : List (Str × Addr)) (fp : List Addr), SG (Bk X scope s H C cl fp) M (own.map (·.2)) tg g
  ts : ∀ (s : Shared) (H : Hp) (C : Addr) (cl : List (Str × Addr)) (fp : List Addr), STs (Bk X scope s H C cl fp) M W0 b ifs T
  el : ∀ (s : Shared) (H : Hp) (C : Addr) (cl : List (Str × Addr)) (fp : List Addr), SP (Bk X scope s H C cl fp) M W0 b elt E
theorem Lc.run {T : Tst} (h : Lc X M W b own tg iter elt ifs scope I g T E) : ∃ wi : TI, PI X tg iter wi ∧ ∀ σ H env U S, Rel X.K M U S H σ env → ∀ Q, Po X.K W (zb b U S) H σ (nlZ X.K (zb b U S) H) Q (eComp b (own.map (·.2)) I g T.f E env) →
    tLc wi (cG X.K M (own.map (·.2)) g) (tTst X.K M W0 b T) (cP X.K M W0 b E) (own.map (·.2)) σ H Q := by
  obtain ⟨wi, pi, qi⟩ := h.it
  refine ⟨wi, pi, fun σ H env U S r Q hp => lc_pure (M := M) (W := W) (b := b) qi ?_ ?_ ?_ σ H env U S r Q hp⟩
  · exact fun σ H env U S v d env1 r rp hg Q k => ⟨env, U, S, d, env1, r, rp, hg, fun σ1 a b _ => k σ1 a b⟩
  · intro σ H env U S r Q hp
    cases T with
    | no => exact hp true H (Ex.refl H) rfl
    | one F => exact ⟨env, U, S, r, hp⟩
  · exact fun σ H env U S r Q hp => ⟨env, U, S, r, hp⟩
theorem spl_comp {k : Nat} {T : Tst} {pos : Pos} (G : Gd X W k) (h : Lc X M W b own tg iter elt ifs scope I g T E) (hs : ∀ x, foldedSetIterable iter X.env x = pure x := by intro _; rfl) :
    SPL X M W b (.ListComp elt [⟨tg, iter, ifs, 0⟩] scope pos) (eComp b (own.map (·.2)) I g T.f E) := by
  obtain ⟨wi, pi, q⟩ := h.run
  exact ⟨_, pe_lc G.calm G.nd pi h.ok (fun s H C cl fp => (h.tg s H C cl fp).pg) (fun s H C cl fp => (h.ts s H C cl fp).pts) (fun s H C cl fp => (h.el s H C cl fp).pe) hs, q⟩
/-- name = [..], the list looked at or kept -/
def AsgL (X : Cx) (M : List Nat) (W : WX) (b : Bool) (i : Nat) (st : Stmt) (F : Env → O (List D)) : Prop :=
  ∃ t : TE, PS X st (tAsg t (gName i)) ∧ ∀ σ H env U S, Rel X.K M U S H σ env → ∀ Q, Po X.K W (zb b U S) H σ (nlZ X.K (zb b U S) H) Q (F env) → t σ H Q
theorem asgL_comp {k i : Nat} {y : Str} {T : Tst} {py pos spos : Pos} (G : Gd X W k) (hy : X.N[i]? = some y) (hyl : X.env.scope.names.lookup y = some .local) (h : Lc X M W b own tg iter elt ifs scope I g T E)
    (hsw : swapsWith (.ListComp elt [⟨tg, iter, ifs, 0⟩] scope pos) (some (.Name y py)) spos.line X.env = pure true) (hs : ∀ x, foldedSetIterable iter X.env x = pure x := by intro _; rfl) :
    AsgL X M W b i (.Assign [.Name y py] (.ListComp elt [⟨tg, iter, ifs, 0⟩] scope pos) spos) (eComp b (own.map (·.2)) I g T.f E) := by
  obtain ⟨wi, pi, q⟩ := h.run
  exact ⟨_, ps_setLc G.calm G.nd hy hyl hsw pi h.ok (fun s H C cl fp => (h.tg s H C cl fp).pg) (fun s H C cl fp => (h.ts s H C cl fp).pts) (fun s H C cl fp => (h.el s H C cl fp).pe) hs, q⟩
theorem AsgL.toE {i : Nat} {st : Stmt} {F : Env → O (List D)} (h : AsgL X M W true i st F) : AsgE X M W i st (lift fun env => mkL (F env)) := by
  obtain ⟨t, p, q⟩ := h
  refine ⟨t, p, fun σ H env U S r Q hp => q σ H env U S r Q ?_⟩
  rw [zb_true]
  have h0 : Po X.K W (zo U S) H σ (rpZ X.K (zo U S)) Q (mkL (F env)) := PoE.pure r hp fun _ _ _ _ h => h
  cases hF : F env with
  | ok ds =>
    rw [hF] at h0
    rintro v H' ex ⟨p, vs, rfl, hn, hl, rp⟩
    exact h0 _ H' ex (.lst (vis_in hl fun z => absurd hn (r.nt p z).1) rp)
  | exc c d => rw [hF] at h0; exact h0
  | bad => rw [hF] at h0; exact h0.elim
theorem AsgL.toO {i : Nat} {st : Stmt} {F : Env → O (List D)} (h : AsgL X M W b i st F) : AsgO X M W i st (liftL F) := by
  obtain ⟨t, p, q⟩ := h
  refine ⟨t, p, fun σ H env U S r Q hp => q σ H env U S r Q ?_⟩
  unfold liftL at hp
  cases hF : F env with
  | ok ds =>
    rw [hF] at hp
    simp only at hp
    cases hi : immL ds with
    | false => rw [hi] at hp; exact (show False by simpa [PoO] using hp).elim
    | true =>
      rw [hi] at hp
      rintro v H' ex ⟨p, vs, rfl, hn, hl, rp⟩
      have ow : Ow X.K H' (.ref p) (.lst ds) (fun a => a = p) := .lst hl (immL_ow hi (rp.mono vis_ex)) (fun z => z) (fun b => by simp)
      refine hp _ H' S _ (r.post ex) (r.hide ex (fun a e => by subst e; exact hn) ow.nt) ow ?_ ?_
      · rintro a rfl z
        exact (r.nt _ (.inl z)).1 hn
      · rintro a rfl
        exact .inr hn
  | exc c d => rw [hF] at hp; exact hp.elim
  | bad => rw [hF] at hp; exact hp.elim
end
end Rf

namespace Rf
open PySem PySem.Spec PyProof.Rows L2

section
variable {K : PySem.W.Frag} {G : Pl} {U : AS} {S S' : Nat → AS} {H H' : Hp} {σ σ' : L2.St} {env : Env}
theorem PostS.vis (p : PostS K G U S H σ S' H' σ' env) : Ex (Rf.vis H (zo U S)) (Rf.vis H' (zo U S')) := fun a o h => by
  obtain ⟨h1, h2⟩ := of_vis h
  refine vis_in (p.keep a o h1 fun i z => h2 (.inr ⟨i, z⟩)) fun z => ?_
  rcases z with z | ⟨i, z⟩
  · exact h2 (.inl z)
  · rcases p.grow i a z with ⟨j, q⟩ | q
    · exact h2 (.inr ⟨j, q⟩)
    · rw [q] at h1; cases h1
end
/-! iterators that change what the slots own -/
abbrev itE (K : PySem.W.Frag) (U : AS) : (Nat → AS) → Hp → It → List D → Prop := fun S' H' J ds => ItOk K J (vis H' (zo U S')) ds
def SIe (X : Cx) (M : List Nat) (W : WX) (tg iter : Expr) (F : Env → R (List D)) : Prop :=
  ∃ wi : TI, PI X tg iter wi ∧ ∀ σ H env U S, Rel X.K M U S H σ env → ∀ Q, PoE X.K M W U S H σ (itE X.K U) Q (F env) → wi σ H Q
section
variable {X : Cx} {G : Pl} {M : List Nat} {W : WX} {tg iter e : Expr}
theorem SI.sie {F : Env → O (List D)} (h : SI X M W true tg iter F) : SIe X M W tg iter (fun env => (F env).at env) := by
  obtain ⟨t, p, q⟩ := h
  refine ⟨t, p, fun σ H env U S r Q hp => q σ H env U S r Q ?_⟩
  rw [zb_true]
  exact PoE.pure r hp fun _ _ _ _ h => h
def itLR : R D → R (List D)
  | .ok (.lst ds) e => .ok ds e
  | .ok (.scr ns) e => .ok (ns.map .int) e
  | .ok _ _ => .bad
  | .exc c d e => .exc c d e
  | .bad => .bad
theorem sie_list {F : Env → R D} (h : SE X M W e F) : SIe X M W tg e (fun env => itLR (F env)) := by
  obtain ⟨t, p, q⟩ := h
  refine ⟨_, pi_list p, fun σ H env U S r Q hp => q σ H env U S r _ ?_⟩
  dsimp only at hp
  cases hF : F env with
  | ok d e' =>
    rw [hF] at hp
    intro v H' S' po rp
    cases rp <;> try exact hp.elim
    · rename_i a vs ds ha rr
      exact ⟨a, rfl, ⟨vs, SqL.of (of_some_vis ha)⟩, hp _ H' S' po (it_list (SqL.of ha) rr)⟩
    · rename_i a ns ha
      exact ⟨a, rfl, ⟨_, ex_l vis_ex ha⟩, hp _ H' S' po (it_list ha (RpL.ints ns))⟩
  | exc c d e' => rw [hF] at hp; exact hp
  | bad => rw [hF] at hp; exact hp.elim
/-! for -/
def forL (g : D → Env → Option Env) (B : Env → Fl) : List D → Env → Fl
  | [], env => .nx env
  | d :: ds, env => match g d env with
    | none => .bad
    | some e1 => match B e1 with
      | .nx e2 => forL g B ds e2
      | .rt d e => .rt d e
      | .exc c d e => .exc c d e
      | .bad => .bad
def sFor (I : Env → R (List D)) (g : D → Env → Option Env) (B : Env → Fl) : Env → Fl := fun env => match I env with
  | .ok ds e => forL g B ds e
  | .exc c d e => .exc c d e
  | .bad => .bad
theorem s_for {k : Nat} {I : Env → R (List D)} {g : D → Env → Option Env} {B : Env → Fl} {body : List Stmt} {vs : List Nat} {pos : Pos} (gd : Gd X W k) (hi : SIe X G.M W tg iter I) (hg : SG X G.M vs tg g) (hv : vs.all (fun i => !G.Pm.contains i) = true) (hb : SSs X G W body B)
    (hs : ∀ x, foldedSetIterable iter X.env x = pure x := by intro _; rfl) : SS X G W (.For tg iter body [] pos) (sFor I g B) := by
  obtain ⟨wi, pi, qi⟩ := hi
  obtain ⟨tg', pg, qg⟩ := hg
  obtain ⟨tb, pb, qb⟩ := hb
  have hv' : ∀ i, i ∈ G.Pm → i ∉ vs := by
    intro i hi hm
    have := List.all_eq_true.mp hv i hm
    simp at this
    exact this hi
  refine ⟨_, ps_for gd.pass gd.calm pi pg pb hs, fun σ H env U S r E h => qi σ H env U S r _ ?_⟩
  unfold sFor at h
  cases hI : I env with
  | exc c d e => rw [hI] at h; exact fun dx v H' S' po x z rp => h dx v σ H' S' (.of po) x z rp
  | bad => rw [hI] at h; exact h
  | ok ds e0 =>
    rw [hI] at h
    intro J H1 S1 po it
    obtain ⟨Gi, Y, wk, hG, hY⟩ := it
    have h1 : PoS X.K G W U S1 H1 σ E (forL g B ds e0) := PoS.up (.of po) h
    refine for_it wk (Pv := fun i σ' H' => i ≤ ds.length ∧ ∃ e S', PostS X.K G U S1 H1 σ S' H' σ' e ∧ PoS X.K G W U S' H' σ' E (forL g B (ds.drop i) e)) ?_ ?_ ?_ ?_
    · exact ⟨Nat.zero_le _, e0, S1, PostS.refl po.rel, by simpa using h1⟩
    · rintro i σ' H' hi ⟨_, e, S', ps, _⟩
      exact hG H' fun a o hh => (of_vis (ps.vis a o hh)).1
    · rintro i x σ' H' H'' hi ⟨_, e, S', ps, hf⟩ y
      obtain ⟨ey, d, hd, rx⟩ := hY i H' x H'' _ ps.rel.nt ps.vis y
      have hdrop : ds.drop i = d :: ds.drop (i + 1) := by
        obtain ⟨hlt, he⟩ := List.getElem?_eq_some_iff.mp hd
        rw [List.drop_eq_getElem_cons hlt, he]
      rw [hdrop] at hf
      unfold forL at hf
      cases hgd : g d e with
      | none => rw [hgd] at hf; exact hf.elim
      | some e1 =>
        rw [hgd] at hf
        simp only at hf
        have rel2 := ps.rel.mono ey
        refine qg σ' H'' e U S' x d e1 rel2 rx hgd _ fun σ1 rel3 _ hk => ?_
        have ps1 : PostS X.K G U S' H' σ' S' H'' σ1 e1 := ⟨rel3, fun a o hh _ => ey a o hh, fun j a z => .inl ⟨j, z⟩, fun j hj => hk j (hv' j hj)⟩
        have ps2 := ps.trans ps1
        refine qb σ1 H'' e1 U S' rel3 _ ?_
        cases hB : B e1 with
        | nx e2 =>
          rw [hB] at hf
          intro σ2 H2 S2 ps3
          exact ⟨hi, e2, S2, ps2.trans ps3, PoS.up (ps1.trans ps3) hf⟩
        | rt d' e2 =>
          rw [hB] at hf
          exact PoS.up (E := E) (f := .rt d' e2) ps1 hf
        | exc c' d' e2 =>
          rw [hB] at hf
          exact PoS.up (E := E) (f := .exc c' d' e2) ps1 hf
        | bad => rw [hB] at hf; exact hf.elim
    · rintro σ' H' ⟨_, e, S', ps, hf⟩
      rw [List.drop_length] at hf
      exact hf σ' H' S' (PostS.refl ps.rel)
/-! while -/
def whileN (C : Env → R Bool) (B : Env → Fl) : Nat → Env → Fl
  | 0, _ => .bad
  | n + 1, env => match C env with
    | .ok true e => (match B e with
      | .nx e2 => whileN C B n e2
      | .rt d e => .rt d e
      | .exc c d e => .exc c d e
      | .bad => .bad)
    | .ok false e => .nx e
    | .exc c d e => .exc c d e
    | .bad => .bad
theorem s_while {k : Nat} {C : Env → R Bool} {B : Env → Fl} {c : Expr} {body : List Stmt} {pos : Pos} (n : Nat) (gd : Gd X W k) (hc : STe X G.M W c C) (hb : SSs X G W body B) : SS X G W (.While c body [] pos) (whileN C B n) := by
  obtain ⟨tc, pc, qc⟩ := hc
  obtain ⟨tb, pb, qb⟩ := hb
  refine ⟨_, ps_while gd.pass pc pb, fun σ H env U S r E h => ?_⟩
  refine ⟨fun m σ' H' => ∃ e S', Rel X.K G.M U S' H' σ' e ∧ PoS X.K G W U S' H' σ' E (whileN C B m e), ⟨n, env, S, r, h⟩, ?_⟩
  rintro m σ' H' ⟨e, S', rel, hf⟩
  cases m with
  | zero => exact hf.elim
  | succ m =>
    unfold whileN at hf
    refine qc σ' H' e U S' rel _ ?_
    cases hC : C e with
    | exc c d e1 => rw [hC] at hf; exact fun dx v H2 S2 po x z rp => hf dx v σ' H2 S2 (.of po) x z rp
    | bad => rw [hC] at hf; exact hf
    | ok b e1 =>
      rw [hC] at hf
      rintro b' H1 S1 po rfl
      cases b' with
      | false => exact hf σ' H1 S1 (.of po)
      | true =>
        simp only at hf
        refine ⟨fun σ2 H2 => ∃ e2 S2, Rel X.K G.M U S2 H2 σ2 e2 ∧ PoS X.K G W U S2 H2 σ2 E (whileN C B m e2), fun σ2 H2 hh => ⟨m, Nat.lt_succ_self m, hh⟩, ?_⟩
        refine qb σ' H1 e1 U S1 po.rel _ ?_
        have up : ∀ {f : Fl}, PoS X.K G W U S' H' σ' E f → PoS X.K G W U S1 H1 σ' E f := fun h => PoS.up (.of po) h
        cases hB : B e1 with
        | nx e2 =>
          rw [hB] at hf
          intro σ2 H2 S2 ps
          exact ⟨e2, S2, ps.rel, PoS.up ps (up hf)⟩
        | rt d' e2 =>
          rw [hB] at hf
          exact up (f := .rt d' e2) hf
        | exc c' d' e2 =>
          rw [hB] at hf
          exact up (f := .exc c' d' e2) hf
        | bad => rw [hB] at hf; exact hf.elim
/-! dead code -/
def sBad : Env → Fl := fun _ => .bad
theorem s_bad {st : Stmt} : SS X G W st sBad := ⟨_, ps_never, fun σ H env U S r E h => h.elim⟩
/-! a slot gives up what it owns: moved on -/
open Classical in
theorem Rel.drop {K : PySem.W.Frag} {U : AS} {S : Nat → AS} {H : Hp} {σ : L2.St} {env : Env} {i : Nat} (r : Rel K M U S H σ env) : Rel K M (un U (S i)) (fun j => if j = i then fun _ => False else S j) H σ (env.set i none) where
  own := fun j d hj he => by
    rcases set_get he with ⟨rfl, h, _⟩ | ⟨ne, he⟩
    · cases h
    · obtain ⟨v, h1, h2⟩ := r.own j d hj he
      exact ⟨v, h1, by simpa [ne] using h2⟩
  frz := fun j d hj he => by
    rcases set_get he with ⟨rfl, h, _⟩ | ⟨ne, he⟩
    · cases h
    · obtain ⟨v, h1, h2⟩ := r.frz j d hj he
      refine ⟨v, h1, h2.mono (vis_sub fun a z => ?_)⟩
      rcases z with (z | z) | ⟨k, z⟩
      · exact .inl z
      · exact .inr ⟨i, z⟩
      · by_cases hk : k = i
        · rw [if_pos hk] at z; exact z.elim
        · rw [if_neg hk] at z; exact .inr ⟨k, z⟩
  dis := fun j k a ne h1 h2 => by
    by_cases hj : j = i
    · rw [if_pos hj] at h1; exact h1
    · rw [if_neg hj] at h1
      by_cases hk : k = i
      · rw [if_pos hk] at h2; exact h2
      · rw [if_neg hk] at h2; exact r.dis j k a ne h1 h2
  out := fun j a h u => by
    by_cases hj : j = i
    · rw [if_pos hj] at h; exact h
    · rw [if_neg hj] at h
      rcases u with u | u
      · exact r.out j a h u
      · exact r.dis j i a hj h u
  nt := fun a z => by
    rcases z with (z | z) | ⟨k, z⟩
    · exact r.nt a (.inl z)
    · exact r.nt a (.inr ⟨i, z⟩)
    · by_cases hk : k = i
      · rw [if_pos hk] at z; exact z.elim
      · rw [if_neg hk] at z; exact r.nt a (.inr ⟨k, z⟩)
  len := by simpa using r.len
def eMove (i : Nat) : Env → R D := fun env => match env[i]? with
  | some (some d) => .ok d (env.set i none)
  | _ => .bad
open Classical in
theorem so_move {i : Nat} {x : Str} {pos : Pos} (hM : M.contains i = true) (hN : X.N[i]? = some x) (hv : Vis X.env.scope x) (hd : (x == ("__debug__" : Str)) = false := by decide) (hcd : (x == ("__classdict__" : Str)) = false := by decide) : SO X M W (.Name x pos) (eMove i) := by
  refine ⟨_, pe_var hN hv hd hcd, fun σ H env U S r Q hp => ?_⟩
  have hM' : i ∈ M := by simpa using hM
  unfold eMove at hp
  split at hp
  · rename_i d he
    obtain ⟨v, h1, h2⟩ := r.own i d hM' he
    refine ⟨v, h1, hp v H (fun j => if j = i then fun _ => False else S j) (S i) ⟨?_, fun a o hh _ => hh, fun j a z => ?_⟩ r.drop h2 (fun a z u => r.out i a z u) fun a z => .inl ⟨i, z⟩⟩
    · have q := r.drop (i := i)
      refine ⟨q.own, fun j d' hj he' => ?_, q.dis, fun j a z u => q.out j a z (.inl u), fun a z => q.nt a (z.elim (fun z => .inl (.inl z)) .inr), q.len⟩
      obtain ⟨w, h3, h4⟩ := q.frz j d' hj he'
      exact ⟨w, h3, h4.mono (vis_sub fun a z => z.elim (fun z => .inl (.inl z)) .inr)⟩
    · by_cases hj : j = i
      · rw [if_pos hj] at z; exact z.elim
      · rw [if_neg hj] at z; exact .inl ⟨j, z⟩
  · exact hp.elim
end
end Rf

namespace Rf
open PySem PySem.Spec PyProof.Rows L2

section
variable {K : PySem.W.Frag} {M : List Nat} {U T S1 : AS} {S : Nat → AS} {H H' : Hp} {σ : L2.St} {env : Env} {i : Nat} {v : V} {d d' : D}
open Classical in
/-- what a slot owns is changed -/
theorem Rel.mut (r : Rel K M (un U T) S H σ env) (hi : i ∈ M) (hv : σ[i]? = some (some v)) (chg : ∀ b o, H b = some o → ¬ S i b → H' b = some o) (ow : Ow K H' v d' S1) (s1 : ∀ b, S1 b → S i b ∨ T b ∨ H b = none) (nu : ∀ a, T a → ¬ U a) :
    Rel K M U (fun j => if j = i then S1 else S j) H' σ (env.set i (some d')) := by
  have tp : ∀ a xs, Rd H a (.tup xs) → Rd H' a (.tup xs) := fun a xs h => by
    have nz : ¬ S i a := fun z => (r.nt a (.inr ⟨i, z⟩)).2 xs h
    rcases h with h | ⟨o, h⟩
    · exact .inl (chg a _ h nz)
    · exact .inr ⟨o, chg a _ h nz⟩
  have tq : ∀ a xs, H a = some (.tup xs) → H' a = some (.tup xs) := fun a xs h => chg a _ h fun z => (r.nt a (.inr ⟨i, z⟩)).2 xs (.inl h)
  refine ⟨fun j d2 hj he => ?_, fun j d2 hj he => ?_, fun j k a ne h1 h2 => ?_, fun j a h u => ?_, fun a z => ?_, by simpa using r.len⟩
  · rcases set_get he with ⟨rfl, hd, hl⟩ | ⟨ne, he⟩
    · cases hd
      exact ⟨v, hv, by simpa using ow⟩
    · obtain ⟨w, h1, h2⟩ := r.own j d2 hj he
      refine ⟨w, h1, ?_⟩
      simp only [ne, if_false]
      exact h2.carry tp tq fun a o hs ho => chg a o ho fun z => r.dis j i a ne hs z
  · rcases set_get he with ⟨rfl, _, _⟩ | ⟨ne, he⟩
    · exact absurd hi hj
    · obtain ⟨w, h1, h2⟩ := r.frz j d2 hj he
      refine ⟨w, h1, h2.mono fun a o h => ?_⟩
      obtain ⟨h3, h4⟩ := of_vis h
      refine vis_in (chg a o h3 fun z => h4 (.inr ⟨i, z⟩)) fun z => ?_
      rcases z with z | ⟨k, z⟩
      · exact h4 (.inl (.inl z))
      · by_cases hk : k = i
        · rw [if_pos hk] at z
          rcases s1 a z with q | q | q
          · exact h4 (.inr ⟨i, q⟩)
          · exact h4 (.inl (.inr q))
          · rw [q] at h3; cases h3
        · rw [if_neg hk] at z; exact h4 (.inr ⟨k, z⟩)
  · have key : ∀ k, k ≠ i → S1 a → S k a → False := fun k hk q1 q2 => by
      rcases s1 a q1 with q | q | q
      · exact r.dis k i a hk q2 q
      · exact r.out k a q2 (.inr q)
      · exact (r.nt a (.inr ⟨k, q2⟩)).1 q
    by_cases hj : j = i
    · rw [if_pos hj] at h1
      have hk : k ≠ i := fun e => ne (hj.trans e.symm)
      rw [if_neg hk] at h2
      exact key k hk h1 h2
    · rw [if_neg hj] at h1
      by_cases hk : k = i
      · rw [if_pos hk] at h2; exact key j hj h2 h1
      · rw [if_neg hk] at h2; exact r.dis j k a ne h1 h2
  · by_cases hj : j = i
    · rw [if_pos hj] at h
      rcases s1 a h with q | q | q
      · exact r.out i a q (.inl u)
      · exact nu a q u
      · exact (r.nt a (.inl (.inl u))).1 q
    · rw [if_neg hj] at h; exact r.out j a h (.inl u)
  · have keep : ¬ S i a → zo (un U T) S a → H' a ≠ none ∧ ∀ xs, ¬ Rd H' a (.tup xs) := fun ns hz => by
      obtain ⟨h1, h2⟩ := r.nt a hz
      cases hh : H a with
      | none => exact absurd hh h1
      | some o =>
        have := chg a o hh ns
        refine ⟨by rw [this]; simp, fun xs q => h2 xs ?_⟩
        rcases q with q | ⟨ob, q⟩
        · rw [this] at q; cases q; exact .inl hh
        · rw [this] at q; cases q; exact .inr ⟨ob, hh⟩
    rcases z with z | ⟨k, z⟩
    · exact keep (fun q => r.out i a q (.inl z)) (.inl (.inl z))
    · by_cases hk : k = i
      · rw [if_pos hk] at z; exact ow.nt a z
      · rw [if_neg hk] at z; exact keep (fun q => r.dis k i a hk z q) (.inr ⟨k, z⟩)
theorem OwL.append {vs ws : List V} {ds es : List D} {S1 S2 S3 : AS} (a : OwL K H vs ds S1) (b : OwL K H ws es S2) (dj : ∀ x, S1 x → S2 x → False) (e : ∀ x, S3 x ↔ S1 x ∨ S2 x) : OwL K H (vs ++ ws) (ds ++ es) S3 := by
  match a with
  | .nil n =>
    have : S3 = S2 := funext fun x => propext ((e x).trans ⟨fun z => z.elim (fun q => absurd q (n x)) id, .inr⟩)
    rw [this]
    exact b
  | .cons (T := T1) (R := R1) o t dd ee =>
    refine .cons (T := T1) (R := fun x => R1 x ∨ S2 x) o (OwL.append t b (fun x h1 h2 => dj x ((ee x).mpr (.inr h1)) h2) fun x => Iff.rfl) (fun x h1 h2 => ?_) fun x => ?_
    · rcases h2 with h2 | h2
      · exact dd x h1 h2
      · exact dj x ((ee x).mpr (.inl h1)) h2
    · rw [e x, ee x]
      constructor
      · rintro ((h | h) | h)
        · exact .inl h
        · exact .inr (.inl h)
        · exact .inr (.inr h)
      · rintro (h | h | h)
        · exact .inl (.inl h)
        · exact .inl (.inr h)
        · exact .inr h
theorem OwL.one {S3 : AS} (o : Ow K H v d S3) : OwL K H [v] [d] S3 := .cons (T := S3) (R := fun _ => False) o (.nil fun _ h => h) (fun _ _ h => h) fun x => by simp
theorem OwL.length {S3 : AS} : ∀ {vs : List V} {ds : List D}, OwL K H vs ds S3 → vs.length = ds.length := fun h => h.rp.length
end
section
variable {X : Cx} {G : Pl} {M : List Nat} {W : WX} {i : Nat} {x : Str} {e : Expr} {F : Env → R D} {p1 apos cpos pos : Pos}
/-- a list that a slot owns, after something was evaluated -/
theorem lst_ow {K : PySem.W.Frag} {H : Hp} {v : V} {ds : List D} {S : AS} (h : Ow K H v (.lst ds) S) : ∃ a vs T, v = .ref a ∧ H a = some (.lst vs) ∧ OwL K H vs ds T ∧ ¬ T a ∧ ∀ b, S b ↔ b = a ∨ T b := by
  cases h with
  | leaf i _ _ => simp [imm] at i
  | lst h1 h2 h3 h4 => exact ⟨_, _, _, rfl, h1, h2, h3, h4⟩
/-- the slot's list is exchanged -/
theorem lst_put {K : PySem.W.Frag} {M : List Nat} {U T : AS} {S : Nat → AS} {H : Hp} {σ : L2.St} {env : Env} {i : Nat} {a : Addr} {vs' : List V} {ds' : List D} {T' : AS} (r : Rel K M (un U T) S H σ env) (hi : i ∈ M) (hv : σ[i]? = some (some (.ref a))) (ha : S i a)
    (ol : OwL K (upd H a (.lst vs')) vs' ds' T') (na : ¬ T' a) (s1 : ∀ b, T' b → S i b ∨ T b ∨ H b = none) (nu : ∀ a, T a → ¬ U a) :
    ∃ S', Rel K M U S' (upd H a (.lst vs')) σ (env.set i (some (.lst ds'))) ∧ (∀ b o, H b = some o → (∀ j, ¬ S j b) → upd H a (.lst vs') b = some o) ∧ (∀ j b, S' j b → (∃ k, S k b) ∨ T b ∨ H b = none) := by
  have chg : ∀ b o, H b = some o → ¬ S i b → upd H a (.lst vs') b = some o := fun b o h n => by
    rw [upd_ne (fun e => n (by rw [e]; exact ha))]
    exact h
  refine ⟨_, r.mut hi hv chg (S1 := fun b => b = a ∨ T' b) (.lst upd_same ol na fun b => Iff.rfl) (fun b z => ?_) nu, fun b o h n => chg b o h (n i), fun j b z => ?_⟩
  · rcases z with rfl | z
    · exact .inl ha
    · exact s1 b z
  · by_cases hj : j = i
    · simp only [hj, if_true] at z
      rcases z with rfl | z
      · exact .inl ⟨i, ha⟩
      · rcases s1 b z with q | q | q
        · exact .inl ⟨i, q⟩
        · exact .inr (.inl q)
        · exact .inr (.inr q)
    · simp only [hj, if_false] at z
      exact .inl ⟨j, z⟩
def isL : Option (Option D) → Bool
  | some (some (.lst _)) => true
  | _ => false
/-- a step on the list that a slot owns, behind what e gives -/
def sMut (i : Nat) (F : Env → R D) (f : List D → D → Option (List D)) : Env → Fl := fun env => if isL env[i]? then match F env with
  | .ok d e => match e[i]? with
    | some (some (.lst ds)) => match f ds d with
      | some ds' => .nx (e.set i (some (.lst ds')))
      | none => .bad
    | _ => .bad
  | .exc c d e => .exc c d e
  | .bad => .bad else .bad
/-- the reading of x.m(e), x in an owning slot -/
theorem ow_tup {K : PySem.W.Frag} {H : Hp} {a : Addr} {o : HO} (h : ∀ xs, H a ≠ some (.tup xs)) (h2 : ∀ ob u, H a ≠ some (.frz ob u)) : (∀ b xs, Rd H b (.tup xs) → Rd (upd H a o) b (.tup xs)) ∧ ∀ b xs, H b = some (.tup xs) → upd H a o b = some (.tup xs) := by
  constructor
  · rintro b xs (q | ⟨ob, q⟩)
    · exact .inl (by rw [upd_ne fun e => h xs (by rw [← e]; exact q)]; exact q)
    · exact .inr ⟨ob, by rw [upd_ne fun e => h2 _ _ (by rw [← e]; exact q)]; exact q⟩
  · exact fun b xs q => by rw [upd_ne fun e => h xs (by rw [← e]; exact q)]; exact q
theorem isL_ow {K : PySem.W.Frag} {U : AS} {S : Nat → AS} {H : Hp} {σ : L2.St} {env : Env} (r : Rel K M U S H σ env) (hM : i ∈ M) (h : isL env[i]? = true) : ∃ a vs, σ[i]? = some (some (.ref a)) ∧ H a = some (.lst vs) := by
  unfold isL at h
  split at h
  · rename_i ds he
    obtain ⟨v, h1, h2⟩ := r.own i _ hM he
    obtain ⟨a, vs, T, rfl, h3, _⟩ := lst_ow h2
    exact ⟨a, vs, h1, h3⟩
  · cases h
/-- f on lists as r has it: the elements, one thing that is owned -/
def MutO (r : V → List V → Hp → VK → Prop) (f : List D → D → Option (List D)) : Prop :=
  ∀ (K : PySem.W.Frag) (H : Hp) (a : Addr) (vs : List V) (v : V) (ds : List D) (d : D) (ds' : List D) (T1 T2 : AS) (Q : VK), H a = some (.lst vs) → OwL K H vs ds T1 → Ow K H v d T2 → (∀ b, T1 b → T2 b → False) → ¬ T1 a → ¬ T2 a → f ds d = some ds' →
    (∀ vs' T', (∀ b, T' b → T1 b ∨ T2 b) → OwL K H vs' ds' T' → Q .non (upd H a (.lst vs'))) → r (.ref a) [v] H Q
theorem s_mutO {m : Str} {id : String} {r : V → List V → Hp → VK → Prop} {f : List D → D → Option (List D)} (mo : MutO r f) (slot : Slot "list" m id) (hty : typeOf (.builtin id) = pure (.type "method_descriptor")) (hm : MtR X id r) (hM : G.M.contains i = true) (hN : X.N[i]? = some x) (hv : Vis X.env.scope x) (h : SO X G.M W e F) (hns : noStar [e] = true := by rfl) (hd : (x == ("__debug__" : Str)) = false := by decide) (hcd : (x == ("__classdict__" : Str)) = false := by decide)
    (hline : (apos.endLine == cpos.line) = true := by rfl) :
    SS X G W (.Expr (.Call (.Attribute (.Name x p1) m apos) [e] [] cpos) pos) (sMut i F f) := by
  obtain ⟨t, p, q⟩ := h
  obtain ⟨n1, n2⟩ := noStar_head hns X.env
  have hM' : i ∈ G.M := by simpa using hM
  refine ⟨_, ps_expr (pe_bm PySem.F.plainAttrs_list slot hty hm (pe_var hN hv hd hcd) (pa_cons p pa_nil n1) rfl (by rw [n1]; rfl) hline n1 rfl), fun σ H env U S r E h => ?_⟩
  unfold sMut at h
  cases hL : isL env[i]? with
  | false => rw [hL] at h; exact (show False by simpa [PoS] using h).elim
  | true =>
    rw [hL] at h
    simp only [if_true] at h
    obtain ⟨a, vs0, hs0, ha0⟩ := isL_ow r hM' hL
    refine ⟨.ref a, hs0, .inl ⟨rfl, vs0, SqL.of ha0⟩, q σ H env U S r _ ?_⟩
    cases hF : F env with
    | bad => rw [hF] at h; exact h.elim
    | exc c d e => rw [hF] at h; exact fun dx v H' S' po x z rp => h dx v σ H' S' (.of po) x z rp
    | ok d e1 =>
      rw [hF] at h
      simp only at h
      intro v H1 S1 T po rl ow nu gr
      cases he : e1[i]? with
      | none => rw [he] at h; exact h.elim
      | some o =>
        cases o with
        | none => rw [he] at h; exact h.elim
        | some di =>
          cases di with
          | lst ds =>
            rw [he] at h
            simp only at h
            cases hf : f ds d with
            | none => rw [hf] at h; exact h.elim
            | some ds' =>
              rw [hf] at h
              obtain ⟨v', h1, h2⟩ := rl.own i _ hM' he
              have : v' = .ref a := by rw [hs0] at h1; cases h1; rfl
              subst this
              obtain ⟨a', vs, T1, e', h3, h4, h5, h6⟩ := lst_ow h2
              cases e'
              have hT : ∀ b, T b → S1 i b → False := fun b q1 q2 => rl.out i b q2 (.inr q1)
              have na2 : ¬ T a := fun z => hT a z ((h6 a).mpr (.inl rfl))
              refine mo X.K H1 a vs v ds d ds' T1 T _ h3 h4 ow (fun b q1 q2 => hT b q2 ((h6 b).mpr (.inr q1))) h5 na2 hf fun vs' T' hT' ol => ?_
              have hup := ow_tup (K := X.K) (H := H1) (a := a) (o := .lst vs') (fun xs z => by rw [h3] at z; cases z) (fun _ _ z => by rw [h3] at z; cases z)
              have naT : ¬ T' a := fun z => (hT' a z).elim h5 na2
              have ol' : OwL X.K (upd H1 a (.lst vs')) vs' ds' T' := ol.carry hup.1 hup.2 fun b o hb ho => by
                rw [upd_ne (fun e => naT (by rw [← e]; exact hb))]
                exact ho
              obtain ⟨S', r', k1, k2⟩ := lst_put rl hM' hs0 ((h6 a).mpr (.inl rfl)) ol' naT (fun b z => (hT' b z).elim (fun w => .inl ((h6 b).mpr (.inr w))) fun w => .inr (.inl w)) nu
              refine h σ _ S' ⟨r', fun b o hb n => ?_, fun j b z => ?_, fun _ _ => rfl⟩
              · refine k1 b o (po.keep b o hb n) fun j z => ?_
                rcases po.grow j b z with ⟨k, w⟩ | w
                · exact n k w
                · rw [w] at hb; cases hb
              · rcases k2 j b z with ⟨k, w⟩ | w | w
                · exact po.grow k b w
                · exact gr b w
                · cases hb : H b with
                  | none => exact .inr rfl
                  | some o =>
                    left
                    refine Classical.byContradiction fun n => ?_
                    rw [po.keep b o hb fun k q => n ⟨k, q⟩] at w
                    cases w
          | _ => rw [he] at h; exact h.elim
def fApp (ds : List D) (d : D) : Option (List D) := if ds.length < sizeLine then some (ds ++ [d]) else none
theorem mo_append : MutO rAppend fApp := by
  intro K H a vs v ds d ds' T1 T2 Q h1 h2 h3 h4 h5 h6 h7 h8
  simp only [fApp] at h7
  split at h7
  · rename_i hl
    cases h7
    exact ⟨a, vs, v, rfl, rfl, h1, by rw [h2.length]; exact hl, h8 _ (fun b => T1 b ∨ T2 b) (fun b z => z) (h2.append (.one h3) h4 fun b => Iff.rfl)⟩
  · cases h7
theorem s_append (hM : G.M.contains i = true) (hN : X.N[i]? = some x) (hv : Vis X.env.scope x) (h : SO X G.M W e F) (hns : noStar [e] = true := by rfl) (hd : (x == ("__debug__" : Str)) = false := by decide) (hcd : (x == ("__classdict__" : Str)) = false := by decide)
    (hline : (apos.endLine == cpos.line) = true := by rfl) :
    SS X G W (.Expr (.Call (.Attribute (.Name x p1) "append" apos) [e] [] cpos) pos) (sMut i F fApp) := s_mutO mo_append PySem.F.slot_list_append PySem.F.type_list_append mt_append hM hN hv h hns hd hcd hline
end
end Rf
namespace PySem.AutoSeq1
theorem ext_tup (l : Addr) (items : Array Value) (n : Nat) (b : Addr) (items2 : Array Value) (n2 : Nat) (dd : Option Addr) (sl : Array (Option Value)) (hs0 : ¬(!items.isEmpty && Builtin.List.listTooLong (items.size + items2.size)) = true) (hs1 : items.size ≤ sizeLine) (hs2 : items.size + items2.size ≤ sizeLine + 1 := by seq_fits) :
    Meets (Builtin.«list.extend» ⟨[.ref l, .ref b], []⟩) (fun _ R s => s.heap.get? l = some { cls := .type "list", dict := none, data := .seq items n, slots := #[] } ∧ s.heap.get? b = some { cls := .type "tuple", dict := dd, data := .seq items2 n2, slots := sl } ∧ R (.ok (.ret Value.none)) { s with heap := s.heap.update l (Obj.mapSeq fun x => x ++ items2), toks := s.toks }) :=
  .of_wp fun prog w A R s h => by
    obtain ⟨hp, g, d, tk, os⟩ := s; obtain ⟨hl, hb, h⟩ := h; have f1 := idx_int; have f2 := sub_tuple_tuple; have f3 := sub_list_list; have f4 := sub_tuple_list; have f5 := sub_list_tuple;
    have hz' : (items ++ items2).size ≤ sizeLine + 1 := by rw [Array.size_append]; exact hs2
    wp_walk using (wpAny_updateSeq hl rfl (hz := hs1) (_hz' := hz')), wpAny_loadPart' hl, wpAny_loadPart' hb; exact ⟨_, rfl, h⟩
end PySem.AutoSeq1
namespace Rf
open PySem PySem.Spec PyProof.Rows L2
section
variable {X : Cx} {G : Pl} {M : List Nat} {W : WX} {i : Nat} {x : Str} {e : Expr} {F : Env → R D} {p1 apos cpos pos : Pos}
/-! extend: by a list of its own, by immutable things of a list or tuple -/
def rExtendT (K : PySem.W.Frag) : V → List V → Hp → VK → Prop := fun x vs H Q => ∃ l b xs zs, x = .ref l ∧ vs = [.ref b] ∧ H l = some (.lst xs) ∧ SqT K H b zs ∧ xs.length + zs.length ≤ sizeLine ∧ Q .non (upd H l (.lst (xs ++ zs)))
theorem mt_extendT : MtM X "list.extend" (rExtendT X.K) := by
  intro pins s σ H x vs v us Q I rx rv h
  obtain ⟨l, b, xs, zs, rfl, rfl, hH, hB, hz, q⟩ := h
  cases rx
  obtain ⟨u, rfl, ru⟩ := rv.one
  cases ru
  obtain ⟨z, its, n, r, hl, e⟩ := I.lstM hH
  obtain ⟨its2, r2, ⟨⟨cls, dd, dat, sl⟩, e2, hc, n2, hd2⟩, hl2⟩ := I.tuple hB
  simp only at hc hd2
  subst hc hd2
  have hll := r2.length
  have hsz : its.toArray.size + its2.toArray.size ≤ sizeLine := by rw [List.size_toArray, List.size_toArray]; omega
  have hlong : ¬ (!its.toArray.isEmpty && Builtin.List.listTooLong (its.toArray.size + its2.toArray.size)) = true := by
    rw [notLongL hsz, Bool.and_false]
    exact Bool.false_ne_true
  refine call_meets F.slot_list_extend ⟨_, e, rfl⟩ F.entry_list_extend (F.args_list_extend_2 _ _)
    (PySem.AutoSeq1.ext_tup l its.toArray n b its2.toArray n2 dd sl hlong (by rw [List.size_toArray]; omega) (by omega)) ⟨e, e2, ?_⟩
  refine ⟨.non, _, I.lset (its' := its ++ its2) hH e (by simp) (r.append r2) ?_, rfl, q⟩
  rw [List.length_append]
  omega
/-- by what may be kept: only immutable things go in -/
def MutE (K : PySem.W.Frag) (r : V → List V → Hp → VK → Prop) (f : List D → D → Option (List D)) : Prop :=
  ∀ (H : Hp) (a : Addr) (vs : List V) (v : V) (ds : List D) (d : D) (ds' : List D) (T1 : AS) (Q : VK), H a = some (.lst vs) → OwL K H vs ds T1 → Rp K H v d → f ds d = some ds' →
    (∀ vs', OwL K H vs' ds' T1 → Q .non (upd H a (.lst vs'))) → r (.ref a) [v] H Q
theorem s_mutE {m : Str} {id : String} {r : V → List V → Hp → VK → Prop} {f : List D → D → Option (List D)} (mo : MutE X.K r f) (slot : Slot "list" m id) (hty : typeOf (.builtin id) = pure (.type "method_descriptor")) (hm : MtR X id r) (hM : G.M.contains i = true) (hN : X.N[i]? = some x) (hv : Vis X.env.scope x) (h : SE X G.M W e F) (hns : noStar [e] = true := by rfl) (hd : (x == ("__debug__" : Str)) = false := by decide) (hcd : (x == ("__classdict__" : Str)) = false := by decide)
    (hline : (apos.endLine == cpos.line) = true := by rfl) :
    SS X G W (.Expr (.Call (.Attribute (.Name x p1) m apos) [e] [] cpos) pos) (sMut i F f) := by
  obtain ⟨t, p, q⟩ := h
  obtain ⟨n1, n2⟩ := noStar_head hns X.env
  have hM' : i ∈ G.M := by simpa using hM
  refine ⟨_, ps_expr (pe_bm PySem.F.plainAttrs_list slot hty hm (pe_var hN hv hd hcd) (pa_cons p pa_nil n1) rfl (by rw [n1]; rfl) hline n1 rfl), fun σ H env U S r E h => ?_⟩
  unfold sMut at h
  cases hL : isL env[i]? with
  | false => rw [hL] at h; exact (show False by simpa [PoS] using h).elim
  | true =>
    rw [hL] at h
    simp only [if_true] at h
    obtain ⟨a, vs0, hs0, ha0⟩ := isL_ow r hM' hL
    refine ⟨.ref a, hs0, .inl ⟨rfl, vs0, SqL.of ha0⟩, q σ H env U S r _ ?_⟩
    cases hF : F env with
    | bad => rw [hF] at h; exact h.elim
    | exc c d e => rw [hF] at h; exact fun dx v H' S' po x z rp => h dx v σ H' S' (.of po) x z rp
    | ok d e1 =>
      rw [hF] at h
      simp only at h
      intro v H1 S1 po rp
      cases he : e1[i]? with
      | none => rw [he] at h; exact h.elim
      | some o =>
        cases o with
        | none => rw [he] at h; exact h.elim
        | some di =>
          cases di with
          | lst ds =>
            rw [he] at h
            simp only at h
            cases hf : f ds d with
            | none => rw [hf] at h; exact h.elim
            | some ds' =>
              rw [hf] at h
              obtain ⟨v', h1, h2⟩ := po.rel.own i _ hM' he
              have : v' = .ref a := by rw [hs0] at h1; cases h1; rfl
              subst this
              obtain ⟨a', vs, T1, e', h3, h4, h5, h6⟩ := lst_ow h2
              cases e'
              refine mo H1 a vs v ds d ds' T1 _ h3 h4 (rp.mono vis_ex) hf fun vs' ol => ?_
              have hup := ow_tup (K := X.K) (H := H1) (a := a) (o := .lst vs') (fun xs z => by rw [h3] at z; cases z) (fun _ _ z => by rw [h3] at z; cases z)
              have ol' : OwL X.K (upd H1 a (.lst vs')) vs' ds' T1 := ol.carry hup.1 hup.2 fun b o hb ho => by
                rw [upd_ne (fun e => h5 (by rw [← e]; exact hb))]
                exact ho
              obtain ⟨S', r', k1, k2⟩ := lst_put (U := U) (T := fun _ => False) (po.rel.out_eq (U' := un U fun _ => False) fun a => by simp [un]) hM' hs0 ((h6 a).mpr (.inl rfl)) ol' h5 (fun b z => .inl ((h6 b).mpr (.inr z))) (fun _ h => h.elim)
              refine h σ _ S' ⟨r', fun b o hb n => ?_, fun j b z => ?_, fun _ _ => rfl⟩
              · refine k1 b o (po.keep b o hb n) fun j z => ?_
                rcases po.grow j b z with ⟨k, w⟩ | w
                · exact n k w
                · rw [w] at hb; cases hb
              · rcases k2 j b z with ⟨k, w⟩ | w | w
                · exact po.grow k b w
                · exact w.elim
                · cases hb : H b with
                  | none => exact .inr rfl
                  | some o =>
                    left
                    refine Classical.byContradiction fun n => ?_
                    rw [po.keep b o hb fun k q => n ⟨k, q⟩] at w
                    cases w
          | _ => rw [he] at h; exact h.elim
def fExt (ds : List D) : D → Option (List D)
  | .lst es => if immL es && decide (ds.length + es.length ≤ sizeLine) then some (ds ++ es) else none
  | .tup es => if immL es && decide (ds.length + es.length ≤ sizeLine) then some (ds ++ es) else none
  | _ => none
def rExtAll (K : PySem.W.Frag) : V → List V → Hp → VK → Prop := fun x vs H Q => rExtend x vs H Q ∨ rExtendT K x vs H Q
theorem mt_extAll : MtR X "list.extend" (rExtAll X.K) := MtR.or mt_extend mt_extendT
theorem me_extend {K : PySem.W.Frag} : MutE K (rExtAll K) fExt := by
  intro H a vs v ds d ds' T1 Q h1 h2 h3 h4 h5
  have l1 := h2.length
  cases h3 <;> try (simp [fExt] at h4; done)
  · rename_i b ws es hb rb
    have l2 := rb.length
    simp only [fExt] at h4
    split at h4
    · rename_i hl
      simp only [Bool.and_eq_true, decide_eq_true_eq] at hl
      cases h4
      exact .inr ⟨a, b, vs, ws, rfl, rfl, h1, hb, by omega, h5 _ (h2.append (immL_ow hl.1 rb) (fun _ _ h => h) fun b => by simp)⟩
    · cases h4
  · rename_i b ws es hb rb
    have l2 := rb.length
    simp only [fExt] at h4
    split at h4
    · rename_i hl
      simp only [Bool.and_eq_true, decide_eq_true_eq] at hl
      cases h4
      exact .inl ⟨a, b, vs, ws, rfl, rfl, h1, hb, by omega, h5 _ (h2.append (immL_ow hl.1 rb) (fun _ _ h => h) fun b => by simp)⟩
    · cases h4
theorem s_extend (hM : G.M.contains i = true) (hN : X.N[i]? = some x) (hv : Vis X.env.scope x) (h : SE X G.M W e F) (hns : noStar [e] = true := by rfl) (hd : (x == ("__debug__" : Str)) = false := by decide) (hcd : (x == ("__classdict__" : Str)) = false := by decide)
    (hline : (apos.endLine == cpos.line) = true := by rfl) :
    SS X G W (.Expr (.Call (.Attribute (.Name x p1) "extend" apos) [e] [] cpos) pos) (sMut i F fExt) := s_mutE me_extend PySem.F.slot_list_extend PySem.F.type_list_extend mt_extAll hM hN hv h hns hd hcd hline
end
end Rf

namespace Rf
open PySem PySem.Spec PyProof.Rows L2

section
variable {K : PySem.W.Frag} {M : List Nat} {U : AS} {S : Nat → AS} {H : Hp} {σ : L2.St} {env : Env} {i : Nat}
/-- a slot's list is exchanged for one of some of its own things -/
theorem own_put {a : Addr} {vs vs' : List V} {ds' : List D} {T1 T' : AS} (r : Rel K M U S H σ env) (hi : i ∈ M) (hv : σ[i]? = some (some (.ref a))) (ha : H a = some (.lst vs)) (h6 : ∀ b, S i b ↔ b = a ∨ T1 b) (h5 : ¬ T1 a) (hT : ∀ b, T' b → T1 b) (ol : OwL K H vs' ds' T') :
    ∃ S', Post K M U S H σ S' (upd H a (.lst vs')) (env.set i (some (.lst ds'))) := by
  have hup := ow_tup (K := K) (H := H) (a := a) (o := .lst vs') (fun xs z => by rw [ha] at z; cases z) (fun _ _ z => by rw [ha] at z; cases z)
  have na : ¬ T' a := fun z => h5 (hT a z)
  have ol' : OwL K (upd H a (.lst vs')) vs' ds' T' := ol.carry hup.1 hup.2 fun b o hb ho => by
    rw [upd_ne (fun e => na (by rw [← e]; exact hb))]
    exact ho
  obtain ⟨S', r', k1, k2⟩ := lst_put (U := U) (T := fun _ => False) (r.out_eq (U' := un U fun _ => False) fun a => by simp [un]) hi hv ((h6 a).mpr (.inl rfl)) ol' na (fun b z => .inl ((h6 b).mpr (.inr (hT b z)))) (fun _ h => h.elim)
  exact ⟨S', r', k1, fun j b z => (k2 j b z).elim .inl fun w => w.elim (fun f => f.elim) .inr⟩
theorem OwL.get {K : PySem.W.Frag} {H : Hp} : ∀ {vs : List V} {ds : List D} {S : AS} {k : Nat} {d : D}, OwL K H vs ds S → ds[k]? = some d → ∃ v, vs[k]? = some v ∧ Rp K H v d := fun h e => h.rp.get e
theorem OwL.erase {K : PySem.W.Frag} {H : Hp} : ∀ {vs : List V} {ds : List D} {S : AS} (k : Nat), OwL K H vs ds S → ∃ S', OwL K H (vs.eraseIdx k) (ds.eraseIdx k) S' ∧ ∀ b, S' b → S b
  | _, _, S, _, .nil n => ⟨S, by simp; exact .nil n, fun _ h => h⟩
  | _, _, _, 0, .cons (R := R1) _ t _ e => ⟨R1, t, fun b h => (e b).mpr (.inr h)⟩
  | _, _, _, k + 1, .cons (T := T1) (R := R1) o t d e => by
    obtain ⟨S', h1, h2⟩ := OwL.erase k t
    exact ⟨fun b => T1 b ∨ S' b, .cons o h1 (fun b q1 q2 => d b q1 (h2 b q2)) fun b => Iff.rfl, fun b h => (e b).mpr (h.imp id (h2 b))⟩
theorem OwL.setI {K : PySem.W.Frag} {H : Hp} {v : V} {d : D} (hi : imm d = true) (hr : Rp K H v d) : ∀ {vs : List V} {ds : List D} {S : AS} (k : Nat), OwL K H vs ds S → ∃ S', OwL K H (vs.set k v) (ds.set k d) S' ∧ ∀ b, S' b → S b
  | _, _, S, _, .nil n => ⟨S, by simp; exact .nil n, fun _ h => h⟩
  | _, _, _, 0, .cons (R := R1) _ t _ e => ⟨R1, .cons (T := fun _ => False) (R := R1) (.leaf hi hr fun _ h => h) t (fun _ h => h.elim) fun b => by simp, fun b h => (e b).mpr (.inr h)⟩
  | _, _, _, k + 1, .cons (T := T1) (R := R1) o t d' e => by
    obtain ⟨S', h1, h2⟩ := OwL.setI hi hr k t
    exact ⟨fun b => T1 b ∨ S' b, .cons o h1 (fun b q1 q2 => d' b q1 (h2 b q2)) fun b => Iff.rfl, fun b h => (e b).mpr (h.imp id (h2 b))⟩
end
section
variable {X : Cx} {G : Pl} {M : List Nat} {W : WX} {i : Nat} {x : Str} {e ie : Expr} {F : Env → R D} {p1 apos cpos pos : Pos}
/-! x.pop(e), x in an owning slot -/
def ePopAt (i : Nat) (F : Env → R D) : Env → R D := fun env => if isL env[i]? then match F env with
  | .ok (.int k) e => match e[i]? with
    | some (some (.lst ds)) => match ixN ds.length k with
      | some j => match ds[j]? with
        | some d => if imm d && decide (ds.length ≤ sizeLine) then .ok d (e.set i (some (.lst (ds.eraseIdx j)))) else .bad
        | none => .bad
      | none => .bad
    | _ => .bad
  | .ok _ _ => .bad
  | .exc c d e => .exc c d e
  | .bad => .bad else .bad
theorem se_popAt (hM : M.contains i = true) (hN : X.N[i]? = some x) (hv : Vis X.env.scope x) (h : SE X M W e F) (hns : noStar [e] = true := by rfl) (hd : (x == ("__debug__" : Str)) = false := by decide) (hcd : (x == ("__classdict__" : Str)) = false := by decide)
    (hline : (apos.endLine == cpos.line) = true := by rfl) : SE X M W (.Call (.Attribute (.Name x p1) "pop" apos) [e] [] cpos) (ePopAt i F) := by
  obtain ⟨t, p, q⟩ := h
  obtain ⟨n1, n2⟩ := noStar_head hns X.env
  have hM' : i ∈ M := by simpa using hM
  refine ⟨_, pe_bm PySem.F.plainAttrs_list PySem.F.slot_list_pop PySem.F.type_list_pop mt_popAt (pe_var hN hv hd hcd) (pa_cons p pa_nil n1) rfl (by rw [n1]; rfl) hline n1 rfl, fun σ H env U S r Q h => ?_⟩
  unfold ePopAt at h
  cases hL : isL env[i]? with
  | false => rw [hL] at h; exact (show False by simpa [PoE] using h).elim
  | true =>
    rw [hL] at h
    simp only [if_true] at h
    obtain ⟨a, vs0, hs0, ha0⟩ := isL_ow r hM' hL
    refine ⟨.ref a, hs0, .inl ⟨rfl, vs0, SqL.of ha0⟩, q σ H env U S r _ ?_⟩
    cases hF : F env with
    | bad => rw [hF] at h; exact h.elim
    | exc c d e => rw [hF] at h; exact h
    | ok d0 e1 =>
      rw [hF] at h
      intro v H1 S1 po rp
      cases rp <;> try exact h.elim
      rename_i k
      simp only at h
      cases he : e1[i]? with
      | none => rw [he] at h; exact h.elim
      | some o =>
        cases o with
        | none => rw [he] at h; exact h.elim
        | some di =>
          cases di with
          | lst ds =>
            rw [he] at h
            simp only at h
            cases hj : ixN ds.length k with
            | none => rw [hj] at h; exact h.elim
            | some j =>
              rw [hj] at h
              simp only at h
              cases hd' : ds[j]? with
              | none => rw [hd'] at h; exact h.elim
              | some d =>
                rw [hd'] at h
                simp only at h
                cases hi0 : (imm d && decide (ds.length ≤ sizeLine)) with
                | false => rw [hi0] at h; exact (show False by simpa [PoE] using h).elim
                | true =>
                  rw [hi0] at h
                  simp only [if_true] at h
                  simp only [Bool.and_eq_true, decide_eq_true_eq] at hi0
                  obtain ⟨hi, hz⟩ := hi0
                  obtain ⟨v', h1, h2⟩ := po.rel.own i _ hM' he
                  have : v' = .ref a := by rw [hs0] at h1; cases h1; rfl
                  subst this
                  obtain ⟨a', vs, T1, e', h3, h4, h5, h6⟩ := lst_ow h2
                  cases e'
                  obtain ⟨y, hy, ry⟩ := h4.get hd'
                  obtain ⟨T', o1, o2⟩ := h4.erase j
                  obtain ⟨S', po'⟩ := own_put po.rel hM' hs0 h3 h6 h5 o2 o1
                  obtain ⟨hs1, hs2, hs3, hs4⟩ := ixN_seq hj
                  refine ⟨a, vs, k, j, y, rfl, rfl, h3, ?_, ?_, by rw [h4.length]; exact hs1, hy, h y _ S' (po.trans po') ?_⟩
                  · have := line63
                    omega
                  · have := line63
                    omega
                  · have hup := ow_tup (K := X.K) (H := H1) (a := a) (o := .lst (vs.eraseIdx j)) (fun xs z => by rw [h3] at z; cases z) (fun _ _ z => by rw [h3] at z; cases z)
                    exact Rp.imm (vis_tup po'.rel.nt) hi (Rp.imm hup.1 hi ry)
          | _ => rw [he] at h; exact h.elim
/-! x[k] = e, x in an owning slot -/
def sSetIx (i : Nat) (F : Env → R D) (I : Env → O D) : Env → Fl := fun env => match F env with
  | .ok d e => match e[i]?, I e with
    | some (some (.lst ds)), .ok (.int k) => match ixN ds.length k with
      | some j => if imm d then .nx (e.set i (some (.lst (ds.set j d)))) else .bad
      | none => .bad
    | _, _ => .bad
  | .exc c d e => .exc c d e
  | .bad => .bad
theorem s_setIx {I : Env → O D} (hM : G.M.contains i = true) (hN : X.N[i]? = some x) (hv : Vis X.env.scope x) (h : SE X G.M W e F) (hI : SP X G.M W false ie I) (hs : swapsWithSole [.Subscript (.Name x p1) ie apos] e pos.line X.env = pure false := by rfl) (hw : swappedStores [.Subscript (.Name x p1) ie apos] e X.env = pure none := by rfl)
    (pgs : ∀ to ti t, PE X (.Name x p1) to → PE X ie ti → PSet X t → PG X (.Subscript (.Name x p1) ie apos) (gSub to ti t) := by intro to ti t h1 h2 h3; exact pg_sub h1 h2 h3)
    (hd : (x == ("__debug__" : Str)) = false := by decide) (hcd : (x == ("__classdict__" : Str)) = false := by decide) :
    SS X G W (.Assign [.Subscript (.Name x p1) ie apos] e pos) (sSetIx i F I) := by
  obtain ⟨t, p, q⟩ := h
  obtain ⟨ti, pi, qi⟩ := hI
  have hM' : i ∈ G.M := by simpa using hM
  refine ⟨_, ps_asg p (pgs _ _ _ (pe_var hN hv hd hcd) pi set_list) hs hw, fun σ H env U S r E h => q σ H env U S r _ ?_⟩
  unfold sSetIx at h
  cases hF : F env with
  | bad => rw [hF] at h; exact h.elim
  | exc c d e => rw [hF] at h; exact fun dx v H' S' po x z rp => h dx v σ H' S' (.of po) x z rp
  | ok d e1 =>
    rw [hF] at h
    simp only at h
    intro v H1 S1 po rp
    cases he : e1[i]? with
    | none => rw [he] at h; exact h.elim
    | some o =>
      cases o with
      | none => rw [he] at h; exact h.elim
      | some di =>
        cases di with
        | lst ds =>
          rw [he] at h
          obtain ⟨v', h1, h2⟩ := po.rel.own i _ hM' he
          refine ⟨v', h1, qi σ H1 e1 U S1 po.rel _ ?_⟩
          cases hI : I e1 with
          | bad => rw [hI] at h; exact h.elim
          | exc c d => rw [hI] at h; exact h.elim
          | ok dk =>
            rw [hI] at h
            intro vk H2 ex rk
            cases rk <;> try exact h.elim
            rename_i k
            simp only at h
            cases hj : ixN ds.length k with
            | none => rw [hj] at h; exact h.elim
            | some j =>
              rw [hj] at h
              simp only at h
              cases hi : imm d with
              | false => rw [hi] at h; exact (show False by simpa [PoS] using h).elim
              | true =>
                rw [hi] at h
                simp only [if_true] at h
                have po2 := po.trans (po.rel.post ex)
                obtain ⟨v2, h1', h2'⟩ := po2.rel.own i _ hM' he
                have : v2 = v' := by rw [h1] at h1'; cases h1'; rfl
                subst this
                obtain ⟨a, vs, T1, e', h3, h4, h5, h6⟩ := lst_ow h2'
                subst e'
                have rp2 : Rp X.K H2 v d := (rp.mono vis_ex).mono ex
                obtain ⟨T', o1, o2⟩ := h4.setI hi rp2 j
                obtain ⟨S', po'⟩ := own_put po2.rel hM' h1 h3 h6 h5 o2 o1
                exact ⟨a, vs, k, j, rfl, rfl, h3, by rw [h4.length]; exact hj, h σ _ S' (.of (po2.trans po'))⟩
        | _ => rw [he] at h; exact h.elim
end
end Rf

namespace Rf
open PySem PySem.Spec PyProof.Rows L2

/-! calls that change what is handed in -/
inductive Arg where
  | io (i : Nat)
  | ex (F : Env → R D)
def slotOf : List Arg → Nat → Option Nat
  | [], _ => none
  | .io i :: _, 0 => some i
  | .ex _ :: _, 0 => none
  | _ :: as, p + 1 => slotOf as p
def paramOf : List Arg → Nat → Option Nat
  | [], _ => none
  | .io i :: as, j => if i = j then some 0 else (paramOf as j).map (· + 1)
  | .ex _ :: as, j => (paramOf as j).map (· + 1)
theorem paramOf_slot : ∀ {as : List Arg} {j p : Nat}, paramOf as j = some p → slotOf as p = some j
  | [], _, _, h => by simp [paramOf] at h
  | .io i :: as, j, p, h => by
    unfold paramOf at h
    split at h
    · rename_i e; cases h; simp [slotOf, e]
    · cases hq : paramOf as j with
      | none => rw [hq] at h; simp at h
      | some q => rw [hq] at h; simp at h; subst h; simp [slotOf, paramOf_slot hq]
  | .ex F :: as, j, p, h => by
    unfold paramOf at h
    cases hq : paramOf as j with
    | none => rw [hq] at h; simp at h
    | some q => rw [hq] at h; simp at h; subst h; simp [slotOf, paramOf_slot hq]
theorem paramOf_none : ∀ {as : List Arg} {j p : Nat}, paramOf as j = none → slotOf as p ≠ some j
  | [], _, _, _ => by simp [slotOf]
  | .io i :: as, j, p, h => by
    unfold paramOf at h
    split at h
    · cases h
    · rename_i ne
      cases p with
      | zero => simp [slotOf]; exact ne
      | succ p => simp only [slotOf]; exact paramOf_none (by simpa using h)
  | .ex F :: as, j, p, h => by
    unfold paramOf at h
    cases p with
    | zero => simp [slotOf]
    | succ p => simp only [slotOf]; exact paramOf_none (by simpa using h)
/-- no slot twice -/
def ndA : List Arg → Bool
  | [] => true
  | .io i :: as => (paramOf as i).isNone && ndA as
  | .ex _ :: as => ndA as
theorem slotOf_param : ∀ {as : List Arg} {j p : Nat}, ndA as = true → slotOf as p = some j → paramOf as j = some p
  | [], _, _, _, h => by simp [slotOf] at h
  | .io i :: as, j, 0, n, h => by simp [slotOf] at h; subst h; simp [paramOf]
  | .io i :: as, j, p + 1, n, h => by
    simp only [slotOf] at h
    simp only [ndA, Bool.and_eq_true, Option.isNone_iff_eq_none] at n
    have := slotOf_param n.2 h
    unfold paramOf
    have ne : i ≠ j := fun e => by subst e; rw [n.1] at this; cases this
    rw [if_neg ne, this]; rfl
  | .ex F :: as, j, 0, n, h => by simp [slotOf] at h
  | .ex F :: as, j, p + 1, n, h => by
    simp only [slotOf] at h
    simp only [ndA] at n
    unfold paramOf
    rw [slotOf_param n h]; rfl
def updO : List Arg → Env → Env → Env
  | .io i :: as, o :: os, env => updO as os (env.set i o)
  | .ex _ :: as, _ :: os, env => updO as os env
  | _, _, env => env
theorem updO_length : ∀ (as : List Arg) (o env : Env), (updO as o env).length = env.length
  | [], _, _ => by simp [updO]
  | .io i :: as, [], env => by simp [updO]
  | .io i :: as, o :: os, env => by simp [updO, updO_length as os]
  | .ex F :: as, [], env => by simp [updO]
  | .ex F :: as, o :: os, env => by simp [updO, updO_length as os]
theorem updO_get : ∀ {as : List Arg} {o env : Env} {j : Nat} {d : D}, ndA as = true → o.length = as.length → (updO as o env)[j]? = some (some d) → (∃ p, paramOf as j = some p ∧ o[p]? = some (some d)) ∨ (paramOf as j = none ∧ env[j]? = some (some d))
  | [], _, _, _, _, _, _, h => .inr ⟨rfl, by simpa [updO] using h⟩
  | .io i :: as, [], _, _, _, _, hl, _ => by simp at hl
  | .ex F :: as, [], _, _, _, _, hl, _ => by simp at hl
  | .io i :: as, o :: os, env, j, d, n, hl, h => by
    simp only [ndA, Bool.and_eq_true, Option.isNone_iff_eq_none] at n
    simp only [updO] at h
    rcases updO_get n.2 (by simpa using hl) h with ⟨p, h1, h2⟩ | ⟨h1, h2⟩
    · left
      have ne : i ≠ j := fun e => by subst e; rw [n.1] at h1; cases h1
      exact ⟨p + 1, by unfold paramOf; rw [if_neg ne, h1]; rfl, by simpa using h2⟩
    · rcases set_get h2 with ⟨rfl, h3, _⟩ | ⟨h3, h4⟩
      · left; exact ⟨0, by unfold paramOf; rw [if_pos rfl], by simp [h3]⟩
      · right; exact ⟨by unfold paramOf; rw [if_neg (Ne.symm h3), h1]; rfl, h4⟩
  | .ex F :: as, o :: os, env, j, d, n, hl, h => by
    simp only [ndA] at n
    simp only [updO] at h
    rcases updO_get n (by simpa using hl) h with ⟨p, h1, h2⟩ | ⟨h1, h2⟩
    · left; exact ⟨p + 1, by unfold paramOf; rw [h1]; rfl, by simpa using h2⟩
    · right; exact ⟨by unfold paramOf; rw [h1]; rfl, h2⟩
/-- the arguments, from the left: a slot to be changed, or a thing -/
def argsR : List Arg → Env → R (List (Nat ⊕ D))
  | [], env => .ok [] env
  | .io i :: as, env => match env[i]? with
    | some (some _) => (argsR as env).bind fun xs env => .ok (.inl i :: xs) env
    | _ => .bad
  | .ex F :: as, env => (F env).bind fun d env => (argsR as env).bind fun xs env => .ok (.inr d :: xs) env
/-- what the call sees -/
def argD (env : Env) : List (Nat ⊕ D) → Option (List D)
  | [] => some []
  | .inl i :: r => match env[i]? with
    | some (some d) => (argD env r).map (d :: ·)
    | _ => none
  | .inr d :: r => (argD env r).map (d :: ·)
inductive RA (K : PySem.W.Frag) (σ : L2.St) (H : Hp) : List V → List Arg → List (Nat ⊕ D) → Prop
  | nil : RA K σ H [] [] []
  | io {i : Nat} {v : V} {vs : List V} {as : List Arg} {xs : List (Nat ⊕ D)} : σ[i]? = some (some v) → RA K σ H vs as xs → RA K σ H (v :: vs) (.io i :: as) (.inl i :: xs)
  | ex {F : Env → R D} {d : D} {v : V} {vs : List V} {as : List Arg} {xs : List (Nat ⊕ D)} : Rp K H v d → RA K σ H vs as xs → RA K σ H (v :: vs) (.ex F :: as) (.inr d :: xs)
theorem RA.len {K : PySem.W.Frag} {σ : L2.St} {H : Hp} {vs : List V} {as : List Arg} {xs : List (Nat ⊕ D)} (h : RA K σ H vs as xs) : vs.length = as.length := by
  induction h with
  | nil => rfl
  | io _ _ ih => simp [ih]
  | ex _ _ ih => simp [ih]
theorem RA.mono {K : PySem.W.Frag} {σ : L2.St} {H H' : Hp} (e : Ex H H') {vs : List V} {as : List Arg} {xs : List (Nat ⊕ D)} (h : RA K σ H vs as xs) : RA K σ H' vs as xs := by
  induction h with
  | nil => exact .nil
  | io a _ ih => exact .io a ih
  | ex a _ ih => exact .ex (a.mono e) ih
inductive SAs (X : Cx) (M : List Nat) (W : WX) : List Expr → List Arg → Prop
  | nil : SAs X M W [] []
  | io {i : Nat} {x : Str} {p : Pos} {es : List Expr} {as : List Arg} : X.N[i]? = some x → Vis X.env.scope x → (x == ("__debug__" : Str)) = false → (x == ("__classdict__" : Str)) = false → M.contains i = true → SAs X M W es as → SAs X M W (.Name x p :: es) (.io i :: as)
  | ex {e : Expr} {es : List Expr} {F : Env → R D} {as : List Arg} : SE X M W e F → SAs X M W es as → SAs X M W (e :: es) (.ex F :: as)
section
variable {X : Cx} {M : List Nat} {W : WX}
theorem sas_run {es : List Expr} {as : List Arg} (h : SAs X M W es as) : ∃ ts, PEs X es ts ∧ ∀ σ H env U S, Rel X.K M U S H σ env → ∀ (k : List V → Hp → Prop),
    PoE X.K M W U S H σ (fun S' H' vs xs => RA X.K σ (vis H' (zo U S')) vs as xs) k (argsR as env) → sq ts σ H k := by
  induction h with
  | nil => exact ⟨[], .nil, fun σ H env U S r k h => h [] H S (r.post (Ex.refl H)) .nil⟩
  | @io i x p es as hN hv hd hcd hM _ ih =>
    obtain ⟨ts, ps, qs⟩ := ih
    refine ⟨tVar i :: ts, .cons (pe_var hN hv hd hcd) ps, fun σ H env U S r k h => ?_⟩
    unfold argsR at h
    cases he : env[i]? with
    | none => rw [he] at h; exact h.elim
    | some o =>
      cases o with
      | none => rw [he] at h; exact h.elim
      | some d =>
        rw [he] at h
        simp only at h
        obtain ⟨v, h1, _⟩ := r.own i d (by simpa using hM) he
        refine ⟨v, h1, qs σ H env U S r _ (PoE.step h fun xs env2 vs H2 S2 hF p2 r2 h2 => ?_)⟩
        exact h2 (v :: vs) H2 S2 (p2.rel.post (Ex.refl H2)) (.io h1 r2)
  | @ex e es F as h1 _ ih =>
    obtain ⟨t, p, q⟩ := h1
    obtain ⟨ts, ps, qs⟩ := ih
    refine ⟨t :: ts, .cons p ps, fun σ H env U S r k h => ?_⟩
    unfold argsR at h
    refine q σ H env U S r _ (PoE.step h fun d env1 v H1 S1 hF p1 r1 h1 => ?_)
    refine qs σ H1 env1 U S1 p1.rel _ (PoE.step h1 fun xs env2 vs H2 S2 hFs p2 r2 h2 => ?_)
    exact h2 (v :: vs) H2 S2 (p2.rel.post (Ex.refl H2)) (.ex (r1.mono p2.vis) r2)
end
section
variable {K : PySem.W.Frag} {M : List Nat} {U : AS} {S : Nat → AS} {H : Hp} {σ : L2.St} {env : Env} {as : List Arg} {vs : List V} {xs : List (Nat ⊕ D)} {ds : List D}
def uC (as : List Arg) (U : AS) (S : Nat → AS) : AS := fun a => U a ∨ ∃ j, paramOf as j = none ∧ S j a
def sC (as : List Arg) (S : Nat → AS) : Nat → AS := fun p a => ∃ i, slotOf as p = some i ∧ S i a
theorem sC_eq {as : List Arg} {S : Nat → AS} {p i : Nat} (h : slotOf as p = some i) : sC as S p = S i := by
  funext a
  apply propext
  constructor
  · rintro ⟨j, h1, h2⟩
    rw [h] at h1; cases h1; exact h2
  · exact fun z => ⟨i, h, z⟩
theorem zo_C (n : ndA as = true) : zo (uC as U S) (sC as S) = zo U S := by
  funext a
  apply propext
  constructor
  · rintro ((z | ⟨j, _, z⟩) | ⟨p, z⟩)
    · exact .inl z
    · exact .inr ⟨j, z⟩
    · obtain ⟨i, _, z⟩ := z
      exact .inr ⟨i, z⟩
  · rintro (z | ⟨j, z⟩)
    · exact .inl (.inl z)
    · cases hp : paramOf as j with
      | none => exact .inl (.inr ⟨j, hp, z⟩)
      | some p => exact .inr ⟨p, j, paramOf_slot hp, z⟩
/-- what the call sees stands for what it is -/
theorem ra_get : ∀ {H : Hp} {vs : List V} {as : List Arg} {xs : List (Nat ⊕ D)} {ds : List D}, RA K σ H vs as xs → argD env xs = some ds → ∀ p d, ds[p]? = some d →
    (∃ i v, slotOf as p = some i ∧ vs[p]? = some v ∧ σ[i]? = some (some v) ∧ env[i]? = some (some d)) ∨ (∃ v, slotOf as p = none ∧ vs[p]? = some v ∧ Rp K H v d)
  | _, _, _, _, _, .nil, h, p, d, e => by simp [argD] at h; subst h; simp at e
  | _, _, _, _, _, .io (i := i) (v := v) h1 t, h, p, d, e => by
    simp only [argD] at h
    split at h
    · rename_i d0 he
      cases hq : argD env _ with
      | none => rw [hq] at h; simp at h
      | some ds0 =>
        rw [hq] at h
        simp at h
        subst h
        cases p with
        | zero => simp at e; subst e; exact .inl ⟨i, v, rfl, rfl, h1, he⟩
        | succ p =>
          rcases ra_get t hq p d (by simpa using e) with ⟨i', v', a, b, c, f⟩ | ⟨v', a, b, c⟩
          · exact .inl ⟨i', v', by simpa [slotOf] using a, by simpa using b, c, f⟩
          · exact .inr ⟨v', by simpa [slotOf] using a, by simpa using b, c⟩
    · cases h
  | _, _, _, _, _, .ex (v := v) h1 t, h, p, d, e => by
    simp only [argD] at h
    cases hq : argD env _ with
    | none => rw [hq] at h; simp at h
    | some ds0 =>
      rw [hq] at h
      simp at h
      subst h
      cases p with
      | zero => simp at e; subst e; exact .inr ⟨v, rfl, rfl, h1⟩
      | succ p =>
        rcases ra_get t hq p d (by simpa using e) with ⟨i', v', a, b, c, f⟩ | ⟨v', a, b, c⟩
        · exact .inl ⟨i', v', by simpa [slotOf] using a, by simpa using b, c, f⟩
        · exact .inr ⟨v', by simpa [slotOf] using a, by simpa using b, c⟩
theorem argD_len : ∀ {xs : List (Nat ⊕ D)} {ds : List D}, argD env xs = some ds → ds.length = xs.length
  | [], _, h => by simp [argD] at h; subst h; rfl
  | .inl i :: r, _, h => by
    simp only [argD] at h
    split at h
    · cases hq : argD env r with
      | none => rw [hq] at h; simp at h
      | some ds0 => rw [hq] at h; simp at h; subst h; simp [argD_len hq]
    · cases h
  | .inr d :: r, _, h => by
    simp only [argD] at h
    cases hq : argD env r with
    | none => rw [hq] at h; simp at h
    | some ds0 => rw [hq] at h; simp at h; subst h; simp [argD_len hq]
theorem RA.len2 {σ : L2.St} {H : Hp} {vs : List V} {as : List Arg} {xs : List (Nat ⊕ D)} (h : RA K σ H vs as xs) : xs.length = as.length := by
  induction h with
  | nil => rfl
  | io _ _ ih => simp [ih]
  | ex _ _ ih => simp [ih]
/-- the parameters that are changed are those handed in as slots -/
def ioOk (as : List Arg) (io : List Nat) : Bool := (List.range as.length).all fun p => (slotOf as p).isSome == io.contains p
theorem rel_C {io : List Nat} (r : Rel K M U S H σ env) (n : ndA as = true) (ho : ioOk as io = true) (hM : ∀ p i, slotOf as p = some i → i ∈ M) (ra : RA K σ (vis H (zo U S)) vs as xs) (ha : argD env xs = some ds) :
    Rel K io (uC as U S) (sC as S) H (vs.map some) (ds.map some) := by
  have hlen : ds.length = as.length := by rw [argD_len ha, ra.len2]
  have hio : ∀ p, p < as.length → ((slotOf as p).isSome = true ↔ p ∈ io) := fun p hp => by
    have := List.all_eq_true.mp ho p (List.mem_range.mpr hp)
    have h2 : (slotOf as p).isSome = io.contains p := by simpa using this
    rw [h2]; simp
  have get : ∀ p d, (ds.map some)[p]? = some (some d) → ds[p]? = some d := fun p d h => by
    rw [List.getElem?_map] at h
    cases hq : ds[p]? with
    | none => rw [hq] at h; simp at h
    | some d' => rw [hq] at h; simp at h; rw [h]
  refine ⟨fun p d hp he => ?_, fun p d hp he => ?_, fun p q a ne h1 h2 => ?_, fun p a h u => ?_, by rw [zo_C n]; exact r.nt, by simp [ra.len, hlen]⟩
  · have hd := get p d he
    have hlt : p < as.length := by rw [← hlen]; exact (List.getElem?_eq_some_iff.mp hd).1
    rcases ra_get ra ha p d hd with ⟨i, v, h1, h2, h3, h4⟩ | ⟨v, h1, h2, h3⟩
    · obtain ⟨v', h5, h6⟩ := r.own i d (hM p i h1) h4
      have : v' = v := by rw [h3] at h5; cases h5; rfl
      subst this
      refine ⟨v', by rw [List.getElem?_map, h2]; rfl, ?_⟩
      rw [sC_eq h1]
      exact h6
    · have := (hio p hlt).mpr hp
      rw [h1] at this
      cases this
  · have hd := get p d he
    have hlt : p < as.length := by rw [← hlen]; exact (List.getElem?_eq_some_iff.mp hd).1
    rcases ra_get ra ha p d hd with ⟨i, v, h1, h2, h3, h4⟩ | ⟨v, h1, h2, h3⟩
    · exact absurd ((hio p hlt).mp (by rw [h1]; rfl)) hp
    · refine ⟨v, by rw [List.getElem?_map, h2]; rfl, ?_⟩
      rw [zo_C n]
      exact h3
  · obtain ⟨i, hi, h1⟩ := h1
    obtain ⟨j, hj, h2⟩ := h2
    have : i ≠ j := fun e => by
      subst e
      have e1 := slotOf_param n hi
      have e2 := slotOf_param n hj
      rw [e1] at e2
      cases e2
      exact ne rfl
    exact r.dis i j a this h1 h2
  · obtain ⟨i, hi, h⟩ := h
    rcases u with u | ⟨j, hj, u⟩
    · exact r.out i a h u
    · have : i ≠ j := fun e => by subst e; exact paramOf_none hj hi
      exact r.dis i j a this h u
def sB (as : List Arg) (S S' : Nat → AS) : Nat → AS := fun j a => (∃ p, paramOf as j = some p ∧ S' p a) ∨ (paramOf as j = none ∧ S j a)
theorem sB_some {as : List Arg} {S S' : Nat → AS} {j p : Nat} (h : paramOf as j = some p) : sB as S S' j = S' p := by
  funext a
  apply propext
  constructor
  · rintro (⟨q, h1, h2⟩ | ⟨h1, _⟩)
    · rw [h] at h1; cases h1; exact h2
    · rw [h] at h1; cases h1
  · exact fun z => .inl ⟨p, h, z⟩
theorem sB_none {as : List Arg} {S S' : Nat → AS} {j : Nat} (h : paramOf as j = none) : sB as S S' j = S j := by
  funext a
  apply propext
  constructor
  · rintro (⟨q, h1, _⟩ | ⟨_, h2⟩)
    · rw [h] at h1; cases h1
    · exact h2
  · exact fun z => .inr ⟨h, z⟩
/-- behind the call -/
theorem post_C {io : List Nat} {S' : Nat → AS} {H' : Hp} {o : Env} (r : Rel K M U S H σ env) (n : ndA as = true) (ho : ioOk as io = true) (hM : ∀ p i, slotOf as p = some i → i ∈ M) (ra : RA K σ (vis H (zo U S)) vs as xs) (hol : o.length = as.length)
    (po : Post K io (uC as U S) (sC as S) H (vs.map some) S' H' o) : Post K M U S H σ (sB as S S') H' (updO as o env) ∧ ∀ a, zo U (sB as S S') a → zo (uC as U S) S' a := by
  have hio : ∀ p, p < as.length → ((slotOf as p).isSome = true → p ∈ io) := fun p hp h => by
    have := List.all_eq_true.mp ho p (List.mem_range.mpr hp)
    have h2 : (slotOf as p).isSome = io.contains p := by simpa using this
    rw [h2] at h; simpa using h
  have ncs : ∀ a, ¬ zo U S a → ∀ p, ¬ sC as S p a := fun a nz p z => nz (by rw [← zo_C n]; exact .inr ⟨p, z⟩)
  have sub : ∀ a, zo U (sB as S S') a → zo (uC as U S) S' a := by
    rintro a (z | ⟨j, z⟩)
    · exact .inl (.inl z)
    · rcases z with ⟨p, _, z⟩ | ⟨hj, z⟩
      · exact .inr ⟨p, z⟩
      · exact .inl (.inr ⟨j, hj, z⟩)
  have vv : Ex (vis H (zo U S)) (vis H' (zo U (sB as S S'))) := fun a ob h => by
    obtain ⟨h1, h2⟩ := of_vis h
    refine vis_in (po.keep a ob h1 (ncs a h2)) fun z => ?_
    rcases sub a z with z | ⟨p, z⟩
    · exact h2 (by rw [← zo_C (as := as) n]; exact .inl z)
    · rcases po.grow p a z with ⟨q, w⟩ | w
      · exact ncs a h2 q w
      · rw [w] at h1; cases h1
  have keepU : ∀ a ob, uC as U S a → H a = some ob → H' a = some ob := fun a ob hu h => po.keep a ob h fun p z => by
    obtain ⟨i, hi, z⟩ := z
    rcases hu with u | ⟨j, hj, u⟩
    · exact r.out i a z u
    · exact r.dis i j a (fun e => by subst e; exact paramOf_none hj hi) z u
  have tp : ∀ a ys, Rd H a (.tup ys) → Rd H' a (.tup ys) := fun a ys h => by
    have nz : ¬ zo U S a := fun z => (r.nt a z).2 ys h
    rcases h with h | ⟨ob, h⟩
    · exact .inl (po.keep a _ h (ncs a nz))
    · exact .inr ⟨ob, po.keep a _ h (ncs a nz)⟩
  have tq : ∀ a ys, H a = some (.tup ys) → H' a = some (.tup ys) := fun a ys h => po.keep a _ h (ncs a fun z => (r.nt a z).2 ys (.inl h))
  refine ⟨⟨⟨fun j d hj he => ?_, fun j d hj he => ?_, fun j k a ne h1 h2 => ?_, fun j a h u => ?_, fun a z => po.rel.nt a (sub a z), by rw [updO_length]; exact r.len⟩, fun a ob h nn => ?_, fun j a z => ?_⟩, sub⟩
  · rcases updO_get n hol he with ⟨p, h1, h2⟩ | ⟨h1, h2⟩
    · have hs := paramOf_slot h1
      have hlt : p < as.length := by rw [← hol]; exact (List.getElem?_eq_some_iff.mp h2).1
      obtain ⟨v, h3, h4⟩ := po.rel.own p d (hio p hlt (by rw [hs]; rfl)) h2
      have : σ[j]? = some (some v) := by
        have : ∀ {vs : List V} {as : List Arg} {xs : List (Nat ⊕ D)} {p : Nat} {v : V} {H : Hp}, RA K σ H vs as xs → slotOf as p = some j → (vs.map some)[p]? = some (some v) → σ[j]? = some (some v) := by
          intro vs as xs p v H ra
          induction ra generalizing p with
          | nil => intro h; simp [slotOf] at h
          | io a _ ih =>
            intro h e
            cases p with
            | zero => simp [slotOf] at h; subst h; simp at e; subst e; exact a
            | succ p => exact ih (by simpa [slotOf] using h) (by simpa using e)
          | ex _ _ ih =>
            intro h e
            cases p with
            | zero => simp [slotOf] at h
            | succ p => exact ih (by simpa [slotOf] using h) (by simpa using e)
        exact this ra hs h3
      exact ⟨v, this, by rw [sB_some h1]; exact h4⟩
    · obtain ⟨v, h3, h4⟩ := r.own j d hj h2
      refine ⟨v, h3, ?_⟩
      rw [sB_none h1]
      exact h4.carry tp tq fun a ob hs hh => keepU a ob (.inr ⟨j, h1, hs⟩) hh
  · rcases updO_get n hol he with ⟨p, h1, h2⟩ | ⟨h1, h2⟩
    · exact absurd (hM p j (paramOf_slot h1)) hj
    · obtain ⟨v, h3, h4⟩ := r.frz j d hj h2
      exact ⟨v, h3, h4.mono vv⟩
  · rcases h1 with ⟨p, hp, h1⟩ | ⟨hj, h1⟩
    · rcases h2 with ⟨q, hq, h2⟩ | ⟨hk, h2⟩
      · have : p ≠ q := fun e => by
          subst e
          have e1 := paramOf_slot hp
          have e2 := paramOf_slot hq
          rw [e1] at e2
          cases e2
          exact ne rfl
        exact po.rel.dis p q a this h1 h2
      · exact po.rel.out p a h1 (.inr ⟨k, hk, h2⟩)
    · rcases h2 with ⟨q, hq, h2⟩ | ⟨hk, h2⟩
      · exact po.rel.out q a h2 (.inr ⟨j, hj, h1⟩)
      · exact r.dis j k a ne h1 h2
  · rcases h with ⟨p, hp, h⟩ | ⟨hj, h⟩
    · exact po.rel.out p a h (.inl u)
    · exact r.out j a h u
  · refine po.keep a ob h fun p z => ?_
    obtain ⟨i, _, z⟩ := z
    exact nn i z
  · rcases z with ⟨p, hp, z⟩ | ⟨hj, z⟩
    · rcases po.grow p a z with ⟨q, i, _, w⟩ | w
      · exact .inl ⟨i, w⟩
      · exact .inr w
    · exact .inl ⟨j, z⟩
end
/-! the call -/
def eCallR (as : List Arg) (g : List D → C) : Env → R D := fun env => (argsR as env).bind fun xs env => match argD env xs with
  | none => .bad
  | some ds => match g ds with
    | .ok d o => if o.length = as.length then .ok d (updO as o env) else .bad
    | .exc c d o => if o.length = as.length then .exc c d (updO as o env) else .bad
    | .bad => .bad
section
variable {X : Cx} {M : List Nat} {W : WX} {k m : Nat} {x : Str} {ro : Bool} {io : List Nat} {g : List D → C} {p pos : Pos} {e : Expr} {es : List Expr} {as : List Arg}
def slotsIn (as : List Arg) (M : List Nat) : Bool := (List.range as.length).all fun p => match slotOf as p with
  | some i => M.contains i
  | none => true
theorem slotOf_lt : ∀ {as : List Arg} {p i : Nat}, slotOf as p = some i → p < as.length
  | [], _, _, h => by simp [slotOf] at h
  | .io i :: as, 0, _, h => by simp
  | .ex F :: as, 0, _, h => by simp
  | .io i :: as, p + 1, _, h => by simp only [slotOf] at h; simp; exact slotOf_lt h
  | .ex F :: as, p + 1, _, h => by simp only [slotOf] at h; simp; exact slotOf_lt h
def ResO (K : PySem.W.Frag) (M : List Nat) (ro : Bool) (U : AS) (S : Nat → AS) (H : Hp) (σ : L2.St) (S' : Nat → AS) (H' : Hp) (env' : Env) (v : V) (d : D) : Prop := match ro with
  | true => ∃ T : AS, Ow K H' v d T ∧ Rel K M (un U T) S' H' σ env' ∧ (∀ a, T a → ¬ U a) ∧ ∀ a, T a → (∃ j, S j a) ∨ H a = none
  | false => Rp K (vis H' (zo U S')) v d
theorem callR_run (G : Gd X W k) (c : CalX X k x m io ro [] g) (hg : Gl X x) (h : SAs X M W (e :: es) as) (hs : noStar (e :: es) = true) (n : ndA as = true) (ho : ioOk as io = true) (hM : slotsIn as M = true) (hm : as.length = m) (hdb : (x == ("__debug__" : Str)) = false) :
    ∃ t, PE X (.Call (.Name x p) (e :: es) [] pos) t ∧ ∀ σ H env U S, Rel X.K M U S H σ env → ∀ Q : VK,
      (∀ d env' v H' S', eCallR as g env = .ok d env' → Post X.K M U S H σ S' H' env' → ResO X.K M ro U S H σ S' H' env' v d → Q v H') →
      (∀ c d env', eCallR as g env = .exc c d env' → ∀ dx v H' S', Post X.K M U S H σ S' H' env' → H' dx = some (.xd [("value", v)]) → ¬ zo U S' dx → Rp X.K (vis H' (zo U S')) v d → W (.ref (He.ga X.K c)) (some dx) σ H') →
      eCallR as g env ≠ .bad → t σ H Q := by
  obtain ⟨f, fd, ps, dvs, dsV, h1, h2, h3, h4, h5, h6, h7⟩ := c.ex
  obtain ⟨ts, pes, qs⟩ := sas_run h
  obtain ⟨t, pa, q⟩ := pa_of pes hs
  obtain ⟨n1, n2⟩ := noStar_head hs X.env
  have hdv : dvs = [] := by
    have := (h7 (fun _ => none)).length
    simpa using this
  subst hdv
  have hM' : ∀ p i, slotOf as p = some i → i ∈ M := fun p i hp => by
    have := List.all_eq_true.mp hM p (List.mem_range.mpr (slotOf_lt hp))
    rw [hp] at this
    simpa using this
  refine ⟨_, pe_callSD h4 G.room hg h1 h2 h5 h6 (fun σ => passAt G.takes σ) pa hdb n1 (noStar_plain n2 pos X.env), fun σ H env U S r Q hok hex hbad => ?_⟩
  refine q σ H _ (qs σ H env U S r _ ?_)
  unfold eCallR at hok hex hbad
  cases hA : argsR as env with
  | bad => rw [hA] at hbad; exact absurd rfl hbad
  | exc c d e' =>
    rw [hA] at hex
    exact fun dx v H' S' po a b c' => hex _ _ _ rfl dx v H' S' po a b c'
  | ok xs env1 =>
    rw [hA] at hok hex hbad
    intro vs H1 S1 po1 ra
    simp only [R.bind] at hok hex hbad
    cases hD : argD env1 xs with
    | none => rw [hD] at hbad; exact absurd rfl hbad
    | some ds =>
      rw [hD] at hok hex hbad
      simp only at hok hex hbad
      have hlen : ds.length = as.length := by rw [argD_len hD, ra.len2]
      rw [List.append_nil]
      refine ⟨by rw [ra.len, hm]; rfl, ds, uC as U S1, sC as S1, by rw [hlen, hm]; rfl, rel_C po1.rel n ho hM' ra hD, ?_⟩
      cases hG : g ds with
      | bad => rw [hG] at hbad; exact absurd rfl hbad
      | ok d o =>
        rw [hG] at hok hex hbad
        simp only at hok hex hbad
        by_cases hol : o.length = as.length
        · rw [if_pos hol] at hok
          intro v H' S' po res
          obtain ⟨pc, sub⟩ := post_C po1.rel n ho hM' ra hol po
          have pt := po1.trans pc
          refine hok d _ v H' _ rfl pt ?_
          unfold Res at res
          unfold ResO
          cases ro with
          | false => exact res.mono (vis_sub sub)
          | true =>
            obtain ⟨T, ow, nz, gr⟩ := res
            have base := pt.rel
            refine ⟨T, ow, ⟨base.own, fun j d' hj he => ?_, base.dis, fun j a hs u => ?_, fun a z => ?_, base.len⟩, fun a ta u => nz a ta (.inl (.inl u)), fun a ta => ?_⟩
            · have he1 : env1[j]? = some (some d') := by
                rcases updO_get n hol he with ⟨p', q1, q2⟩ | ⟨q1, q2⟩
                · exact absurd (hM' p' j (paramOf_slot q1)) hj
                · exact q2
              obtain ⟨v1, h10, h11⟩ := po1.rel.frz j d' hj he1
              refine ⟨v1, h10, h11.mono fun a ob hh => ?_⟩
              obtain ⟨w1, w2⟩ := of_vis hh
              obtain ⟨w3, w4⟩ := of_vis (pc.vis a ob hh)
              refine vis_in w3 fun z => ?_
              rcases z with (z | z) | z
              · exact w4 (.inl z)
              · rcases gr a z with ⟨p', i, _, w⟩ | w
                · exact w2 (.inr ⟨i, w⟩)
                · rw [w] at w1; cases w1
              · exact w4 (.inr z)
            · rcases u with u | u
              · exact base.out j a hs u
              · exact nz a u (sub a (.inr ⟨j, hs⟩))
            · rcases z with (z | z) | z
              · exact base.nt a (.inl z)
              · exact ow.nt a z
              · exact base.nt a (.inr z)
            · rcases gr a ta with ⟨p', i, _, w⟩ | w
              · exact po1.grow i a w
              · cases hh : H a with
                | none => exact .inr rfl
                | some ob =>
                  left
                  refine Classical.byContradiction fun nn => ?_
                  rw [po1.keep a ob hh fun j w' => nn ⟨j, w'⟩] at w
                  cases w
        · rw [if_neg hol] at hbad; exact absurd rfl hbad
      | exc c d o =>
        rw [hG] at hok hex hbad
        simp only at hok hex hbad
        by_cases hol : o.length = as.length
        · rw [if_pos hol] at hex
          intro dx v H' S' po a1 a2 a3
          obtain ⟨pc, sub⟩ := post_C po1.rel n ho hM' ra hol po
          exact hex c d _ rfl dx v H' _ (po1.trans pc) a1 (fun z => a2 (sub dx z)) (a3.mono (vis_sub sub))
        · rw [if_neg hol] at hbad; exact absurd rfl hbad
theorem se_callR (G : Gd X W k) (c : CalX X k x m io false [] g) (hg : Gl X x) (h : SAs X M W (e :: es) as) (n : ndA as = true := by rfl) (ho : ioOk as io = true := by rfl) (hM : slotsIn as M = true := by rfl) (hm : as.length = m := by rfl) (hs : noStar (e :: es) = true := by rfl) (hdb : (x == ("__debug__" : Str)) = false := by decide) :
    SE X M W (.Call (.Name x p) (e :: es) [] pos) (eCallR as g) := by
  obtain ⟨t, pp, q⟩ := callR_run (p := p) (pos := pos) G c hg h hs n ho hM hm hdb
  refine ⟨t, pp, fun σ H env U S r Q hp => q σ H env U S r Q (fun d env' v H' S' he po res => ?_) (fun c d env' he dx v H' S' po a b c' => ?_) fun hb => ?_⟩
  · rw [he] at hp; exact hp v H' S' po res
  · rw [he] at hp; exact hp dx v H' S' po a b c'
  · rw [hb] at hp; exact hp
theorem so_callR (G : Gd X W k) (c : CalX X k x m io true [] g) (hg : Gl X x) (h : SAs X M W (e :: es) as) (n : ndA as = true := by rfl) (ho : ioOk as io = true := by rfl) (hM : slotsIn as M = true := by rfl) (hm : as.length = m := by rfl) (hs : noStar (e :: es) = true := by rfl) (hdb : (x == ("__debug__" : Str)) = false := by decide) :
    SO X M W (.Call (.Name x p) (e :: es) [] pos) (eCallR as g) := by
  obtain ⟨t, pp, q⟩ := callR_run (p := p) (pos := pos) G c hg h hs n ho hM hm hdb
  refine ⟨t, pp, fun σ H env U S r Q hp => q σ H env U S r Q (fun d env' v H' S' he po res => ?_) (fun c d env' he dx v H' S' po a b c' => ?_) fun hb => ?_⟩
  · rw [he] at hp
    obtain ⟨T, ow, rl, nu, gr⟩ := res
    exact hp v H' S' T po rl ow nu gr
  · rw [he] at hp; exact hp dx v H' S' po a b c'
  · rw [hb] at hp; exact hp
end
end Rf

namespace Rf
open PySem PySem.Spec PyProof.Rows L2

/-! fields -/
section
local instance (priority := 10000) qs1 : DecidableEq Str := quickStr
def fLook (f : Str) : List (Str × D) → Option D
  | [] => none
  | (g, d) :: r => if f = g then some d else fLook f r
end
theorem look_rp {K : PySem.W.Frag} {H : Hp} {f : Str} : ∀ {fs : List (Str × V)} {ds : List (Str × D)} {d : D}, fs.map (·.1) = ds.map (·.1) → RpL K H (fs.map (·.2)) (ds.map (·.2)) → fLook f ds = some d → ∃ v, fs.lookup f = some v ∧ Rp K H v d
  | [], [], _, _, _, h => by simp [fLook] at h
  | [], _ :: _, _, h, _, _ => by simp at h
  | _ :: _, [], _, h, _, _ => by simp at h
  | (a, v) :: fs, (b, e) :: ds, d, h, r, hl => by
    simp only [List.map_cons, List.cons.injEq] at h
    obtain ⟨rfl, h⟩ := h
    cases r with
    | cons r1 r2 =>
      simp only [fLook] at hl
      by_cases q : f = a
      · rw [if_pos q] at hl
        cases hl
        exact ⟨v, by simp [List.lookup, q], r1⟩
      · rw [if_neg q] at hl
        obtain ⟨w, h1, h2⟩ := look_rp h r2 hl
        have : (f == a) = false := by simp [q]
        exact ⟨w, by simp [List.lookup, this, h1], h2⟩
theorem look_none {f : Str} : ∀ {fs : List (Str × V)} {ds : List (Str × D)}, fs.map (·.1) = ds.map (·.1) → fLook f ds = none → fs.lookup f = none
  | [], [], _, _ => rfl
  | [], _ :: _, h, _ => by simp at h
  | _ :: _, [], h, _ => by simp at h
  | (a, v) :: fs, (b, e) :: ds, h, hl => by
    simp only [List.map_cons, List.cons.injEq] at h
    obtain ⟨rfl, h⟩ := h
    simp only [fLook] at hl
    by_cases q : f = a
    · rw [if_pos q] at hl; cases hl
    · rw [if_neg q] at hl
      have : (f == a) = false := by simp [q]
      simp [List.lookup, this, look_none h hl]
section
local instance (priority := 10000) qs2 : DecidableEq Str := quickStr
def fFld (c f : Str) : D → O D
  | .ins c' fs => if c' = c then match fLook f fs with
    | some d => .ok d
    | none => .bad else .bad
  | _ => .bad
end
section
variable {X : Cx} {M : List Nat} {W : WX} {b : Bool} {e : Expr} {pos : Pos} {F : Env → O D} {c f : Str}
def rFld (K : PySem.W.Frag) (f : Str) : V → Hp → VK → Prop := fun x H1 Q => ∃ a C dx fs v, x = .ref a ∧ H1 a = some (.ins C dx fs) ∧ Cls K C ∧ NoAttr K C f ∧ fs.lookup f = some v ∧ Q v H1
theorem node_fld (hb : attributeBase e f X.env (eval e X.env) = eval e X.env) : Node X [e] (.Attribute e f pos) (r1 (rFld X.K f)) := by
  intro ts h
  cases h with | cons h1 h => cases h with | nil => exact ⟨_, pe_fld h1 hb, fun σ H Q h => h⟩
theorem v1_fld {K : PySem.W.Frag} (cl : Cls K (He.ga K c)) (na : NoAttr K (He.ga K c) f) : V1 K W (rFld K f) (fFld c f) := by
  intro H Z σ x d Q n h hp
  cases h <;> try exact hp.elim
  rename_i a dx c' fs ds ha hk r
  simp only [fFld] at hp
  split at hp
  · rename_i hc
    subst hc
    split at hp
    · rename_i d' hd
      obtain ⟨v, h1, h2⟩ := look_rp hk r hd
      exact ⟨a, _, dx, fs, v, rfl, of_some_vis ha, cl, na, h1, hp v H (Ex.refl H) h2⟩
    · exact hp.elim
  · exact hp.elim
theorem sp_fld (cl : Cls X.K (He.ga X.K c)) (na : NoAttr X.K (He.ga X.K c) f) (h : SP X M W b e F) (hb : attributeBase e f X.env (eval e X.env) = eval e X.env := by rfl) : SP X M W b (.Attribute e f pos) (nd (g1 (fFld c f)) [F]) :=
  sp_node (node_fld hb) (v1_fld cl na).val (.cons h .nil)
end
/-! methods, properties of a thing that is kept -/
/-- a method, by its class and name; self counts -/
structure Mth (P : Program) (w : World) (K : PySem.W.Frag) (mg : Str → Option Value) (base : Heap) (k : Nat) (c m : Str) (n : Nat) (io : List Nat) (ro : Bool) (dds : List D) (g : List D → C) : Prop where
  ex : ∃ (f : Addr) (fd : FuncData) (ps : List Str) (dvs : List V) (dsV : List Value), Cls K (He.ga K c) ∧ Meth K (He.ga K c) m f ∧ ps.length = n + dds.length ∧ FnOk P w K mg base (L2.CX P w) k f fd ps (spC K (n + dds.length) io ro g) ∧
    Binds K fd ps dsV ∧ Vals dvs dsV ∧ ∀ H, RpL K H dvs dds
abbrev MthX (X : Cx) := Mth X.prog X.w X.K X.mg X.base
structure Prp (P : Program) (w : World) (K : PySem.W.Frag) (mg : Str → Option Value) (base : Heap) (k : Nat) (c m : Str) (ro : Bool) (g : List D → C) : Prop where
  ex : ∃ (p f : Addr) (fd : FuncData) (ps : List Str), Cls K (He.ga K c) ∧ PropOf K (He.ga K c) m p f ∧ ps.length = 1 ∧ FnOk P w K mg base (L2.CX P w) k f fd ps (spC K 1 [] ro g) ∧ Binds K fd ps []
abbrev PrpX (X : Cx) := Prp X.prog X.w X.K X.mg X.base
/-- what leaves hangs on no slot -/
def Flat (W : WX) : Prop := ∃ E0 : XK, W = fun c d _ H => E0 c d H
theorem flat0 : Flat W0 := ⟨fun _ _ _ => False, rfl⟩
theorem flatE {E : XK} : Flat (fun c d _ H => E c d H) := ⟨E, rfl⟩
section
variable {X : Cx} {M : List Nat} {W : WX} {b : Bool} {k n : Nat} {c m : Str} {ro : Bool} {dds : List D} {g : List D → C} {o e : Expr} {es : List Expr} {apos pos : Pos}
section
local instance (priority := 10000) qs3 : DecidableEq Str := quickStr
def hasF (c m : Str) : D → Bool
  | .ins c' fs => decide (c' = c) && (fLook m fs).isNone
  | _ => false
end
/-- self, the arguments -/
def gMeth (c m : Str) (n : Nat) (dds : List D) (g : List D → C) (s : D) (ds : List D) : O D := if hasF c m s && decide (ds.length + 1 = n) then ofC (g (s :: (ds ++ dds))) else .bad
def eMeth (c m : Str) (n : Nat) (dds : List D) (g : List D → C) (S : Env → O D) (Fs : List (Env → O D)) : Env → O D := fun env => (S env).bind fun s => if hasF c m s then (seqF Fs env).bind fun ds => gMeth c m n dds g s ds else .bad
theorem hasF_ins {K : PySem.W.Frag} {H : Hp} {x : V} {s : D} (r : Rp K H x s) (h : hasF c m s = true) : ∃ a dx fs, x = .ref a ∧ H a = some (.ins (He.ga K c) dx fs) ∧ fs.lookup m = none := by
  cases r <;> try (simp [hasF] at h; done)
  rename_i a dx c' fs ds ha hk r
  simp only [hasF, Bool.and_eq_true, decide_eq_true_eq, Option.isNone_iff_eq_none] at h
  obtain ⟨rfl, h⟩ := h
  exact ⟨a, dx, fs, rfl, ha, look_none hk h⟩
/-- a promise without changes, asked by what may be seen -/
theorem spC_pure {K : PySem.W.Frag} {H : Hp} {Z : AS} {σ : L2.St} {vs dvs : List V} {ds : List D} {Q : VK} {N : Nat} (hd : ∀ H, RpL K H dvs dds) (n : Nt H Z) (rp : RpL K (vis H Z) vs ds) (hN : ds.length + dds.length = N) (hp : Po K W Z H σ (rpZ K Z) Q (ofC (g (ds ++ dds)))) :
    spC K N [] ro g (vs ++ dvs) H Q (fun cls d H' => W cls d σ H') := by
  have := val_call (K := K) (W := W) (m := ds.length) (ro := ro) (g := g) hd H Z σ vs ds Q n rp (by dsimp only; rw [if_pos rfl]; exact hp)
  rw [← hN]
  exact this
theorem sp_meth {pl : Sem Bool} {S : Env → O D} {Fs : List (Env → O D)} (G : Gd X W k) (fl : Flat W) (mt : MthX X k c m n [] ro dds g) (ho : SP X M W b o S) (h : SPs X M W b (e :: es) Fs) (hs : noStar (e :: es) = true := by rfl)
    (ht : eval (.Call (.Attribute o m apos) (e :: es) [] pos) X.env = (do
      let ov ← eval o X.env
      standAt apos.atName
      let (f, first) ← holding [ov] (getMethod ov m pl)
      callWith pos f first (backTo pos (starEach (e :: es) X.env)) (backToKw pos (keywordEach [] X.env))) := by rfl) :
    SP X M W b (.Call (.Attribute o m apos) (e :: es) [] pos) (eMeth c m n dds g S Fs) := by
  obtain ⟨f, fd, ps, dvs, dsV, h1, h2, h3, h4, h5, h6, h7⟩ := mt.ex
  obtain ⟨E0, hE⟩ := fl
  obtain ⟨to, po, qo⟩ := ho
  obtain ⟨ts, pes, qs⟩ := sps_run h
  obtain ⟨t, pa, q⟩ := pa_of pes hs
  obtain ⟨n1, n2⟩ := noStar_head hs X.env
  refine ⟨_, pe_meth (pl := pl) po h1 h2 h4 G.room h5 h6 (passes_call (E := E0) G.takes fun cls d σ H hh => by rw [hE]; exact hh) pa n1 (noStar_plain n2 pos X.env) ht, fun σ H env U S' r Q hp => qo σ H env U S' r _ ?_⟩
  have hp' : Po X.K W (zb b U S') H σ (rpZ X.K (zb b U S')) Q ((S env).bind fun s => if hasF c m s then (seqF Fs env).bind fun ds => gMeth c m n dds g s ds else .bad) := hp
  refine Po.step hp' fun s x H1 _ e1 r1 hq => ?_
  cases hf : hasF c m s with
  | false => rw [hf] at hq; exact (show False by simpa [Po] using hq).elim
  | true =>
    rw [hf] at hq
    simp only [if_true] at hq
    obtain ⟨a, dx, fs, rfl, ha, hl⟩ := hasF_ins r1 hf
    refine ⟨a, dx, fs, rfl, of_some_vis ha, hl, q σ H1 _ (qs σ H1 env U S' (r.mono e1) _ (Po.step hq fun ds vs H2 _ e2 r2 h2 => ?_))⟩
    unfold gMeth at h2
    cases hc : (hasF c m s && decide (ds.length + 1 = n)) with
    | false => rw [hc] at h2; exact (show False by simpa [Po] using h2).elim
    | true =>
      rw [hc] at h2
      simp only [if_true] at h2
      simp only [Bool.and_eq_true, decide_eq_true_eq] at hc
      have := spC_pure (W := W) (ro := ro) (σ := σ) (Q := Q) (N := n + dds.length) (ds := s :: ds) (vs := .ref a :: vs) h7 (((r.ntb b).new e1).new e2) (.cons (r1.mono (vis_mono e2)) r2) (by simp; omega) h2
      rw [hE] at this
      exact this
theorem sp_meth0 {pl : Sem Bool} {S : Env → O D} (G : Gd X W k) (fl : Flat W) (mt : MthX X k c m n [] ro dds g) (ho : SP X M W b o S)
    (ht : eval (.Call (.Attribute o m apos) [] [] pos) X.env = (do
      let ov ← eval o X.env
      standAt apos.atName
      let (f, first) ← holding [ov] (getMethod ov m pl)
      callWith pos f first (backTo pos (starEach [] X.env)) (backToKw pos (keywordEach [] X.env))) := by rfl) :
    SP X M W b (.Call (.Attribute o m apos) [] [] pos) (eMeth c m n dds g S []) := by
  obtain ⟨f, fd, ps, dvs, dsV, h1, h2, h3, h4, h5, h6, h7⟩ := mt.ex
  obtain ⟨E0, hE⟩ := fl
  obtain ⟨to, po, qo⟩ := ho
  refine ⟨_, pe_meth0 (pl := pl) po h1 h2 h4 G.room h5 h6 (passes_call (E := E0) G.takes fun cls d σ H hh => by rw [hE]; exact hh) ht, fun σ H env U S' r Q hp => qo σ H env U S' r _ ?_⟩
  have hp' : Po X.K W (zb b U S') H σ (rpZ X.K (zb b U S')) Q ((S env).bind fun s => if hasF c m s then (seqF [] env).bind fun ds => gMeth c m n dds g s ds else .bad) := hp
  refine Po.step hp' fun s x H1 _ e1 r1 hq => ?_
  cases hf : hasF c m s with
  | false => rw [hf] at hq; exact (show False by simpa [Po] using hq).elim
  | true =>
    rw [hf] at hq
    simp only [if_true, seqF, O.bind] at hq
    obtain ⟨a, dx, fs, rfl, ha, hl⟩ := hasF_ins r1 hf
    refine ⟨a, dx, fs, rfl, of_some_vis ha, hl, ?_⟩
    unfold gMeth at hq
    cases hc : (hasF c m s && decide (([] : List D).length + 1 = n)) with
    | false => rw [hc] at hq; exact (show False by simpa [Po] using hq).elim
    | true =>
      rw [hc] at hq
      simp only [if_true] at hq
      simp only [Bool.and_eq_true, decide_eq_true_eq] at hc
      have := spC_pure (W := W) (ro := ro) (σ := σ) (Q := Q) (N := n + dds.length) (ds := [s]) (vs := [.ref a]) h7 ((r.ntb b).new e1) (.cons r1 .nil) (by simp at hc ⊢; omega) hq
      rw [hE] at this
      exact this
/-! a property (what it raises is not followed) -/
section
local instance (priority := 10000) qs4 : DecidableEq Str := quickStr
def ePrp (c m : Str) (g : List D → C) (S : Env → O D) : Env → O D := fun env => (S env).bind fun s => match s with
  | .ins c' _ => if c' = c then noX (ofC (g [s])) else .bad
  | _ => .bad
end
theorem sp_prop {S : Env → O D} (G : Gd X W (k + 1)) (pr : PrpX X k c m ro g) (ho : SP X M W b o S) (hb : attributeBase o m X.env (eval o X.env) = eval o X.env := by rfl) : SP X M W b (.Attribute o m pos) (ePrp c m g S) := by
  obtain ⟨p, f, fd, ps, h1, h2, h3, h4, h5⟩ := pr.ex
  obtain ⟨to, po, qo⟩ := ho
  refine ⟨_, pe_prop (E := fun _ _ _ => False) po h1 h2 h4 G.room h5 .nil (fun _ _ _ _ _ _ _ hc => ?_) hb, fun σ H env U S' r Q hp => qo σ H env U S' r _ ?_⟩
  · obtain ⟨_, _, _, _, _, _, _, _, _, _, _, _, z⟩ := hc
    exact z.elim
  have hp' : Po X.K W (zb b U S') H σ (rpZ X.K (zb b U S')) Q ((S env).bind fun s => match s with
    | .ins c' _ => @ite _ (c' = c) (quickStr c' c) (noX (ofC (g [s]))) .bad
    | _ => .bad) := hp
  refine Po.step hp' fun s x H1 _ e1 r1 hq => ?_
  cases r1 with
  | @ins a dx c' fs ds ha hk r' =>
    simp only at hq
    by_cases hc : c' = c
    · rw [if_pos hc] at hq
      subst hc
      refine ⟨a, dx, fs, rfl, of_some_vis ha, ?_⟩
      have hq2 : Po X.K (fun _ _ _ _ => False) (zb b U S') H1 σ (rpZ X.K (zb b U S')) Q (ofC (g [.ins c' ds])) := by
        cases hg : ofC (g [.ins c' ds]) with
        | ok d => rw [hg] at hq; exact hq
        | exc _ _ => rw [hg] at hq; exact hq.elim
        | bad => rw [hg] at hq; exact hq.elim
      exact spC_pure (W := fun _ _ _ _ => False) (ro := ro) (σ := σ) (Q := Q) (N := 1) (dds := []) (dvs := []) (ds := [.ins c' ds]) (vs := [.ref a]) (fun _ => .nil) ((r.ntb b).new e1) (.cons (.ins ha hk r') .nil) rfl hq2
    · rw [if_neg hc] at hq; exact hq.elim
  | _ => exact hq.elim
end
end Rf

namespace Rf
open PySem PySem.Spec PyProof.Rows L2

section
variable {K : PySem.W.Frag} {M : List Nat} {W : WX} {U : AS} {S S1 : Nat → AS} {H H1 : Hp} {σ : L2.St} {env env1 : Env} {as : List Arg} {vs : List V} {xs : List (Nat ⊕ D)} {ds : List D} {io : List Nat} {ro : Bool} {g : List D → C}
/-- the outcome of a call, behind its arguments -/
def outR (as : List Arg) (g : List D → C) (env : Env) (xs : List (Nat ⊕ D)) : R D := match argD env xs with
  | none => .bad
  | some ds => match g ds with
    | .ok d o => if o.length = as.length then .ok d (updO as o env) else .bad
    | .exc c d o => if o.length = as.length then .exc c d (updO as o env) else .bad
    | .bad => .bad
theorem spC_io {Q : VK} {E : XK} (po1 : Post K M U S H σ S1 H1 env1) (n : ndA as = true) (ho : ioOk as io = true) (hM' : ∀ p i, slotOf as p = some i → i ∈ M) (ra : RA K σ (vis H1 (zo U S1)) vs as xs)
    (hok : ∀ d env' v H' S', outR as g env1 xs = .ok d env' → Post K M U S H σ S' H' env' → ResO K M ro U S H σ S' H' env' v d → Q v H')
    (hex : ∀ c d env', outR as g env1 xs = .exc c d env' → ∀ dx v H' S', Post K M U S H σ S' H' env' → H' dx = some (.xd [("value", v)]) → ¬ zo U S' dx → Rp K (vis H' (zo U S')) v d → E (.ref (He.ga K c)) (some dx) H')
    (hbad : outR as g env1 xs ≠ .bad) : spC K as.length io ro g vs H1 Q E := by
  unfold outR at hok hex hbad
  cases hD : argD env1 xs with
  | none => rw [hD] at hbad; exact absurd rfl hbad
  | some ds =>
    rw [hD] at hok hex hbad
    simp only at hok hex hbad
    have hlen : ds.length = as.length := by rw [argD_len hD, ra.len2]
    refine ⟨ra.len, ds, uC as U S1, sC as S1, hlen, rel_C po1.rel n ho hM' ra hD, ?_⟩
    cases hG : g ds with
    | bad => rw [hG] at hbad; exact absurd rfl hbad
    | ok d o =>
      rw [hG] at hok hex hbad
      simp only at hok hex hbad
      by_cases hol : o.length = as.length
      · rw [if_pos hol] at hok
        intro v H' S' po res
        obtain ⟨pc, sub⟩ := post_C po1.rel n ho hM' ra hol po
        have pt := po1.trans pc
        refine hok d _ v H' _ rfl pt ?_
        unfold Res at res
        unfold ResO
        cases ro with
        | false => exact res.mono (vis_sub sub)
        | true =>
          obtain ⟨T, ow, nz, gr⟩ := res
          have base := pt.rel
          refine ⟨T, ow, ⟨base.own, fun j d' hj he => ?_, base.dis, fun j a hs u => ?_, fun a z => ?_, base.len⟩, fun a ta u => nz a ta (.inl (.inl u)), fun a ta => ?_⟩
          · have he1 : env1[j]? = some (some d') := by
              rcases updO_get n hol he with ⟨p', q1, q2⟩ | ⟨q1, q2⟩
              · exact absurd (hM' p' j (paramOf_slot q1)) hj
              · exact q2
            obtain ⟨v1, h10, h11⟩ := po1.rel.frz j d' hj he1
            refine ⟨v1, h10, h11.mono fun a ob hh => ?_⟩
            obtain ⟨w1, w2⟩ := of_vis hh
            obtain ⟨w3, w4⟩ := of_vis (pc.vis a ob hh)
            refine vis_in w3 fun z => ?_
            rcases z with (z | z) | z
            · exact w4 (.inl z)
            · rcases gr a z with ⟨p', i, _, w⟩ | w
              · exact w2 (.inr ⟨i, w⟩)
              · rw [w] at w1; cases w1
            · exact w4 (.inr z)
          · rcases u with u | u
            · exact base.out j a hs u
            · exact nz a u (sub a (.inr ⟨j, hs⟩))
          · rcases z with (z | z) | z
            · exact base.nt a (.inl z)
            · exact ow.nt a z
            · exact base.nt a (.inr z)
          · rcases gr a ta with ⟨p', i, _, w⟩ | w
            · exact po1.grow i a w
            · cases hh : H a with
              | none => exact .inr rfl
              | some ob =>
                left
                refine Classical.byContradiction fun nn => ?_
                rw [po1.keep a ob hh fun j w' => nn ⟨j, w'⟩] at w
                cases w
      · rw [if_neg hol] at hbad; exact absurd rfl hbad
    | exc c d o =>
      rw [hG] at hok hex hbad
      simp only at hok hex hbad
      by_cases hol : o.length = as.length
      · rw [if_pos hol] at hex
        intro dx v H' S' po a1 a2 a3
        obtain ⟨pc, sub⟩ := post_C po1.rel n ho hM' ra hol po
        exact hex c d _ rfl dx v H' _ (po1.trans pc) a1 (fun z => a2 (sub dx z)) (a3.mono (vis_sub sub))
      · rw [if_neg hol] at hbad; exact absurd rfl hbad
end
/-! a method that changes its own -/
section
variable {X : Cx} {M : List Nat} {W : WX} {k n i : Nat} {c m x : Str} {ro : Bool} {io : List Nat} {g : List D → C} {e : Expr} {es : List Expr} {as : List Arg} {p apos pos : Pos}
def hasFE (c m : Str) : Option (Option D) → Bool
  | some (some d) => hasF c m d
  | _ => false
def eMethR (c m : Str) (i : Nat) (as : List Arg) (g : List D → C) : Env → R D := fun env => if hasFE c m env[i]? then (argsR as env).bind fun xs env => outR (.io i :: as) g env (.inl i :: xs) else .bad
theorem ow_ins {K : PySem.W.Frag} {H : Hp} {v : V} {d : D} {S : AS} (h : Ow K H v d S) (hf : hasF c m d = true) : ∃ a dx fs, v = .ref a ∧ H a = some (.ins (He.ga K c) dx fs) ∧ fs.lookup m = none := hasF_ins h.rp hf
theorem methR_run {pl : Sem Bool} (G : Gd X W k) (fl : Flat W) (mt : MthX X k c m n io ro [] g) (hM : M.contains i = true) (hN : X.N[i]? = some x) (hv : Vis X.env.scope x) (h : SAs X M W (e :: es) as) (hs : noStar (e :: es) = true) (nd : ndA (.io i :: as) = true) (ho : ioOk (.io i :: as) io = true) (hin : slotsIn (.io i :: as) M = true) (hm : as.length + 1 = n)
    (hd : (x == ("__debug__" : Str)) = false) (hcd : (x == ("__classdict__" : Str)) = false)
    (ht : eval (.Call (.Attribute (.Name x p) m apos) (e :: es) [] pos) X.env = (do
      let ov ← eval (.Name x p) X.env
      standAt apos.atName
      let (f, first) ← holding [ov] (getMethod ov m pl)
      callWith pos f first (backTo pos (starEach (e :: es) X.env)) (backToKw pos (keywordEach [] X.env)))) :
    ∃ t, PE X (.Call (.Attribute (.Name x p) m apos) (e :: es) [] pos) t ∧ ∀ σ H env U S, Rel X.K M U S H σ env → ∀ Q : VK,
      (∀ d env' v H' S', eMethR c m i as g env = .ok d env' → Post X.K M U S H σ S' H' env' → ResO X.K M ro U S H σ S' H' env' v d → Q v H') →
      (∀ c' d env', eMethR c m i as g env = .exc c' d env' → ∀ dx v H' S', Post X.K M U S H σ S' H' env' → H' dx = some (.xd [("value", v)]) → ¬ zo U S' dx → Rp X.K (vis H' (zo U S')) v d → W (.ref (He.ga X.K c')) (some dx) σ H') →
      eMethR c m i as g env ≠ .bad → t σ H Q := by
  obtain ⟨f, fd, ps, dvs, dsV, h1, h2, h3, h4, h5, h6, h7⟩ := mt.ex
  obtain ⟨E0, hE⟩ := fl
  obtain ⟨ts, pes, qs⟩ := sas_run h
  obtain ⟨t, pa, q⟩ := pa_of pes hs
  obtain ⟨n1, n2⟩ := noStar_head hs X.env
  have hdv : dvs = [] := by
    have := (h7 (fun _ => none)).length
    simpa using this
  subst hdv
  have hi : i ∈ M := by simpa using hM
  have hM' : ∀ p j, slotOf (.io i :: as) p = some j → j ∈ M := fun p j hp => by
    have := List.all_eq_true.mp hin p (List.mem_range.mpr (slotOf_lt hp))
    rw [hp] at this
    simpa using this
  refine ⟨_, pe_meth (pl := pl) (pe_var hN hv hd hcd) h1 h2 h4 G.room h5 h6 (passes_call (E := E0) G.takes fun cls d σ H hh => by rw [hE]; exact hh) pa n1 (noStar_plain n2 pos X.env) ht, fun σ H env U S r Q hok hex hbad => ?_⟩
  unfold eMethR at hok hex hbad
  cases hf : hasFE c m env[i]? with
  | false => rw [hf] at hbad; exact absurd rfl hbad
  | true =>
    rw [hf] at hok hex hbad
    simp only [if_true] at hok hex hbad
    obtain ⟨d0, he⟩ : ∃ d0, env[i]? = some (some d0) := by
      unfold hasFE at hf
      split at hf
      · exact ⟨_, by assumption⟩
      · cases hf
    rw [he] at hf
    obtain ⟨v0, hv0, ow0⟩ := r.own i d0 hi he
    obtain ⟨a, dx, fs, rfl, ha, hl⟩ := ow_ins ow0 hf
    refine ⟨.ref a, hv0, a, dx, fs, rfl, ha, hl, q σ H _ (qs σ H env U S r _ ?_)⟩
    cases hA : argsR as env with
    | bad => rw [hA] at hbad; exact absurd rfl hbad
    | exc c' d e' =>
      rw [hA] at hex
      exact fun dx v H' S' po a b c'' => hex _ _ _ rfl dx v H' S' po a b c''
    | ok xs env1 =>
      rw [hA] at hok hex hbad
      simp only [R.bind] at hok hex hbad
      intro vs H1 S1 po1 ra
      rw [List.append_nil]
      have hlen : (Arg.io i :: as).length = n := by simp; omega
      have := spC_io (K := X.K) (M := M) (as := .io i :: as) (io := io) (ro := ro) (g := g) (xs := .inl i :: xs) (vs := .ref a :: vs) (Q := Q) (E := E0) po1 nd ho hM' (.io hv0 ra) hok (fun c' d env' hh dx' v H' S' po x1 x2 x3 => by
        have := hex c' d env' hh dx' v H' S' po x1 x2 x3
        rw [hE] at this
        exact this) hbad
      rw [hlen] at this
      exact this
theorem se_methR {pl : Sem Bool} (G : Gd X W k) (fl : Flat W) (mt : MthX X k c m n io false [] g) (hM : M.contains i = true) (hN : X.N[i]? = some x) (hv : Vis X.env.scope x) (h : SAs X M W (e :: es) as) (hs : noStar (e :: es) = true := by rfl) (nd : ndA (.io i :: as) = true := by rfl) (ho : ioOk (.io i :: as) io = true := by rfl) (hin : slotsIn (.io i :: as) M = true := by rfl) (hm : as.length + 1 = n := by rfl)
    (hd : (x == ("__debug__" : Str)) = false := by decide) (hcd : (x == ("__classdict__" : Str)) = false := by decide)
    (ht : eval (.Call (.Attribute (.Name x p) m apos) (e :: es) [] pos) X.env = (do
      let ov ← eval (.Name x p) X.env
      standAt apos.atName
      let (f, first) ← holding [ov] (getMethod ov m pl)
      callWith pos f first (backTo pos (starEach (e :: es) X.env)) (backToKw pos (keywordEach [] X.env))) := by rfl) :
    SE X M W (.Call (.Attribute (.Name x p) m apos) (e :: es) [] pos) (eMethR c m i as g) := by
  obtain ⟨t, pp, q⟩ := methR_run (p := p) (apos := apos) (pos := pos) (pl := pl) G fl mt hM hN hv h hs nd ho hin hm hd hcd ht
  refine ⟨t, pp, fun σ H env U S r Q hp => q σ H env U S r Q (fun d env' v H' S' he po res => ?_) (fun c d env' he dx v H' S' po a b c' => ?_) fun hb => ?_⟩
  · rw [he] at hp; exact hp v H' S' po res
  · rw [he] at hp; exact hp dx v H' S' po a b c'
  · rw [hb] at hp; exact hp
end
/-! a new instance -/
section
variable {X : Cx} {M : List Nat} {W : WX} {k n : Nat} {c x : Str} {g : List D → C} {e : Expr} {es : List Expr} {p pos : Pos}
/-- a class: its making, its __init__ (self counts) -/
structure Mkr (P : Program) (w : World) (K : PySem.W.Frag) (mg : Str → Option Value) (base : Heap) (k : Nat) (c : Str) (n : Nat) (g : List D → C) : Prop where
  ex : ∃ (f : Addr) (fd : FuncData) (ps : List Str), mg c = some (.ref (He.ga K c)) ∧ Mk K (He.ga K c) f ∧ ps.length = n ∧ FnOk P w K mg base (L2.CX P w) k f fd ps (spC K n [0] false g) ∧ Binds K fd ps []
abbrev MkrX (X : Cx) := Mkr X.prog X.w X.K X.mg X.base
def outMk : C → Env → R D
  | .ok .non (some d :: _), env => .ok d env
  | .exc c d _, env => .exc c d env
  | _, _ => .bad
def gMk (c : Str) (n : Nat) (g : List D → C) (ds : List D) (env : Env) : R D := if ds.length + 1 = n then outMk (g (.ins c [] :: ds)) env else .bad
theorem spC_make {K : PySem.W.Frag} {U : AS} {S : Nat → AS} {H : Hp} {σ : L2.St} {env : Env} {vs : List V} {ds : List D} {a dx : Addr} {Q : VK} {E : XK} (r : Rel K M U S H σ env) (rp : RpL K (vis H (zo U S)) vs ds) (ha : H a = none) (hdx : H dx = none) (ne : dx ≠ a)
    (hok : ∀ d, gMk c n g ds env = .ok d env → ∀ H' T, Ex H H' → Rel K M (un U T) S H' σ env → Ow K H' (.ref a) d T → (∀ b, T b → ¬ U b) → (∀ b, T b → H b = none) → Q (.ref a) H')
    (hex : ∀ c' d, gMk c n g ds env = .exc c' d env → ∀ dx v H', Ex H H' → H' dx = some (.xd [("value", v)]) → ¬ zo U S dx → Rp K (vis H' (zo U S)) v d → E (.ref (He.ga K c')) (some dx) H')
    (hbad : gMk c n g ds env ≠ .bad) : spC K n [0] false g (.ref a :: vs) (upd (upd H dx (.own a)) a (.ins (He.ga K c) dx [])) (fun v H2 => v = .non ∧ Q (.ref a) H2) E := by
  unfold gMk at hok hex hbad
  by_cases hn : ds.length + 1 = n
  · rw [if_pos hn] at hok hex hbad
    let T0 : AS := fun b => b = a ∨ b = dx
    let S0 : Nat → AS := fun j => if j = 0 then T0 else fun _ => False
    have hH2a : upd (upd H dx (.own a)) a (.ins (He.ga K c) dx []) a = some (.ins (He.ga K c) dx []) := upd_same
    have hH2d : upd (upd H dx (.own a)) a (.ins (He.ga K c) dx []) dx = some (.own a) := by rw [upd_ne ne]; exact upd_same
    have ex2 : Ex H (upd (upd H dx (.own a)) a (.ins (He.ga K c) dx [])) := (Ex.new hdx).trans (Ex.new (by rw [upd_ne ne.symm]; exact ha))
    have ow : Ow K (upd (upd H dx (.own a)) a (.ins (He.ga K c) dx [])) (.ref a) (.ins c []) T0 := .ins (T := fun _ => False) hH2a hH2d rfl (.nil fun _ h => h) (fun h => h) (fun h => h) fun b => by simp [T0]
    have s0 : S0 0 = T0 := by simp [S0]
    have sz : ∀ j b, S0 j b → j = 0 ∧ T0 b := fun j b h => by
      by_cases hj : j = 0
      · simp only [S0, hj, if_true] at h; exact ⟨hj, h⟩
      · simp only [S0, hj, if_false] at h
    have tn : ∀ b, T0 b → H b = none := fun b h => by rcases h with h | h <;> rw [h] <;> assumption
    have rel0 : Rel K [0] (zo U S) S0 (upd (upd H dx (.own a)) a (.ins (He.ga K c) dx [])) ((V.ref a :: vs).map some) ((D.ins c [] :: ds).map some) := by
      refine ⟨fun j d hj he => ?_, fun j d hj he => ?_, fun j j' b hne h1 h2 => ?_, fun j b h u => ?_, fun b z => ?_, by simp [rp.length]⟩
      · have : j = 0 := by simpa using hj
        subst this
        simp at he
        subst he
        exact ⟨.ref a, rfl, by rw [s0]; exact ow⟩
      · cases j with
        | zero => simp at hj
        | succ j =>
          rw [List.map_cons, List.getElem?_cons_succ, List.getElem?_map] at he
          cases hq : ds[j]? with
          | none => rw [hq] at he; simp at he
          | some d' =>
            rw [hq] at he
            simp at he
            subst he
            obtain ⟨v, h1, h2⟩ := rp.get hq
            refine ⟨v, by rw [List.map_cons, List.getElem?_cons_succ, List.getElem?_map, h1]; rfl, h2.mono fun b o hb => ?_⟩
            obtain ⟨w1, w2⟩ := of_vis hb
            refine vis_in (ex2 b o w1) fun z => ?_
            rcases z with z | ⟨j', z⟩
            · exact w2 z
            · have := tn b (sz j' b z).2
              rw [this] at w1; cases w1
      · have e1 := (sz j b h1).1
        have e2 := (sz j' b h2).1
        exact hne (e1.trans e2.symm)
      · exact (r.nt b u).1 (tn b (sz j b h).2)
      · rcases z with z | ⟨j, z⟩
        · exact (r.nt.new ex2) b z
        · exact ow.nt b (sz j b z).2
    refine ⟨by simp [rp.length, hn], .ins c [] :: ds, zo U S, S0, by simp [hn], rel0, ?_⟩
    have exH : ∀ {H' : Hp} {o : Env} {S' : Nat → AS}, Post K [0] (zo U S) S0 (upd (upd H dx (.own a)) a (.ins (He.ga K c) dx [])) ((V.ref a :: vs).map some) S' H' o → Ex H H' := fun po b o hb => po.keep b o (ex2 b o hb) fun j z => by
      have := tn b (sz j b z).2
      rw [this] at hb; cases hb
    cases hG : g (.ins c [] :: ds) with
    | bad => rw [hG] at hbad; exact absurd rfl hbad
    | exc c' d o =>
      rw [hG] at hex
      intro dx' v H' S' po x1 x2 x3
      exact hex c' d rfl dx' v H' (exH po) x1 (fun z => x2 (.inl z)) (x3.mono (vis_sub fun b z => .inl z))
    | ok d o =>
      rw [hG] at hok hbad
      intro v H' S' po res
      cases d with
      | non =>
        cases o with
        | nil => exact absurd rfl hbad
        | cons o0 os =>
          cases o0 with
          | none => exact absurd rfl hbad
          | some d0 =>
            have hv : v = .non := by
              have r' : Rp K (vis H' (zo (zo U S) S')) v .non := res
              cases r'; rfl
            refine ⟨hv, ?_⟩
            obtain ⟨v0, h1, h2⟩ := po.rel.own 0 d0 (by simp) rfl
            have : v0 = .ref a := by simp at h1; exact h1.symm
            subst this
            have tf : ∀ b, S' 0 b → H b = none := fun b hb => by
              rcases po.grow 0 b hb with ⟨j, w⟩ | w
              · exact tn b (sz j b w).2
              · cases hh : H b with
                | none => rfl
                | some ob => rw [ex2 b ob hh] at w; cases w
            exact hok d0 rfl H' (S' 0) (exH po) (r.hide (exH po) tf h2.nt) h2 (fun b hb hu => po.rel.out 0 b hb (.inl hu)) tf
      | _ => exact absurd rfl hbad
  · rw [if_neg hn] at hbad; exact absurd rfl hbad
def eMk (c : Str) (n : Nat) (g : List D → C) (Fs : List (Env → R D)) : Env → R D := fun env => (seqR Fs env).bind fun ds env => gMk c n g ds env
theorem gMk_env {ds : List D} {env env' : Env} {d : D} (h : gMk c n g ds env = .ok d env') : env' = env := by
  unfold gMk at h
  split at h
  · unfold outMk at h
    split at h <;> cases h
    rfl
  · cases h
theorem gMk_envx {ds : List D} {env env' : Env} {c' : Str} {d : D} (h : gMk c n g ds env = .exc c' d env') : env' = env := by
  unfold gMk at h
  split at h
  · unfold outMk at h
    split at h <;> cases h
    rfl
  · cases h
theorem so_make {Fs : List (Env → R D)} (G : Gd X W (k + 1)) (fl : Flat W) (mk : MkrX X k c n g) (hg : Gl X c) (h : SEs X M W (e :: es) Fs) (hs : noStar (e :: es) = true := by rfl) (hdb : (c == ("__debug__" : Str)) = false := by decide) :
    SO X M W (.Call (.Name c p) (e :: es) [] pos) (eMk c n g Fs) := by
  obtain ⟨f, fd, ps, h1, h2, h3, h4, h5⟩ := mk.ex
  obtain ⟨E0, hE⟩ := fl
  obtain ⟨ts, pes, qs⟩ := ses_run h
  obtain ⟨t, pa, q⟩ := pa_of pes hs
  obtain ⟨n1, n2⟩ := noStar_head hs X.env
  refine ⟨_, pe_make h2 h4 G.room hg h1 h5 .nil (passes_call (E := E0) G.takes fun cls d σ H hh => by rw [hE]; exact hh) pa hdb n1 (noStar_plain n2 pos X.env), fun σ H env U S r Q hp => q σ H _ (qs σ H env U S r _ ?_)⟩
  unfold eMk at hp
  cases hA : seqR Fs env with
  | bad => rw [hA] at hp; exact hp.elim
  | exc c' d e' => rw [hA] at hp; exact hp
  | ok ds env1 =>
    rw [hA] at hp
    simp only [R.bind] at hp
    intro vs H1 S1 po1 rp a dx ha hdx ne
    rw [List.append_nil]
    refine spC_make (M := M) po1.rel rp ha hdx ne (fun d hgd H' T ex rl ow nu tf => ?_) (fun c' d hgd dx' v H' ex x1 x2 x3 => ?_) fun hb => ?_
    · rw [hgd] at hp
      have pt := po1.trans (po1.rel.post ex)
      refine hp _ H' S1 T pt rl ow nu fun b hb => ?_
      cases hh : H b with
      | none => exact .inr rfl
      | some ob =>
        left
        refine Classical.byContradiction fun nn => ?_
        have := po1.keep b ob hh fun j w' => nn ⟨j, w'⟩
        rw [tf b hb] at this
        cases this
    · rw [hgd] at hp
      have := hp dx' v H' S1 (po1.trans (po1.rel.post ex)) x1 x2 x3
      rw [hE] at this
      exact this
    · rw [hb] at hp; exact hp
theorem so_make0 (G : Gd X W (k + 1)) (fl : Flat W) (mk : MkrX X k c 1 g) (hg : Gl X c) (hdb : (c == ("__debug__" : Str)) = false := by decide) :
    SO X M W (.Call (.Name c p) [] [] pos) (eMk c 1 g []) := by
  obtain ⟨f, fd, ps, h1, h2, h3, h4, h5⟩ := mk.ex
  obtain ⟨E0, hE⟩ := fl
  refine ⟨_, pe_make0 h2 h4 G.room hg h1 h5 .nil (passes_call (E := E0) G.takes fun cls d σ H hh => by rw [hE]; exact hh) hdb, fun σ H env U S r Q hp => ?_⟩
  unfold eMk at hp
  simp only [seqR, R.bind] at hp
  intro a dx ha hdx ne
  refine spC_make (M := M) (vs := []) (ds := []) r .nil ha hdx ne (fun d hgd H' T ex rl ow nu tf => ?_) (fun c' d hgd dx' v H' ex x1 x2 x3 => ?_) fun hb => ?_
  · rw [hgd] at hp
    exact hp _ H' S T (r.post ex) rl ow nu fun b hb => .inr (tf b hb)
  · rw [hgd] at hp
    have := hp dx' v H' S (r.post ex) x1 x2 x3
    rw [hE] at this
    exact this
  · rw [hb] at hp; exact hp
end
end Rf

namespace Rf
open PySem PySem.Spec PyProof.Rows L2

section
variable {K : PySem.W.Frag} {H : Hp}
/-- one of the things owned, exchanged -/
theorem OwL.child : ∀ {vs : List V} {ds : List D} {S : AS} {j : Nat} {sub : D}, OwL K H vs ds S → ds[j]? = some sub → ∃ (v : V) (Tj Tr : AS), vs[j]? = some v ∧ Ow K H v sub Tj ∧ (∀ b, S b ↔ Tj b ∨ Tr b) ∧ (∀ b, Tj b → Tr b → False) ∧
    ∀ (H' : Hp) (sub' : D) (Tj' : AS), (∀ a xs, Rd H a (.tup xs) → Rd H' a (.tup xs)) → (∀ a xs, H a = some (.tup xs) → H' a = some (.tup xs)) → (∀ a o, Tr a → H a = some o → H' a = some o) → Ow K H' v sub' Tj' → (∀ b, Tj' b → Tr b → False) → ∃ S', OwL K H' vs (ds.set j sub') S' ∧ ∀ b, S' b ↔ Tj' b ∨ Tr b
  | _, _, _, _, _, .nil _, h => by simp at h
  | _, _, _, 0, _, .cons (v := v) (T := T) (R := R1) o t d e, h => by
    simp at h
    subst h
    refine ⟨v, T, R1, rfl, o, e, d, fun H' sub' Tj' tp tq kp o' dj => ⟨fun b => Tj' b ∨ R1 b, ?_, fun b => Iff.rfl⟩⟩
    exact .cons o' (t.carry tp tq kp) dj fun b => Iff.rfl
  | _, _, _, j + 1, _, .cons (v := v0) (T := T) (R := R1) o t d e, h => by
    obtain ⟨v, Tj, Tr, h1, h2, h3, h4, h5⟩ := OwL.child (j := j) t (by simpa using h)
    refine ⟨v, Tj, fun b => T b ∨ Tr b, by simpa using h1, h2, fun b => ?_, fun b q1 q2 => ?_, fun H' sub' Tj' tp tq kp o' dj => ?_⟩
    · rw [e b, h3 b]
      constructor
      · rintro (q | q | q)
        · exact .inr (.inl q)
        · exact .inl q
        · exact .inr (.inr q)
      · rintro (q | q | q)
        · exact .inr (.inl q)
        · exact .inl q
        · exact .inr (.inr q)
    · rcases q2 with q2 | q2
      · exact d b q2 ((h3 b).mpr (.inl q1))
      · exact h4 b q1 q2
    · obtain ⟨S', q1, q2⟩ := h5 H' sub' Tj' tp tq (fun a ob ha => kp a ob (.inr ha)) o' fun b w1 w2 => dj b w1 (.inr w2)
      refine ⟨fun b => T b ∨ S' b, .cons (o.carry tp tq fun a ob ha => kp a ob (.inl ha)) q1 (fun b w1 w2 => ?_) fun b => Iff.rfl, fun b => ?_⟩
      · rcases (q2 b).mp w2 with w | w
        · exact dj b w (.inl w1)
        · exact d b w1 ((h3 b).mpr (.inr w))
      · constructor
        · rintro (q | q)
          · exact .inr (.inl q)
          · exact ((q2 b).mp q).imp id .inr
        · rintro (q | q | q)
          · exact .inr ((q2 b).mpr (.inl q))
          · exact .inl q
          · exact .inr ((q2 b).mpr (.inr q))
/-- a thing put under a name -/
def putD {κ : Type} [Qk κ] (k : κ) (d : D) : List (κ × D) → List (κ × D)
  | [] => [(k, d)]
  | (g, x) :: r => @ite _ (g = k) (Qk.dec g k) ((g, d) :: r) ((g, x) :: putD k d r)
def putV {κ : Type} [DecidableEq κ] (k : κ) (d : V) : List (κ × V) → List (κ × V)
  | [] => [(k, d)]
  | (g, x) :: r => if g = k then (g, d) :: r else (g, x) :: putV k d r
theorem owl_put {κ : Type} [DecidableEq κ] [Qk κ] {k : κ} {v : V} {d : D} {T2 : AS} (o : Ow K H v d T2) : ∀ {kvs : List (κ × V)} {ds : List (κ × D)} {T : AS}, kvs.map (·.1) = ds.map (·.1) → OwL K H (kvs.map (·.2)) (ds.map (·.2)) T → (∀ b, T b → T2 b → False) →
    ∃ T', (putV k v kvs).map (·.1) = (putD k d ds).map (·.1) ∧ OwL K H ((putV k v kvs).map (·.2)) ((putD k d ds).map (·.2)) T' ∧ ∀ b, T' b → T b ∨ T2 b
  | [], [], T, _, ol, _ => ⟨T2, rfl, .one o, fun b h => .inr h⟩
  | [], _ :: _, _, h, _, _ => by simp at h
  | _ :: _, [], _, h, _, _ => by simp at h
  | (a, x) :: kvs, (a', y) :: ds, T, h, ol, dj => by
    simp only [List.map_cons, List.cons.injEq] at h
    obtain ⟨rfl, h⟩ := h
    cases ol with
    | @cons _ _ _ _ _ T1 R1 o1 t1 d1 e1 =>
      by_cases q : a = k
      · refine ⟨fun b => T2 b ∨ R1 b, by simp [putV, putD, q, h], ?_, fun b w => w.elim .inr fun w => .inl ((e1 b).mpr (.inr w))⟩
        simp only [putV, putD, q, if_true, List.map_cons]
        exact .cons o t1 (fun b w1 w2 => dj b ((e1 b).mpr (.inr w2)) w1) fun b => Iff.rfl
      · obtain ⟨T', q1, q2, q3⟩ := owl_put (k := k) o h t1 fun b w1 w2 => dj b ((e1 b).mpr (.inr w1)) w2
        refine ⟨fun b => T1 b ∨ T' b, by simp [putV, putD, q, q1], ?_, fun b w => ?_⟩
        · simp only [putV, putD, q, if_false, List.map_cons]
          refine .cons o1 q2 (fun b w1 w2 => ?_) fun b => Iff.rfl
          rcases q3 b w2 with w | w
          · exact d1 b w1 w
          · exact dj b ((e1 b).mpr (.inl w1)) w
        · rcases w with w | w
          · exact .inl ((e1 b).mpr (.inl w))
          · exact (q3 b w).imp (fun w => (e1 b).mpr (.inr w)) id
theorem putV_putF (f : Str) (v : V) : ∀ fs : List (Str × V), putV f v fs = putF f v fs
  | [] => rfl
  | (g, x) :: r => by simp only [putV, putF]; rw [putV_putF f v r]
def ndK {κ : Type} [Qk κ] : List (κ × D) → Bool
  | [] => true
  | (k, _) :: r => r.all (fun q => !(@decide (q.1 = k) (Qk.dec q.1 k))) && ndK r
theorem putV_putK {κ : Type} [DecidableEq κ] [Qk κ] (k : κ) (v : V) : ∀ {kvs : List (κ × V)} {ds : List (κ × D)}, kvs.map (·.1) = ds.map (·.1) → ndK ds = true → putV k v kvs = putK kvs k v
  | [], [], _, _ => by simp [putV, putK]
  | [], _ :: _, h, _ => by simp at h
  | _ :: _, [], h, _ => by simp at h
  | (a, x) :: kvs, (a', y) :: ds, h, n => by
    simp only [List.map_cons, List.cons.injEq] at h
    obtain ⟨rfl, h⟩ := h
    simp only [ndK, Bool.and_eq_true] at n
    have ih := putV_putK k v h n.2
    by_cases q : a = k
    · subst q
      have hn : ∀ kv ∈ kvs, ¬ kv.1 = a := by
        intro kv hkv e
        have hm : kv.1 ∈ ds.map (·.1) := by rw [← h]; exact List.mem_map_of_mem hkv
        obtain ⟨q', hq', e'⟩ := List.mem_map.mp hm
        have := List.all_eq_true.mp n.1 q' hq'
        simp only [Bool.not_eq_true', decide_eq_false_iff_not] at this
        exact this (e'.trans e)
      have hmap : kvs.map (fun kv => if kv.1 = a then (kv.1, v) else kv) = kvs := by
        conv => rhs; rw [← List.map_id kvs]
        apply List.map_congr_left
        intro kv hkv
        simp [hn kv hkv]
      simp [putV, putK, hmap]
    · simp only [putV, q, if_false, ih]
      unfold putK
      by_cases hany : (kvs.any fun kv => decide (kv.1 = k)) = true
      · simp [hany, q]
      · have hany' : (kvs.any fun kv => decide (kv.1 = k)) = false := Bool.eq_false_iff.mpr hany
        simp [hany', q]
end
section
variable {X : Cx} {G : Pl} {M : List Nat} {W : WX} {i : Nat} {x c f : Str} {e ke : Expr} {F : Env → R D} {p1 apos pos : Pos}
theorem ins_ow {K : PySem.W.Frag} {H : Hp} {v : V} {ds : List (Str × D)} {S : AS} (h : Ow K H v (.ins c ds) S) : ∃ a dx fs T, v = .ref a ∧ H a = some (.ins (He.ga K c) dx fs) ∧ H dx = some (.own a) ∧ fs.map (·.1) = ds.map (·.1) ∧ OwL K H (fs.map (·.2)) (ds.map (·.2)) T ∧ ¬ T a ∧ ¬ T dx ∧ ∀ b, S b ↔ b = a ∨ b = dx ∨ T b := by
  cases h with
  | leaf i _ _ => simp [imm] at i
  | ins h1 h2 h3 h4 h5 h6 h7 => exact ⟨_, _, _, _, rfl, h1, h2, h3, h4, h5, h6, h7⟩
theorem dic_ow {K : PySem.W.Frag} {H : Hp} {v : V} {ds : List (Key × D)} {S : AS} (h : Ow K H v (.dic ds) S) : ∃ a kvs T, v = .ref a ∧ H a = some (.dK kvs) ∧ kvs.map (·.1) = ds.map (·.1) ∧ OwL K H (kvs.map (·.2)) (ds.map (·.2)) T ∧ ¬ T a ∧ ∀ b, S b ↔ b = a ∨ T b := by
  cases h with
  | leaf i _ _ => simp [imm] at i
  | dic h1 h2 h3 h4 h5 => exact ⟨_, _, _, rfl, h1, h2, h3, h4, h5⟩
/-- a slot's thing exchanged: post -/
theorem mut_post {K : PySem.W.Frag} {U T S1 : AS} {S : Nat → AS} {H H' : Hp} {σ : L2.St} {env : Env} {v : V} {d' : D} (r : Rel K M (un U T) S H σ env) (hi : i ∈ M) (hv : σ[i]? = some (some v)) (chg : ∀ b o, H b = some o → ¬ S i b → H' b = some o) (ow : Ow K H' v d' S1) (s1 : ∀ b, S1 b → S i b ∨ T b ∨ H b = none) (nu : ∀ a, T a → ¬ U a) :
    ∃ S', Rel K M U S' H' σ (env.set i (some d')) ∧ (∀ b o, H b = some o → (∀ j, ¬ S j b) → H' b = some o) ∧ ∀ j b, S' j b → (∃ k, S k b) ∨ T b ∨ H b = none := by
  classical
  refine ⟨_, r.mut hi hv chg ow s1 nu, fun b o hb n => chg b o hb (n i), fun j b z => ?_⟩
  by_cases hj : j = i
  · simp only [hj, if_true] at z
    rcases s1 b z with w | w | w
    · exact .inl ⟨i, w⟩
    · exact .inr (.inl w)
    · exact .inr (.inr w)
  · simp only [hj, if_false] at z
    exact .inl ⟨j, z⟩
/-- together with what came ahead -/
theorem post_mut {K : PySem.W.Frag} {U T : AS} {S S1 S' : Nat → AS} {H H1 H' : Hp} {σ : L2.St} {e1 env' : Env} (po : Post K M U S H σ S1 H1 e1) (gr : ∀ a, T a → (∃ j, S j a) ∨ H a = none) (r : Rel K M U S' H' σ env') (k1 : ∀ b o, H1 b = some o → (∀ j, ¬ S1 j b) → H' b = some o) (k2 : ∀ j b, S' j b → (∃ k, S1 k b) ∨ T b ∨ H1 b = none) : Post K M U S H σ S' H' env' := by
  refine ⟨r, fun b o hb n => ?_, fun j b z => ?_⟩
  · refine k1 b o (po.keep b o hb n) fun j z => ?_
    rcases po.grow j b z with ⟨k, w⟩ | w
    · exact n k w
    · rw [w] at hb; cases hb
  · rcases k2 j b z with ⟨k, w⟩ | w | w
    · exact po.grow k b w
    · exact gr b w
    · cases hb : H b with
      | none => exact .inr rfl
      | some o =>
        left
        refine Classical.byContradiction fun n => ?_
        rw [po.keep b o hb fun k q => n ⟨k, q⟩] at w
        cases w
/-! self.f = e -/
section
local instance (priority := 10000) qs5 : DecidableEq Str := quickStr
def sFldD (c f : Str) (i : Nat) (F : Env → R D) : Env → Fl := fun env => match F env with
  | .ok d e => match e[i]? with
    | some (some (.ins c' ds)) => if c' = c ∧ ds.length < 1000 then .nx (e.set i (some (.ins c (putD f d ds)))) else .bad
    | _ => .bad
  | .exc c d e => .exc c d e
  | .bad => .bad
end
theorem s_fld (cl : Cls X.K (He.ga X.K c)) (na : NoAttr X.K (He.ga X.K c) f) (hM : G.M.contains i = true) (hN : X.N[i]? = some x) (hv : Vis X.env.scope x) (h : SO X G.M W e F) (hs : swapsWith e (some (.Attribute (.Name x p1) f apos)) pos.line X.env = pure false := by rfl) (hd : (x == ("__debug__" : Str)) = false := by decide) (hcd : (x == ("__classdict__" : Str)) = false := by decide) :
    SS X G W (.Assign [.Attribute (.Name x p1) f apos] e pos) (sFldD c f i F) := by
  obtain ⟨t, p, q⟩ := h
  have hM' : i ∈ G.M := by simpa using hM
  refine ⟨_, ps_fld (pe_var hN hv hd hcd) p hs, fun σ H env U S r E h => q σ H env U S r _ ?_⟩
  unfold sFldD at h
  cases hF : F env with
  | bad => rw [hF] at h; exact h.elim
  | exc c d e => rw [hF] at h; exact fun dx v H' S' po x z rp => h dx v σ H' S' (.of po) x z rp
  | ok d e1 =>
    rw [hF] at h
    simp only at h
    intro y H1 S1 T po rl ow nu gr
    cases he : e1[i]? with
    | none => rw [he] at h; exact h.elim
    | some o =>
      cases o with
      | none => rw [he] at h; exact h.elim
      | some di =>
        cases di with
        | ins c' ds =>
          rw [he] at h
          simp only at h
          by_cases hc : c' = c ∧ ds.length < 1000
          · rw [if_pos hc] at h
            obtain ⟨rfl, hlen⟩ := hc
            obtain ⟨v', h1, h2⟩ := rl.own i _ hM' he
            obtain ⟨a, dx, fs, T1, rfl, h3, h4, h5, h6, h7, h8, h9⟩ := ins_ow h2
            have hTS : ∀ b, T b → S1 i b → False := fun b q1 q2 => rl.out i b q2 (.inr q1)
            obtain ⟨T', g1, g2, g3⟩ := owl_put (k := f) ow h5 h6 fun b w1 w2 => hTS b w2 ((h9 b).mpr (.inr (.inr w1)))
            have hfl : fs.length < 1000 := by
              have := congrArg List.length h5
              simp at this
              omega
            refine ⟨.ref a, h1, a, _, dx, fs, rfl, h3, cl, na, hfl, ?_⟩
            rw [← putV_putF]
            have hup := ow_tup (K := X.K) (H := H1) (a := a) (o := .ins (He.ga X.K c') dx (putV f y fs)) (fun xs z => by rw [h3] at z; cases z) (fun _ _ z => by rw [h3] at z; cases z)
            have hda : dx ≠ a := fun e => by rw [e, h3] at h4; cases h4
            have na' : ¬ T' a := fun z => (g3 a z).elim h7 fun w => hTS a w ((h9 a).mpr (.inl rfl))
            have nd' : ¬ T' dx := fun z => (g3 dx z).elim h8 fun w => hTS dx w ((h9 dx).mpr (.inr (.inl rfl)))
            have ow' : Ow X.K (upd H1 a (.ins (He.ga X.K c') dx (putV f y fs))) (.ref a) (.ins c' (putD f d ds)) (fun b => b = a ∨ b = dx ∨ T' b) :=
              .ins upd_same (by rw [upd_ne hda]; exact h4) g1 (g2.carry hup.1 hup.2 fun b o hb ho => by rw [upd_ne (fun e => na' (by rw [← e]; exact hb))]; exact ho) na' nd' fun b => Iff.rfl
            obtain ⟨S', r', k1, k2⟩ := mut_post rl hM' h1 (fun b o hb n => by rw [upd_ne (fun e => n ((h9 b).mpr (.inl e)))]; exact hb) ow' (fun b z => by
              rcases z with z | z | z
              · exact .inl ((h9 b).mpr (.inl z))
              · exact .inl ((h9 b).mpr (.inr (.inl z)))
              · rcases g3 b z with w | w
                · exact .inl ((h9 b).mpr (.inr (.inr w)))
                · exact .inr (.inl w)) nu
            exact h σ _ S' (.of (post_mut po gr r' k1 k2))
          · rw [if_neg hc] at h; exact h.elim
        | _ => rw [he] at h; exact h.elim
/-! x[k] = e, x a dict in an owning slot -/
def sDput (i : Nat) (F : Env → R D) (I : Env → O D) : Env → Fl := fun env => match F env with
  | .ok d e => match e[i]?, I e with
    | some (some (.dic ds)), .ok kd => match keyOf kd with
      | some k => if ndK ds && decide (ds.length < sizeLine) then .nx (e.set i (some (.dic (putD k d ds)))) else .bad
      | none => .bad
    | _, _ => .bad
  | .exc c d e => .exc c d e
  | .bad => .bad
theorem keyOf_V {K : PySem.W.Frag} {H : Hp} {v : V} {d : D} {k : Key} (r : Rp K H v d) (h : keyOf d = some k) : v = kV k := by
  cases r <;> simp [keyOf] at h <;> subst h <;> rfl
theorem s_dput {k : Nat} {I : Env → O D} (gd : Gd X W k) (hM : G.M.contains i = true) (hN : X.N[i]? = some x) (hv : Vis X.env.scope x) (h : SO X G.M W e F) (hI : SP X G.M W false ke I) (hs : swapsWith e (some (.Subscript (.Name x p1) ke apos)) pos.line X.env = pure false := by rfl) (hd : (x == ("__debug__" : Str)) = false := by decide) (hcd : (x == ("__classdict__" : Str)) = false := by decide) :
    SS X G W (.Assign [.Subscript (.Name x p1) ke apos] e pos) (sDput i F I) := by
  obtain ⟨t, p, q⟩ := h
  obtain ⟨ti, pi, qi⟩ := hI
  have hM' : i ∈ G.M := by simpa using hM
  refine ⟨_, ps_dput gd.hu1 (pe_var hN hv hd hcd) pi p hs, fun σ H env U S r E h => q σ H env U S r _ ?_⟩
  unfold sDput at h
  cases hF : F env with
  | bad => rw [hF] at h; exact h.elim
  | exc c d e => rw [hF] at h; exact fun dx v H' S' po x z rp => h dx v σ H' S' (.of po) x z rp
  | ok d e1 =>
    rw [hF] at h
    simp only at h
    intro y H1 S1 T po rl ow nu gr
    cases he : e1[i]? with
    | none => rw [he] at h; exact h.elim
    | some o =>
      cases o with
      | none => rw [he] at h; exact h.elim
      | some di =>
        cases di with
        | dic ds =>
          rw [he] at h
          obtain ⟨v0, hv0, _⟩ := rl.own i _ hM' he
          refine ⟨v0, hv0, qi σ H1 e1 (un U T) S1 rl _ ?_⟩
          cases hI : I e1 with
          | bad => rw [hI] at h; exact h.elim
          | exc c d => rw [hI] at h; exact h.elim
          | ok kd =>
            rw [hI] at h
            simp only at h
            intro vk H2 ex rk
            cases hk : keyOf kd with
            | none => rw [hk] at h; exact h.elim
            | some k =>
              rw [hk] at h
              simp only at h
              cases hc : (ndK ds && decide (ds.length < sizeLine)) with
              | false => rw [hc] at h; exact (show False by simpa [PoS] using h).elim
              | true =>
                rw [hc] at h
                simp only [if_true] at h
                simp only [Bool.and_eq_true, decide_eq_true_eq] at hc
                have rl2 := rl.mono ex
                have po2 := po.trans (po.rel.post ex)
                have ow2 : Ow X.K H2 y d T := ow.carry (fun a xs => ex_rd ex) (fun a xs h => ex a _ h) fun a o _ h => ex a o h
                obtain ⟨v', h1, h2⟩ := rl2.own i _ hM' he
                have : v' = v0 := by rw [hv0] at h1; cases h1; rfl
                subst this
                obtain ⟨a, kvs, T1, rfl, h3, h5, h6, h7, h9⟩ := dic_ow h2
                have hTS : ∀ b, T b → S1 i b → False := fun b q1 q2 => rl.out i b q2 (.inr q1)
                obtain ⟨T', g1, g2, g3⟩ := owl_put (k := k) ow2 h5 h6 fun b w1 w2 => hTS b w2 ((h9 b).mpr (.inr w1))
                have hkl : kvs.length < sizeLine := by
                  have := congrArg List.length h5
                  simp at this
                  omega
                refine ⟨a, upd H2 a (.dK (putK kvs k y)), rfl, .inl ⟨kvs, k, h3, keyOf_V rk hk, hkl, rfl⟩, ?_⟩
                rw [← putV_putK k y h5 hc.1]
                have hup := ow_tup (K := X.K) (H := H2) (a := a) (o := .dK (putV k y kvs)) (fun xs z => by rw [h3] at z; cases z) (fun _ _ z => by rw [h3] at z; cases z)
                have na' : ¬ T' a := fun z => (g3 a z).elim h7 fun w => hTS a w ((h9 a).mpr (.inl rfl))
                have ow' : Ow X.K (upd H2 a (.dK (putV k y kvs))) (.ref a) (.dic (putD k d ds)) (fun b => b = a ∨ T' b) :=
                  .dic upd_same g1 (g2.carry hup.1 hup.2 fun b o hb ho => by rw [upd_ne (fun e => na' (by rw [← e]; exact hb))]; exact ho) na' fun b => Iff.rfl
                obtain ⟨S', r', k1, k2⟩ := mut_post rl2 hM' hv0 (fun b o hb n => by rw [upd_ne (fun e => n ((h9 b).mpr (.inl e)))]; exact hb) ow' (fun b z => by
                  rcases z with z | z
                  · exact .inl ((h9 b).mpr (.inl z))
                  · rcases g3 b z with w | w
                    · exact .inl ((h9 b).mpr (.inr w))
                    · exact .inr (.inl w)) nu
                exact h σ _ S' (.of (post_mut po2 gr r' k1 k2))
        | _ => rw [he] at h; exact h.elim
end
end Rf

namespace Rf
open PySem PySem.Spec PyProof.Rows L2

/-! a list or dict within what a slot owns -/
inductive Stp where
  | fld (c f : Str)
  | key (k : Key)
def idxK {κ : Type} [Qk κ] (k : κ) : List (κ × D) → Option Nat
  | [] => none
  | (g, _) :: r => @ite _ (g = k) (Qk.dec g k) (some 0) ((idxK k r).map (· + 1))
theorem idxK_V {κ : Type} [DecidableEq κ] [Qk κ] {k : κ} : ∀ {kvs : List (κ × V)} {ds : List (κ × D)} {j : Nat} {v : V}, kvs.map (·.1) = ds.map (·.1) → idxK k ds = some j → (kvs.map (·.2))[j]? = some v → (kvs.find? fun kv => decide (kv.1 = k)).map (·.2) = some v
  | [], [], _, _, _, h, _ => by simp [idxK] at h
  | [], _ :: _, _, _, h, _, _ => by simp at h
  | _ :: _, [], _, _, h, _, _ => by simp at h
  | (a, x) :: kvs, (a', y) :: ds, j, v, h, hi, hv => by
    simp only [List.map_cons, List.cons.injEq] at h
    obtain ⟨rfl, h⟩ := h
    unfold idxK at hi
    by_cases q : a = k
    · rw [if_pos q] at hi; cases hi
      simp at hv
      simp [List.find?_cons, q, hv]
    · rw [if_neg q] at hi
      cases hq : idxK k ds with
      | none => rw [hq] at hi; simp at hi
      | some j' =>
        rw [hq] at hi
        simp at hi
        subst hi
        simp only [List.map_cons, List.getElem?_cons_succ] at hv
        have := idxK_V h hq hv
        simp [List.find?_cons, q, this]
theorem lookup_find {f : Str} : ∀ {fs : List (Str × V)}, fs.lookup f = (fs.find? fun kv => decide (kv.1 = f)).map (·.2)
  | [] => rfl
  | (a, x) :: fs => by
    by_cases q : f = a
    · subst q; simp [List.lookup, List.find?_cons]
    · have h1 : (f == a) = false := by simp [q]
      have h2 : ¬ a = f := fun e => q e.symm
      simp only [List.lookup, h1, List.find?_cons, decide_eq_false h2]
      exact lookup_find
section
local instance (priority := 10000) qs6 : DecidableEq Str := quickStr
def getP : Stp → D → Option D
  | .fld c f, .ins c' ds => if c' = c then (idxK f ds).bind fun j => (ds.map (·.2))[j]? else none
  | .key k, .dic ds => (idxK k ds).bind fun j => (ds.map (·.2))[j]?
  | _, _ => none
end
def repV {κ : Type} : List (κ × D) → List D → List (κ × D)
  | (k, _) :: r, d :: ds => (k, d) :: repV r ds
  | _, _ => []
theorem repV_keys {κ : Type} : ∀ (ds : List (κ × D)) (es : List D), ds.length = es.length → (repV ds es).map (·.1) = ds.map (·.1) ∧ (repV ds es).map (·.2) = es
  | [], [], _ => ⟨rfl, rfl⟩
  | [], _ :: _, h => by simp at h
  | _ :: _, [], h => by simp at h
  | (k, d) :: r, e :: es, h => by
    obtain ⟨h1, h2⟩ := repV_keys r es (by simpa using h)
    exact ⟨by simp [repV, h1], by simp [repV, h2]⟩
def setP : Stp → D → D → D
  | .fld c f, d', .ins c' ds => match idxK f ds with
    | some j => .ins c' (repV ds ((ds.map (·.2)).set j d'))
    | none => .ins c' ds
  | .key k, d', .dic ds => match idxK k ds with
    | some j => .dic (repV ds ((ds.map (·.2)).set j d'))
    | none => .dic ds
  | _, _, d => d
/-- where a step leads, in the heap -/
def StpAt (K : PySem.W.Frag) (H : Hp) : Stp → Addr → V → Prop
  | .fld c f, a, w => ∃ dx fs, H a = some (.ins (He.ga K c) dx fs) ∧ fs.lookup f = some w
  | .key k, a, w => ∃ kvs, H a = some (.dK kvs) ∧ valV kvs k = some w
section
variable {K : PySem.W.Frag} {M : List Nat} {U : AS} {S : Nat → AS} {H : Hp} {σ : L2.St} {env : Env} {i : Nat} {st : Stp} {d sub : D}
theorem ow_step {v : V} {S : AS} (h : Ow K H v d S) (hg : getP st d = some sub) : ∃ (a : Addr) (w : V) (Tj : AS), v = .ref a ∧ StpAt K H st a w ∧ Ow K H w sub Tj ∧ (∀ b, Tj b → S b) ∧
    ∀ (H' : Hp) (sub' : D) (Tj' : AS), (∀ b o, H b = some o → ¬ Tj b → H' b = some o) → Ow K H' w sub' Tj' → (∀ b, Tj' b → Tj b ∨ ¬ S b) → ∃ S', Ow K H' v (setP st sub' d) S' ∧ ∀ b, S' b → S b ∨ Tj' b := by
  have nt := h.nt
  have key : ∀ {Tj : AS} {H' : Hp}, (∀ b, Tj b → S b) → (∀ b o, H b = some o → ¬ Tj b → H' b = some o) → (∀ a xs, Rd H a (.tup xs) → Rd H' a (.tup xs)) ∧ ∀ a xs, H a = some (.tup xs) → H' a = some (.tup xs) := by
    intro Tj H' hs chg
    constructor
    · intro a xs r
      have nz : ¬ Tj a := fun z => (nt a (hs a z)).2 xs r
      rcases r with r | ⟨o, r⟩
      · exact .inl (chg a _ r nz)
      · exact .inr ⟨o, chg a _ r nz⟩
    · exact fun a xs r => chg a _ r fun z => (nt a (hs a z)).2 xs (.inl r)
  cases st with
  | fld c f =>
    cases d with
    | ins c' ds =>
      simp only [getP] at hg
      by_cases hc : c' = c
      · rw [if_pos hc] at hg
        subst hc
        cases hx : idxK f ds with
        | none => rw [hx] at hg; simp at hg
        | some j =>
          rw [hx] at hg
          simp only [Option.bind_some] at hg
          obtain ⟨a, dx, fs, T1, rfl, h3, h4, h5, h6, h7, h8, h9⟩ := ins_ow h
          obtain ⟨w, Tj, Tr, q1, q2, q3, q4, q5⟩ := h6.child hg
          have hsub : ∀ b, Tj b → S b := fun b z => (h9 b).mpr (.inr (.inr ((q3 b).mpr (.inl z))))
          refine ⟨a, w, Tj, rfl, ⟨dx, fs, h3, by rw [lookup_find]; exact idxK_V h5 hx q1⟩, q2, hsub, fun H' sub' Tj' chg o' hT => ?_⟩
          have tt := key hsub chg
          have ntj : ∀ b, Tr b → ¬ Tj b := fun b z1 z2 => q4 b z2 z1
          obtain ⟨S', s1, s2⟩ := q5 H' sub' Tj' tt.1 tt.2 (fun b o z hb => chg b o hb (ntj b z)) o' fun b z1 z2 => by
            rcases hT b z1 with z | z
            · exact q4 b z z2
            · exact z ((h9 b).mpr (.inr (.inr ((q3 b).mpr (.inr z2)))))
          have nTa : ¬ Tj a := fun z => h7 ((q3 a).mpr (.inl z))
          have nTd : ¬ Tj dx := fun z => h8 ((q3 dx).mpr (.inl z))
          have nSa : ¬ S' a := fun z => by
            rcases (s2 a).mp z with w1 | w1
            · rcases hT a w1 with w2 | w2
              · exact nTa w2
              · exact w2 ((h9 a).mpr (.inl rfl))
            · exact h7 ((q3 a).mpr (.inr w1))
          have nSd : ¬ S' dx := fun z => by
            rcases (s2 dx).mp z with w1 | w1
            · rcases hT dx w1 with w2 | w2
              · exact nTd w2
              · exact w2 ((h9 dx).mpr (.inr (.inl rfl)))
            · exact h8 ((q3 dx).mpr (.inr w1))
          have hl : ds.length = ((ds.map (·.2)).set j sub').length := by simp
          obtain ⟨k1, k2⟩ := repV_keys ds ((ds.map (·.2)).set j sub') hl
          refine ⟨fun b => b = a ∨ b = dx ∨ S' b, ?_, fun b z => ?_⟩
          · simp only [setP, hx]
            exact .ins (chg a _ h3 nTa) (chg dx _ h4 nTd) (by rw [k1]; exact h5) (by rw [k2]; exact s1) nSa nSd fun b => Iff.rfl
          · rcases z with z | z | z
            · exact .inl ((h9 b).mpr (.inl z))
            · exact .inl ((h9 b).mpr (.inr (.inl z)))
            · rcases (s2 b).mp z with w1 | w1
              · exact .inr w1
              · exact .inl ((h9 b).mpr (.inr (.inr ((q3 b).mpr (.inr w1)))))
      · rw [if_neg hc] at hg; cases hg
    | _ => simp [getP] at hg
  | key k =>
    cases d with
    | dic ds =>
      simp only [getP] at hg
      cases hx : idxK k ds with
      | none => rw [hx] at hg; simp at hg
      | some j =>
        rw [hx] at hg
        simp only [Option.bind_some] at hg
        obtain ⟨a, kvs, T1, rfl, h3, h5, h6, h7, h9⟩ := dic_ow h
        obtain ⟨w, Tj, Tr, q1, q2, q3, q4, q5⟩ := h6.child hg
        have hsub : ∀ b, Tj b → S b := fun b z => (h9 b).mpr (.inr ((q3 b).mpr (.inl z)))
        refine ⟨a, w, Tj, rfl, ⟨kvs, h3, idxK_V h5 hx q1⟩, q2, hsub, fun H' sub' Tj' chg o' hT => ?_⟩
        have tt := key hsub chg
        have ntj : ∀ b, Tr b → ¬ Tj b := fun b z1 z2 => q4 b z2 z1
        obtain ⟨S', s1, s2⟩ := q5 H' sub' Tj' tt.1 tt.2 (fun b o z hb => chg b o hb (ntj b z)) o' fun b z1 z2 => by
          rcases hT b z1 with z | z
          · exact q4 b z z2
          · exact z ((h9 b).mpr (.inr ((q3 b).mpr (.inr z2))))
        have nTa : ¬ Tj a := fun z => h7 ((q3 a).mpr (.inl z))
        have nSa : ¬ S' a := fun z => by
          rcases (s2 a).mp z with w1 | w1
          · rcases hT a w1 with w2 | w2
            · exact nTa w2
            · exact w2 ((h9 a).mpr (.inl rfl))
          · exact h7 ((q3 a).mpr (.inr w1))
        have hl : ds.length = ((ds.map (·.2)).set j sub').length := by simp
        obtain ⟨k1, k2⟩ := repV_keys ds ((ds.map (·.2)).set j sub') hl
        refine ⟨fun b => b = a ∨ S' b, ?_, fun b z => ?_⟩
        · simp only [setP, hx]
          exact .dic (chg a _ h3 nTa) (by rw [k1]; exact h5) (by rw [k2]; exact s1) nSa fun b => Iff.rfl
        · rcases z with z | z
          · exact .inl ((h9 b).mpr (.inl z))
          · rcases (s2 b).mp z with w1 | w1
            · exact .inr w1
            · exact .inl ((h9 b).mpr (.inr ((q3 b).mpr (.inr w1))))
    | _ => simp [getP] at hg
end
/-! the receiver as an expression -/
section
variable {X : Cx} {G : Pl} {M : List Nat} {W : WX} {i : Nat} {x c f : Str} {e ke o : Expr} {F I : Env → O D} {p1 p2 apos cpos pos : Pos} {st : Stp}
def tStp (K : PySem.W.Frag) (i : Nat) (st : Stp) : TE := fun σ H Q => ∃ a w, σ[i]? = some (some (.ref a)) ∧ StpAt K H st a w ∧ Q w H
theorem pe_stf (cl : Cls X.K (He.ga X.K c)) (na : NoAttr X.K (He.ga X.K c) f) (hN : X.N[i]? = some x) (hv : Vis X.env.scope x) (hd : (x == ("__debug__" : Str)) = false := by decide) (hcd : (x == ("__classdict__" : Str)) = false := by decide) :
    PE X (.Attribute (.Name x p1) f p2) (tStp X.K i (.fld c f)) := by
  refine ⟨fun pins s σ H Q I hw => (pe_fld (pe_var hN hv hd hcd) rfl).run pins s σ H Q I ?_⟩
  obtain ⟨a, w, h1, ⟨dx, fs, h2, h3⟩, h4⟩ := hw
  exact ⟨.ref a, h1, a, _, dx, fs, w, rfl, h2, cl, na, h3, h4⟩
theorem pe_stk {k : Nat} {z : Str} {kk : Nat} {kp : Pos} (gd : Gd X W k) (hN : X.N[i]? = some x) (hv : Vis X.env.scope x) (hd : (x == ("__debug__" : Str)) = false := by decide) (hcd : (x == ("__classdict__" : Str)) = false := by decide) :
    PE X (.Subscript (.Name x p1) (.Constant (.str z) kk kp) p2) (tStp X.K i (.key (.inr z))) := by
  refine ⟨fun pins s σ H Q I hw => (pe_dget gd.hu1 (pe_var hN hv hd hcd) pe_str (fun _ _ => rfl)).run pins s σ H Q I ?_⟩
  obtain ⟨a, w, h1, ⟨kvs, h2, h3⟩, h4⟩ := hw
  exact ⟨.ref a, h1, a, w, rfl, .inl ⟨kvs, .inr z, .inl h2, rfl, h3.symm⟩, h4⟩
/-- a step of a list within, by what is looked at -/
def sMutP (i : Nat) (st : Stp) (F : Env → O D) (g : List D → D → Option (List D)) : Env → Fl := fun env => match env[i]? with
  | some (some d) => match getP st d, F env with
    | some (.lst ds), .ok y => match g ds y with
      | some ds' => .nx (env.set i (some (setP st (.lst ds') d)))
      | none => .bad
    | _, _ => .bad
  | _ => .bad
theorem s_mutP {m : Str} {id : String} {r : V → List V → Hp → VK → Prop} {g : List D → D → Option (List D)} (mo : MutE X.K r g) (slot : Slot "list" m id) (hty : typeOf (.builtin id) = pure (.type "method_descriptor")) (hm : MtR X id r) (hM : G.M.contains i = true) (po : PE X o (tStp X.K i st)) (h : SP X G.M W false e F) (hns : noStar [e] = true := by rfl)
    (hbase : attributeBase o m X.env (eval o X.env) = eval o X.env := by rfl) (hline : (apos.endLine == cpos.line) = true := by rfl) :
    SS X G W (.Expr (.Call (.Attribute o m apos) [e] [] cpos) pos) (sMutP i st F g) := by
  obtain ⟨t, p, q⟩ := h
  obtain ⟨n1, n2⟩ := noStar_head hns X.env
  have hM' : i ∈ G.M := by simpa using hM
  refine ⟨_, ps_expr (pe_bm PySem.F.plainAttrs_list slot hty hm po (pa_cons p pa_nil n1) hbase (by rw [n1]; rfl) hline n1 rfl), fun σ H env U S r E h => ?_⟩
  unfold sMutP at h
  cases he : env[i]? with
  | none => rw [he] at h; exact h.elim
  | some od =>
    cases od with
    | none => rw [he] at h; exact h.elim
    | some d =>
      rw [he] at h
      simp only at h
      obtain ⟨v0, hv0, ow0⟩ := r.own i d hM' he
      cases hg : getP st d with
      | none => rw [hg] at h; exact h.elim
      | some sub =>
        rw [hg] at h
        cases sub with
        | lst ds =>
          obtain ⟨a, w, Tj, rfl, hst, ow, hsub, put⟩ := ow_step ow0 hg
          obtain ⟨a', vs, T1, rfl, h3, h4, h5, h6⟩ := lst_ow ow
          refine ⟨a, .ref a', hv0, hst, .inl ⟨rfl, vs, SqL.of h3⟩, q σ H env U S r _ ?_⟩
          cases hF : F env with
          | bad => rw [hF] at h; exact h.elim
          | exc _ _ => rw [hF] at h; exact h.elim
          | ok y =>
            rw [hF] at h
            simp only at h
            intro vy H2 ex ry
            cases hgg : g ds y with
            | none => rw [hgg] at h; exact h.elim
            | some ds' =>
              rw [hgg] at h
              have r2 := r.mono ex
              obtain ⟨v1, hv1, ow1⟩ := r2.own i d hM' he
              have : v1 = .ref a := by rw [hv0] at hv1; cases hv1; rfl
              subst this
              obtain ⟨a2, w2, Tj2, e2, hst2, ow2, hsub2, put2⟩ := ow_step ow1 hg
              cases e2
              have hw : w2 = .ref a' := by
                cases st with
                | fld c f =>
                  obtain ⟨dx, fs, k1, k2⟩ := hst
                  obtain ⟨dx', fs', k3, k4⟩ := hst2
                  rw [ex _ _ k1] at k3; cases k3
                  rw [k2] at k4; cases k4; rfl
                | key k =>
                  obtain ⟨kvs, k1, k2⟩ := hst
                  obtain ⟨kvs', k3, k4⟩ := hst2
                  rw [ex _ _ k1] at k3; cases k3
                  rw [k2] at k4; cases k4; rfl
              subst hw
              obtain ⟨a3, vs3, T3, e3, g3, g4, g5, g6⟩ := lst_ow ow2
              cases e3
              refine mo H2 a' vs3 vy ds y ds' T3 _ g3 g4 (ry.mono vis_ex) hgg fun vs' ol => ?_
              have hup := ow_tup (K := X.K) (H := H2) (a := a') (o := .lst vs') (fun xs z => by rw [g3] at z; cases z) (fun _ _ z => by rw [g3] at z; cases z)
              have ol' : OwL X.K (upd H2 a' (.lst vs')) vs' ds' T3 := ol.carry hup.1 hup.2 fun b o hb ho => by
                rw [upd_ne (fun e => g5 (by rw [← e]; exact hb))]
                exact ho
              have owc : Ow X.K (upd H2 a' (.lst vs')) (.ref a') (.lst ds') Tj2 := .lst upd_same ol' g5 g6
              obtain ⟨S1, o1, o2⟩ := put2 (upd H2 a' (.lst vs')) (.lst ds') Tj2 (fun b o hb n => by rw [upd_ne (fun e => n ((g6 b).mpr (.inl e)))]; exact hb) owc fun b z => .inl z
              obtain ⟨S', r', k1, k2⟩ := mut_post (U := U) (T := fun _ => False) (r2.out_eq (U' := un U fun _ => False) fun a => by simp [un]) hM' hv0 (fun b o hb n => by rw [upd_ne (fun e => n (hsub2 b ((g6 b).mpr (.inl e))))]; exact hb) o1 (fun b z => .inl ((o2 b z).elim (fun w => w) (hsub2 b))) (fun _ h => h.elim)
              exact h σ _ S' (.of (post_mut (T := fun _ => False) (r.post ex) (fun _ h => h.elim) r' k1 k2))
        | _ => exact h.elim
end
def fAppI (ds : List D) (d : D) : Option (List D) := if imm d && decide (ds.length < sizeLine) then some (ds ++ [d]) else none
theorem me_append {K : PySem.W.Frag} : MutE K rAppend fAppI := by
  intro H a vs v ds d ds' T1 Q h1 h2 h3 h4 h5
  have l1 := h2.length
  simp only [fAppI] at h4
  split at h4
  · rename_i hl
    simp only [Bool.and_eq_true, decide_eq_true_eq] at hl
    cases h4
    exact ⟨a, vs, v, rfl, rfl, h1, by omega, h5 _ (h2.append (.one (.leaf hl.1 h3 fun _ h => h)) (fun _ _ h => h) fun b => by simp)⟩
  · cases h4
section
variable {X : Cx} {G : Pl} {M : List Nat} {W : WX} {i : Nat} {e ke o : Expr} {F I : Env → O D} {apos cpos pos : Pos} {st : Stp}
theorem s_appendP (hM : G.M.contains i = true) (po : PE X o (tStp X.K i st)) (h : SP X G.M W false e F) (hns : noStar [e] = true := by rfl)
    (hbase : attributeBase o "append" X.env (eval o X.env) = eval o X.env := by rfl) (hline : (apos.endLine == cpos.line) = true := by rfl) :
    SS X G W (.Expr (.Call (.Attribute o "append" apos) [e] [] cpos) pos) (sMutP i st F fAppI) := s_mutP me_append PySem.F.slot_list_append PySem.F.type_list_append mt_append hM po h hns hbase hline
theorem s_extendP (hM : G.M.contains i = true) (po : PE X o (tStp X.K i st)) (h : SP X G.M W false e F) (hns : noStar [e] = true := by rfl)
    (hbase : attributeBase o "extend" X.env (eval o X.env) = eval o X.env := by rfl) (hline : (apos.endLine == cpos.line) = true := by rfl) :
    SS X G W (.Expr (.Call (.Attribute o "extend" apos) [e] [] cpos) pos) (sMutP i st F fExt) := s_mutP me_extend PySem.F.slot_list_extend PySem.F.type_list_extend mt_extAll hM po h hns hbase hline
/-- self.f[k] = e: a dict within, e immutable and looked at -/
def sDputP (i : Nat) (st : Stp) (F I : Env → O D) : Env → Fl := fun env => match F env, env[i]? with
  | .ok y, some (some d) => match getP st d, I env with
    | some (.dic ds), .ok kd => match keyOf kd with
      | some k => if imm y && (ndK ds && decide (ds.length < sizeLine)) then .nx (env.set i (some (setP st (.dic (putD k y ds)) d))) else .bad
      | none => .bad
    | _, _ => .bad
  | _, _ => .bad
theorem s_dputP {k : Nat} (gd : Gd X W k) (hM : G.M.contains i = true) (po : PE X o (tStp X.K i st)) (h : SP X G.M W false e F) (hI : SP X G.M W false ke I) (hs : swapsWith e (some (.Subscript o ke apos)) pos.line X.env = pure false := by rfl) :
    SS X G W (.Assign [.Subscript o ke apos] e pos) (sDputP i st F I) := by
  obtain ⟨t, p, q⟩ := h
  obtain ⟨ti, pi, qi⟩ := hI
  have hM' : i ∈ G.M := by simpa using hM
  refine ⟨_, ps_dput gd.hu1 po pi p hs, fun σ H env U S r E h => q σ H env U S r _ ?_⟩
  unfold sDputP at h
  cases hF : F env with
  | bad => rw [hF] at h; exact h.elim
  | exc _ _ => rw [hF] at h; exact h.elim
  | ok y =>
    rw [hF] at h
    intro vy H1 ex1 ry
    cases he : env[i]? with
    | none => rw [he] at h; exact h.elim
    | some od =>
      cases od with
      | none => rw [he] at h; exact h.elim
      | some d =>
        rw [he] at h
        simp only at h
        have r1 := r.mono ex1
        obtain ⟨v0, hv0, ow0⟩ := r1.own i d hM' he
        cases hg : getP st d with
        | none => rw [hg] at h; exact h.elim
        | some sub =>
          rw [hg] at h
          cases sub with
          | dic ds =>
            obtain ⟨a, w, Tj, rfl, hst, ow, hsub, put⟩ := ow_step ow0 hg
            refine ⟨a, w, hv0, hst, qi σ H1 env U S r1 _ ?_⟩
            cases hI : I env with
            | bad => rw [hI] at h; exact h.elim
            | exc _ _ => rw [hI] at h; exact h.elim
            | ok kd =>
              rw [hI] at h
              simp only at h
              intro vk H2 ex rk
              cases hk : keyOf kd with
              | none => rw [hk] at h; exact h.elim
              | some k =>
                rw [hk] at h
                simp only at h
                cases hc : (imm y && (ndK ds && decide (ds.length < sizeLine))) with
                | false => rw [hc] at h; exact (show False by simpa [PoS] using h).elim
                | true =>
                  rw [hc] at h
                  simp only [if_true] at h
                  simp only [Bool.and_eq_true, decide_eq_true_eq] at hc
                  have r2 := r1.mono ex
                  obtain ⟨v1, hv1, ow1⟩ := r2.own i d hM' he
                  have : v1 = .ref a := by rw [hv0] at hv1; cases hv1; rfl
                  subst this
                  obtain ⟨a2, w2, Tj2, e2, hst2, ow2, hsub2, put2⟩ := ow_step ow1 hg
                  cases e2
                  have hw : w2 = w := by
                    cases st with
                    | fld c f =>
                      obtain ⟨dx, fs, k1, k2⟩ := hst
                      obtain ⟨dx', fs', k3, k4⟩ := hst2
                      rw [ex _ _ k1] at k3; cases k3
                      rw [k2] at k4; cases k4; rfl
                    | key k =>
                      obtain ⟨kvs, k1, k2⟩ := hst
                      obtain ⟨kvs', k3, k4⟩ := hst2
                      rw [ex _ _ k1] at k3; cases k3
                      rw [k2] at k4; cases k4; rfl
                  subst hw
                  obtain ⟨a3, kvs, T3, rfl, g3, g4, g5, g6, g7⟩ := dic_ow ow2
                  have owy : Ow X.K H2 vy y (fun _ => False) := .leaf hc.1 ((ry.mono vis_ex).mono ex) fun _ h => h
                  obtain ⟨T', l1, l2, l3⟩ := owl_put (k := k) owy g4 g5 fun _ _ h => h
                  have hkl : kvs.length < sizeLine := by
                    have := congrArg List.length g4
                    simp at this
                    omega
                  refine ⟨a3, upd H2 a3 (.dK (putK kvs k vy)), rfl, .inl ⟨kvs, k, g3, keyOf_V rk hk, hkl, rfl⟩, ?_⟩
                  rw [← putV_putK k vy g4 hc.2.1]
                  have hup := ow_tup (K := X.K) (H := H2) (a := a3) (o := .dK (putV k vy kvs)) (fun xs z => by rw [g3] at z; cases z) (fun _ _ z => by rw [g3] at z; cases z)
                  have na' : ¬ T' a3 := fun z => (l3 a3 z).elim g6 fun w => w
                  have owc : Ow X.K (upd H2 a3 (.dK (putV k vy kvs))) (.ref a3) (.dic (putD k y ds)) (fun b => b = a3 ∨ T' b) :=
                    .dic upd_same l1 (l2.carry hup.1 hup.2 fun b o hb ho => by rw [upd_ne (fun e => na' (by rw [← e]; exact hb))]; exact ho) na' fun b => Iff.rfl
                  have subT : ∀ b, (b = a3 ∨ T' b) → Tj2 b := fun b z => z.elim (fun z => (g7 b).mpr (.inl z)) fun z => (g7 b).mpr (.inr ((l3 b z).elim (fun w => w) fun w => w.elim))
                  obtain ⟨S1, o1, o2⟩ := put2 (upd H2 a3 (.dK (putV k vy kvs))) (.dic (putD k y ds)) _ (fun b o hb n => by rw [upd_ne (fun e => n ((g7 b).mpr (.inl e)))]; exact hb) owc fun b z => .inl (subT b z)
                  obtain ⟨S', r', k1, k2⟩ := mut_post (U := U) (T := fun _ => False) (r2.out_eq (U' := un U fun _ => False) fun a => by simp [un]) hM' hv0 (fun b o hb n => by rw [upd_ne (fun e => n (hsub2 b ((g7 b).mpr (.inl e))))]; exact hb) o1 (fun b z => .inl ((o2 b z).elim (fun w => w) fun w => hsub2 b (subT b w))) (fun _ h => h.elim)
                  exact h σ _ S' (.of (post_mut (T := fun _ => False) (r.post (ex1.trans ex)) (fun _ h => h.elim) r' k1 k2))
          | _ => exact h.elim
end
end Rf

namespace Rf
open PySem PySem.Spec PyProof.Rows L2

/-! isinstance(x, T), T a built-in class -/
def isTab (t n : String) : Bool := t == n || (t == "bool" && n == "int")
def tagsB : List String := ["NoneType", "bool", "int", "str", "tuple", "list", "dict"]
def tysB : List String := ["int", "bool", "str", "tuple", "list", "dict"]
theorem isTab_ok : (tagsB.all fun t => tysB.all fun n => decide (kitB t n = some (isTab t n))) = true := by decide +kernel
theorem isTab_kit {K : PySem.W.Frag} {t n : String} (ht : t ∈ tagsB) (hn : n ∈ tysB) : PySem.W.kitOne K (.type t) (.type n) = some (isTab t n) :=
  kit_ty (of_decide_eq_true (List.all_eq_true.mp (List.all_eq_true.mp isTab_ok t ht) n hn))
def fIsi (n : String) : D → O D
  | .ins _ _ => .bad
  | .exc _ _ => .bad
  | d => match tyD d with
    | .b t => .ok (.bl (isTab t n))
    | .own _ => .bad
section
variable {X : Cx} {M : List Nat} {W : WX} {b : Bool} {e : Expr} {p pn pos : Pos} {F : Env → O D} {n : String} {T : Str}
theorem tyX_of {K : PySem.W.Frag} {H : Hp} {x : V} {d : D} {t : String} (r : Rp K H x d) (h : tyD d = .b t) (h2 : ∀ c fs, d ≠ .ins c fs) (h3 : ∀ c e, d ≠ .exc c e) : TyX K H x (.type t) := by
  cases r with
  | non => cases h; exact .base .non
  | bl b => cases h; exact .base (.bl b)
  | int i => cases h; exact .base (.int i)
  | str z => cases h; exact .base (.str z)
  | tup a _ =>
    cases h
    rcases a with (a | ⟨o, a⟩) | ⟨o, its, n, a, c, _⟩
    · exact .base (.tup a)
    · exact .fTuple a
    · exact .kTuple a c
  | lst a _ => cases h; exact .base (.lst a)
  | scr a =>
    cases h
    rcases a with (a | ⟨o, a⟩) | ⟨o, its, n, a, c, _⟩
    · exact .base (.lst a)
    · exact .base (.frz a)
    · exact .kList a c
  | dic a _ _ =>
    cases h
    rcases a with a | ⟨o, a⟩
    · exact .base (.dK a)
    · exact .fDict a
  | ins _ _ _ => exact absurd rfl (h2 _ _)
  | exc _ _ _ => exact absurd rfl (h3 _ _)
theorem sp_isi (hg : Gl X "isinstance") (hm : X.mg "isinstance" = none) (hgT : Gl X T) (hmT : X.mg T = none) (hT : bootBuiltins T = some (.type n)) (hn : n ∈ tysB) (h : SP X M W b e F) (hs : noStar [e] = true := by rfl) (hTn : T ≠ "__name__" := by decide) (hTd : (T == ("__debug__" : Str)) = false := by decide) :
    SP X M W b (.Call (.Name "isinstance" p) [e, .Name T pn] [] pos) (nd (g1 (fIsi n)) [F]) := by
  obtain ⟨t, pp, q⟩ := h
  obtain ⟨n1, n2⟩ := noStar_head (es := [.Name T pn]) (e := e) (by cases e <;> first | rfl | (simp [noStar] at hs)) X.env
  refine ⟨_, pe_callB call_isi hg hm (by decide +kernel) (pa_cons pp (pa_cons (pe_bltn hgT hmT hT (v := .ty n) rfl hTn hTd) pa_nil) n1) (by decide) (by decide) n1 rfl, fun σ H env U S r Q hp => q σ H env U S r _ ?_⟩
  have hp' : Po X.K W (zb b U S) H σ (rpZ X.K (zb b U S)) Q ((F env).bind fun d => fIsi n d) := by
    have : nd (g1 (fIsi n)) [F] env = (F env).bind fun d => fIsi n d := by
      unfold nd seqF seqF
      cases F env <;> rfl
    rw [← this]
    exact hp
  refine Po.step hp' fun d v H1 _ e1 r1 h1 => ?_
  have key : ∀ t', tyD d = .b t' → (∀ c fs, d ≠ .ins c fs) → (∀ c e, d ≠ .exc c e) → t' ∈ tagsB → fIsi n d = .ok (.bl (isTab t' n)) → ∃ x c t u b', [v, V.ty n] = [x, c] ∧ ClsV c u ∧ TyX X.K H1 x t ∧ PySem.W.kitOne X.K t u = some b' ∧ Q (.bl b') H1 := by
    intro t' h2 h3 h4 h5 h6
    rw [h6] at h1
    exact ⟨v, .ty n, _, _, isTab t' n, rfl, .ty n, tyX_of (r1.mono vis_ex) h2 h3 h4, isTab_kit h5 hn, h1 _ H1 (Ex.refl H1) (.bl _)⟩
  cases d with
  | ins _ _ => exact h1.elim
  | exc _ _ => exact h1.elim
  | non => exact key "NoneType" rfl (fun _ _ h => by cases h) (fun _ _ h => by cases h) (by decide) rfl
  | bl _ => exact key "bool" rfl (fun _ _ h => by cases h) (fun _ _ h => by cases h) (by decide) rfl
  | int _ => exact key "int" rfl (fun _ _ h => by cases h) (fun _ _ h => by cases h) (by decide) rfl
  | str _ => exact key "str" rfl (fun _ _ h => by cases h) (fun _ _ h => by cases h) (by decide) rfl
  | tup _ => exact key "tuple" rfl (fun _ _ h => by cases h) (fun _ _ h => by cases h) (by decide) rfl
  | lst _ => exact key "list" rfl (fun _ _ h => by cases h) (fun _ _ h => by cases h) (by decide) rfl
  | dic _ => exact key "dict" rfl (fun _ _ h => by cases h) (fun _ _ h => by cases h) (by decide) rfl
  | scr _ => exact key "list" rfl (fun _ _ h => by cases h) (fun _ _ h => by cases h) (by decide) rfl
end
/-! a < b < c -/
section
variable {X : Cx} {M : List Nat} {W : WX} {b : Bool} {ea eb ec : Expr} {pos : Pos} {Fa Fb Fc : Env → O D} {op op' : CmpOp} {r r' : R2} {f f' : D → D → O D}
def eChain (f f' : D → D → O D) (Fa Fb Fc : Env → O D) : Env → O D := fun env => (Fa env).bind fun a => (Fb env).bind fun b => (asB (f a b)).bind fun k => if k then (Fc env).bind fun c => f' b c else .ok (.bl false)
theorem chain_run (v : V2 X.K W r f) (v' : V2 X.K W r' f') {ta tb tc : TE}
    (qa : ∀ σ H env U S, Rel X.K M U S H σ env → ∀ Q, Po X.K W (zb b U S) H σ (rpZ X.K (zb b U S)) Q (Fa env) → ta σ H Q) (qb : ∀ σ H env U S, Rel X.K M U S H σ env → ∀ Q, Po X.K W (zb b U S) H σ (rpZ X.K (zb b U S)) Q (Fb env) → tb σ H Q) (qc : ∀ σ H env U S, Rel X.K M U S H σ env → ∀ Q, Po X.K W (zb b U S) H σ (rpZ X.K (zb b U S)) Q (Fc env) → tc σ H Q)
    (σ : L2.St) (H : Hp) (env : Env) (U : AS) (S : Nat → AS) (rl : Rel X.K M U S H σ env) (Q : VK) (hp : Po X.K W (zb b U S) H σ (rpZ X.K (zb b U S)) Q (eChain f f' Fa Fb Fc env)) : tChain r r' ta tb tc σ H Q := by
  unfold eChain at hp
  refine qa σ H env U S rl _ (Po.step hp fun a x H1 _ e1 r1 h1 => qb σ H1 env U S (rl.mono e1) _ (Po.step h1 fun bb y H2 _ e2 r2 h2 => ?_))
  have n2 := ((rl.ntb b).new e1).new e2
  refine v H2 _ σ x y a bb _ n2 (r1.mono (vis_mono e2)) r2 ?_
  have h3 : Po X.K W (zb b U S) H2 σ eqZ (fun k H3 => if k = true then tc σ H3 fun w' H4 => r' y w' H4 Q else Q (.bl false) H3) (asB (f a bb)) := Po.step h2 fun k kk H3 _ e3 r3 h3 => by
    obtain rfl : kk = k := r3
    cases kk with
    | true => exact qc σ H3 env U S (((rl.mono e1).mono e2).mono e3) _ (Po.step h3 fun c z H4 _ e4 r4 h4 => v' H4 _ σ y z bb c Q ((n2.new e3).new e4) (r2.mono (vis_mono (e3.trans e4))) r4 h4)
    | false => exact h3 _ H3 (Ex.refl H3) (.bl false)
  exact Po_asB h3
theorem sp_chain (ho : OpR X (compareOp op) r) (ho' : OpR X (compareOp op') r') (v : V2 X.K W r f) (v' : V2 X.K W r' f') (ha : SP X M W b ea Fa) (hb : SP X M W b eb Fb) (hc : SP X M W b ec Fc) (hm : lastMarks [op, op'] [eb, ec] = false := by with_unfolding_all rfl) :
    SP X M W b (.Compare ea [op, op'] [eb, ec] pos) (eChain f f' Fa Fb Fc) := by
  obtain ⟨ta, pa, qa⟩ := ha
  obtain ⟨tb, pb, qb⟩ := hb
  obtain ⟨tc, pc, qc⟩ := hc
  exact ⟨_, pe_chain ho ho' pa pb pc hm, chain_run v v' qa qb qc⟩
theorem st_chain (ho : OpR X (compareOp op) r) (ho' : OpR X (compareOp op') r') (v : V2 X.K W r f) (v' : V2 X.K W r' f') (ha : SP X M W b ea Fa) (hb : SP X M W b eb Fb) (hc : SP X M W b ec Fc) (hm : lastMarks [op, op'] [eb, ec] = false := by with_unfolding_all rfl) :
    STp X M W b (.Compare ea [op, op'] [eb, ec] pos) (fun env => asB (eChain f f' Fa Fb Fc env)) := by
  obtain ⟨ta, pa, qa⟩ := ha
  obtain ⟨tb, pb, qb⟩ := hb
  obtain ⟨tc, pc, qc⟩ := hc
  exact ⟨_, pt_chain ho ho' pa pb pc hm, fun σ H env U S rl Q hp => chain_run v v' qa qb qc σ H env U S rl _ (Po_asB hp)⟩
end
/-! methods of texts -/
def strsD : List D → Option (List Str)
  | [] => some []
  | .str k :: r => (strsD r).map (k :: ·)
  | _ :: _ => none
theorem strsD_ok {K : PySem.W.Frag} {H : Hp} : ∀ {vs : List V} {ds : List D} {bs : List Str}, RpL K H vs ds → strsD ds = some bs → vs = bs.map V.str
  | _, _, _, .nil, h => by simp [strsD] at h; subst h; rfl
  | _, _, _, .cons r t, h => by
    cases r <;> simp [strsD] at h
    obtain ⟨bs, h1, rfl⟩ := h
    rw [strsD_ok t h1]; rfl
theorem rl_strs {K : PySem.W.Frag} {H : Hp} : ∀ zs : List Str, RpL K H (zs.map V.str) (zs.map D.str)
  | [] => .nil
  | z :: zs => .cons (.str z) (rl_strs zs)
section
variable {X : Cx} {M : List Nat} {W : WX} {b : Bool} {o e : Expr} {apos cpos : Pos} {S F : Env → O D} {α : Type}
/-- o.m(e) of a built-in type: o is of that type ahead of e -/
def eBm (chk : D → Bool) (f : D → D → O α) (S F : Env → O D) : Env → O α := fun env => (S env).bind fun s => if chk s then (F env).bind fun d => f s d else .bad
def TyC (K : PySem.W.Frag) (T : String) (chk : D → Bool) : Prop := ∀ H x s, Rp K H x s → chk s = true → L2.tyV K T x H
theorem bm_run {m : Str} {T id : String} {r : V → List V → Hp → VK → Prop} {chk : D → Bool} {f : D → D → O D} (ty : TyC X.K T chk) (pa : PlainAttrs T) (slot : Slot T m id) (hty : typeOf (.builtin id) = pure (.type "method_descriptor")) (hm : MtR X id r)
    (val : ∀ H Z σ x y d d2 Q, Nt H Z → Rp X.K (vis H Z) x d → Rp X.K (vis H Z) y d2 → Po X.K W Z H σ (rpZ X.K Z) Q (f d d2) → r x [y] H Q)
    (ho : SP X M W b o S) (he : SP X M W b e F) (hns : noStar [e] = true) (hbase : attributeBase o m X.env (eval o X.env) = eval o X.env) (hline : (apos.endLine == cpos.line) = true) :
    SP X M W b (.Call (.Attribute o m apos) [e] [] cpos) (eBm chk f S F) := by
  obtain ⟨to, po, qo⟩ := ho
  obtain ⟨te, pe, qe⟩ := he
  obtain ⟨n1, n2⟩ := noStar_head hns X.env
  refine ⟨_, pe_bm pa slot hty hm po (pa_cons pe pa_nil n1) hbase (by rw [n1]; rfl) hline n1 rfl, fun σ H env U S' rl Q hp => qo σ H env U S' rl _ ?_⟩
  unfold eBm at hp
  refine Po.step hp fun s x H1 _ e1 r1 h1 => ?_
  cases hc : chk s with
  | false => rw [hc] at h1; exact (show False by simpa [Po] using h1).elim
  | true =>
    rw [hc] at h1
    simp only [if_true] at h1
    refine ⟨ty H1 x s (r1.mono vis_ex) hc, qe σ H1 env U S' (rl.mono e1) _ (Po.step h1 fun d y H2 _ e2 r2 h2 => ?_)⟩
    exact val H2 _ σ x y s d Q (((rl.ntb b).new e1).new e2) (r1.mono (vis_mono e2)) r2 h2
def isStr : D → Bool
  | .str _ => true
  | _ => false
theorem ty_str {K : PySem.W.Frag} : TyC K "str" isStr := by
  intro H x s r h
  cases r <;> try (simp [isStr] at h; done)
  rfl
def isLstD : D → Bool
  | .lst _ => true
  | _ => false
theorem ty_lst {K : PySem.W.Frag} : TyC K "list" isLstD := by
  intro H x s r h
  cases r <;> try (simp [isLstD] at h; done)
  rename_i a vs ds ha r
  exact .inl ⟨rfl, vs, SqL.of ha⟩
/-- cut at each c: quick to compute -/
def cut1 (c : Nat) : List Nat → List (List Nat)
  | [] => [[]]
  | x :: r => match Nat.beq x c with
    | true => [] :: cut1 c r
    | false => match cut1 c r with
      | p :: ps => (x :: p) :: ps
      | [] => [[x]]
theorem cut1_ne (c : Nat) : ∀ l, cut1 c l ≠ []
  | [] => by simp [cut1]
  | x :: r => by
    unfold cut1
    cases Nat.beq x c
    · cases cut1 c r <;> simp
    · simp
def onHead (acc : List Nat) : List (List Nat) → List (List Nat)
  | p :: ps => (acc ++ p) :: ps
  | [] => [acc]
theorem cut1_spl (c : Nat) : ∀ (l acc : List Nat), TL.spl [c] 0 acc l = onHead acc (cut1 c l)
  | [], acc => by simp [TL.spl, cut1, onHead]
  | x :: r, acc => by
    have ih := cut1_spl c r
    cases h : Nat.beq x c with
    | true =>
      have e : x = c := Nat.eq_of_beq_eq_true h
      subst e
      have hp : TL.pre [x] (x :: r) = true := by simp [TL.pre]
      rw [TL.spl_hit hp]
      show acc :: TL.spl [x] 0 [] r = onHead acc (cut1 x (x :: r))
      rw [ih]
      simp only [cut1, h]
      cases hc : cut1 x r with
      | nil => exact absurd hc (cut1_ne x r)
      | cons p ps => simp [onHead]
    | false =>
      have e : x ≠ c := Nat.ne_of_beq_eq_false h
      have hp : TL.pre [c] (x :: r) = false := by simp [TL.pre, e]
      rw [TL.spl_miss hp, ih]
      simp only [cut1, h]
      cases hc : cut1 c r with
      | nil => exact absurd hc (cut1_ne c r)
      | cons p ps => simp [onHead]
def splF (a s : Str) : List Str := match s.cps.toList with
  | [c] => match Nat.blt c 256 with
    | true => (cut1 c a.cps.toList).map SX.S
    | false => Txt.split a s
  | _ => Txt.split a s
theorem splF_eq (a s : Str) : splF a s = Txt.split a s := by
  unfold splF
  split
  · rename_i c hc
    split
    · rename_i hb
      have hs : s = SX.S [c] := by rw [← hc]
      have ha : a = SX.S a.cps.toList := (SX.S_tl a).symm
      have lt : c < 256 := by have : c ≤ 255 := by simpa [Nat.blt] using hb
                              omega
      have e := SX.split_S (a := a.cps.toList) (b := [c]) (by simp) (by simpa using lt)
      rw [← ha, ← hs] at e
      rw [e, cut1_spl]
      cases hq : cut1 c a.cps.toList with
      | nil => exact absurd hq (cut1_ne c _)
      | cons p ps => rfl
    · rfl
  · rfl
def joinF (a : Str) (ys : List Str) : Str := SX.S (TL.joinL a.cps.toList (ys.map fun y => y.cps.toList))
theorem joinF_eq (a : Str) (ys : List Str) : joinF a ys = Txt.join a ys := by
  apply TL.ext_tl
  rw [TL.join_eq, TL.tl_join]
  rfl
def fSplit : D → D → O (List D)
  | .str a, .str s => if (s.length == 0) = false ∧ a.length + 2 ≤ sizeLine then .ok ((splF a s).map .str) else .bad
  | _, _ => .bad
theorem spl_split (ho : SP X M W b o S) (he : SP X M W b e F) (hns : noStar [e] = true := by rfl) (hbase : attributeBase o "split" X.env (eval o X.env) = eval o X.env := by rfl) (hline : (apos.endLine == cpos.line) = true := by rfl) :
    SPL X M W b (.Call (.Attribute o "split" apos) [e] [] cpos) (eBm isStr fSplit S F) := by
  obtain ⟨to, po, qo⟩ := ho
  obtain ⟨te, pe, qe⟩ := he
  obtain ⟨n1, n2⟩ := noStar_head hns X.env
  refine ⟨_, pe_bm PySem.F.plainAttrs_str PySem.F.slot_str_split PySem.F.type_str_split mt_split po (pa_cons pe pa_nil n1) hbase (by rw [n1]; rfl) hline n1 rfl, fun σ H env U S' rl Q hp => qo σ H env U S' rl _ ?_⟩
  unfold eBm at hp
  refine Po.step hp fun s x H1 _ e1 r1 h1 => ?_
  cases hc : isStr s with
  | false => rw [hc] at h1; exact (show False by simpa [Po] using h1).elim
  | true =>
    rw [hc] at h1
    simp only [if_true] at h1
    refine ⟨ty_str H1 x s (r1.mono vis_ex) hc, qe σ H1 env U S' (rl.mono e1) _ (Po.step h1 fun d y H2 _ e2 r2 h2 => ?_)⟩
    cases r1 with
    | str a =>
      cases r2 with
      | str z =>
        simp only [fSplit, splF_eq] at h2
        split at h2
        · rename_i hh
          refine ⟨a, z, rfl, rfl, hh.1, hh.2, fun p hn => ?_⟩
          exact h2 _ _ (Ex.new hn) ⟨p, _, rfl, fresh_back (e1.trans e2) hn, upd_same, rl_strs _⟩
        · exact h2.elim
      | _ => exact h2.elim
    | _ => simp [isStr] at hc
/-- sep.join(xs) -/
def fJoin : D → D → O D
  | .str a, .lst xs => match strsD xs with
    | some ys => if (ys.map (·.length)).sum + ys.length * a.length ≤ 16777216 then .ok (.str (joinF a ys)) else .bad
    | none => .bad
  | .str a, .tup xs => match strsD xs with
    | some ys => if (ys.map (·.length)).sum + ys.length * a.length ≤ 16777216 then .ok (.str (joinF a ys)) else .bad
    | none => .bad
  | _, _ => .bad
theorem sp_join (ho : SP X M W b o S) (he : SP X M W b e F) (hns : noStar [e] = true := by rfl) (hbase : attributeBase o "join" X.env (eval o X.env) = eval o X.env := by rfl) (hline : (apos.endLine == cpos.line) = true := by rfl) :
    SP X M W b (.Call (.Attribute o "join" apos) [e] [] cpos) (eBm isStr fJoin S F) := by
  refine bm_run ty_str PySem.F.plainAttrs_str PySem.F.slot_str_join PySem.F.type_str_join mt_join (fun H Z σ x y d d2 Q n h1 h2 hp => ?_) ho he hns hbase hline
  cases h1 with
  | str a =>
    cases h2 with
    | @lst p vs ds ha r =>
      simp only [fJoin, joinF_eq] at hp
      split at hp
      · rename_i ys hy
        split at hp
        · rename_i hs
          have := strsD_ok r hy
          subst this
          exact ⟨a, p, ys, rfl, rfl, .inl (SqL.of (of_some_vis ha)), hs, hp _ H (Ex.refl H) (.str _)⟩
        · exact hp.elim
      · exact hp.elim
    | @tup p vs ds ha r =>
      simp only [fJoin, joinF_eq] at hp
      split at hp
      · rename_i ys hy
        split at hp
        · rename_i hs
          have := strsD_ok r hy
          subst this
          exact ⟨a, p, ys, rfl, rfl, .inr (SqT.up ha), hs, hp _ H (Ex.refl H) (.str _)⟩
        · exact hp.elim
      · exact hp.elim
    | _ => exact hp.elim
  | _ => exact hp.elim
end
end Rf

namespace Rf
open PySem PySem.Spec PyProof.Rows L2

/-! sorted -/
def insB {α : Type} (le : α → α → Bool) (x : α) : List α → List α
  | [] => [x]
  | y :: ys => if le x y then x :: y :: ys else y :: insB le x ys
def isortB {α : Type} (le : α → α → Bool) : List α → List α
  | [] => []
  | x :: xs => insB le x (isortB le xs)
section
variable {α : Type} {le : α → α → Bool}
theorem insB_perm (x : α) : ∀ l : List α, (insB le x l).Perm (x :: l)
  | [] => List.Perm.refl _
  | y :: ys => by
    unfold insB
    split
    · exact List.Perm.refl _
    · exact ((insB_perm x ys).cons y).trans (List.Perm.swap x y ys)
theorem isortB_perm : ∀ l : List α, (isortB le l).Perm l
  | [] => List.Perm.refl _
  | x :: xs => (insB_perm x _).trans ((isortB_perm xs).cons x)
theorem insB_sorted (T : PySem.W.TotalLe le) (x : α) : ∀ l : List α, l.Pairwise (fun a b => le a b = true) → (insB le x l).Pairwise (fun a b => le a b = true)
  | [], _ => List.pairwise_singleton _ _
  | y :: ys, h => by
    unfold insB
    split
    · rename_i hx
      refine List.pairwise_cons.mpr ⟨fun z hz => ?_, h⟩
      rcases List.mem_cons.mp hz with rfl | hz
      · exact hx
      · exact T.trans _ _ _ hx (List.rel_of_pairwise_cons h hz)
    · rename_i hx
      have hyx : le y x = true := (T.total x y).resolve_left hx
      refine List.pairwise_cons.mpr ⟨fun z hz => ?_, insB_sorted T x ys (List.pairwise_cons.mp h).2⟩
      rcases List.mem_cons.mp ((insB_perm x ys).mem_iff.mp hz) with rfl | hz
      · exact hyx
      · exact List.rel_of_pairwise_cons h hz
theorem isortB_sorted (T : PySem.W.TotalLe le) : ∀ l : List α, (isortB le l).Pairwise (fun a b => le a b = true)
  | [] => List.Pairwise.nil
  | x :: xs => insB_sorted T x _ (isortB_sorted T xs)
theorem merge_isort (T : PySem.W.TotalLe le) (l : List α) (anti : ∀ a ∈ l, ∀ b ∈ l, le a b = true → le b a = true → a = b) : l.mergeSort le = isortB le l := by
  refine List.Perm.eq_of_pairwise (le := fun a b => le a b = true) (fun a b ha hb => anti a ((List.mergeSort_perm l le).mem_iff.mp ha) b ((isortB_perm l).mem_iff.mp hb)) ?_ (isortB_sorted T l) ((List.mergeSort_perm l le).trans (isortB_perm l).symm)
  refine List.pairwise_mergeSort (fun a b c => T.trans a b c) (fun a b => ?_) l
  rcases T.total a b with h | h <;> simp [h]
end
/-! alike data that are equal are the same -/
mutual
theorem alike_eq : ∀ (n m : Nat) (a b : D), pd n a = true → pd m b = true → PySem.W.alike (toP a) (toP b) = true → dEq a b = true → a = b
  | n, m, a, b, h1, h2, h3, h4 => by
    match a, b, h1, h2, h3, h4 with
    | .non, .non, _, _, _, _ => rfl
    | .bl x, .bl y, _, _, _, h4 => simp [dEq] at h4; rw [h4]
    | .int x, .int y, _, _, _, h4 => simp [dEq] at h4; rw [h4]
    | .str x, .str y, _, _, _, h4 => rw [(nbeq_str x y).mp (by simpa [dEq] using h4)]
    | .tup xs, .tup ys, h1, h2, h3, h4 =>
      cases n with
      | zero => simp [pd] at h1
      | succ n => cases m with
        | zero => simp [pd] at h2
        | succ m => rw [alike_eqL n m xs ys (by simpa [pd] using h1) (by simpa [pd] using h2) (by simpa [toP, PySem.W.alike] using h3) (by simpa [dEq] using h4)]
    | .lst xs, .lst ys, h1, h2, h3, h4 =>
      cases n with
      | zero => simp [pd] at h1
      | succ n => cases m with
        | zero => simp [pd] at h2
        | succ m => rw [alike_eqL n m xs ys (by simpa [pd] using h1) (by simpa [pd] using h2) (by simpa [toP, PySem.W.alike] using h3) (by simpa [dEq] using h4)]
    | .bl x, .int y, _, _, h3, _ => simp [toP, PySem.W.alike] at h3
    | .int x, .bl y, _, _, h3, _ => simp [toP, PySem.W.alike] at h3
    | .dic _, _, h1, _, _, _ => simp [pd] at h1
    | .ins _ _, _, h1, _, _, _ => simp [pd] at h1
    | .exc _ _, _, h1, _, _, _ => simp [pd] at h1
    | .scr _, _, h1, _, _, _ => simp [pd] at h1
    | _, .dic _, _, h2, _, _ => simp [pd] at h2
    | _, .ins _ _, _, h2, _, _ => simp [pd] at h2
    | _, .exc _ _, _, h2, _, _ => simp [pd] at h2
    | _, .scr _, _, h2, _, _ => simp [pd] at h2
    | .non, .bl _, _, _, _, h4 => simp [dEq] at h4
    | .non, .int _, _, _, _, h4 => simp [dEq] at h4
    | .non, .str _, _, _, _, h4 => simp [dEq] at h4
    | .non, .tup _, _, _, _, h4 => simp [dEq] at h4
    | .non, .lst _, _, _, _, h4 => simp [dEq] at h4
    | .bl _, .non, _, _, _, h4 => simp [dEq] at h4
    | .bl _, .str _, _, _, _, h4 => simp [dEq] at h4
    | .bl _, .tup _, _, _, _, h4 => simp [dEq] at h4
    | .bl _, .lst _, _, _, _, h4 => simp [dEq] at h4
    | .int _, .non, _, _, _, h4 => simp [dEq] at h4
    | .int _, .str _, _, _, _, h4 => simp [dEq] at h4
    | .int _, .tup _, _, _, _, h4 => simp [dEq] at h4
    | .int _, .lst _, _, _, _, h4 => simp [dEq] at h4
    | .str _, .non, _, _, _, h4 => simp [dEq] at h4
    | .str _, .bl _, _, _, _, h4 => simp [dEq] at h4
    | .str _, .int _, _, _, _, h4 => simp [dEq] at h4
    | .str _, .tup _, _, _, _, h4 => simp [dEq] at h4
    | .str _, .lst _, _, _, _, h4 => simp [dEq] at h4
    | .tup _, .non, _, _, _, h4 => simp [dEq] at h4
    | .tup _, .bl _, _, _, _, h4 => simp [dEq] at h4
    | .tup _, .int _, _, _, _, h4 => simp [dEq] at h4
    | .tup _, .str _, _, _, _, h4 => simp [dEq] at h4
    | .tup _, .lst _, _, _, _, h4 => simp [dEq] at h4
    | .lst _, .non, _, _, _, h4 => simp [dEq] at h4
    | .lst _, .bl _, _, _, _, h4 => simp [dEq] at h4
    | .lst _, .int _, _, _, _, h4 => simp [dEq] at h4
    | .lst _, .str _, _, _, _, h4 => simp [dEq] at h4
    | .lst _, .tup _, _, _, _, h4 => simp [dEq] at h4
theorem alike_eqL : ∀ (n m : Nat) (a b : List D), pdL n a = true → pdL m b = true → PySem.W.alikeAll (toPL a) (toPL b) = true → dEqL a b = true → a = b
  | n, m, [], [], _, _, _, _ => rfl
  | n, m, [], _ :: _, _, _, _, h4 => by simp [dEqL] at h4
  | n, m, _ :: _, [], _, _, _, h4 => by simp [dEqL] at h4
  | n, m, x :: xs, y :: ys, h1, h2, h3, h4 => by
    simp only [pdL, Bool.and_eq_true] at h1 h2
    simp only [dEqL, Bool.and_eq_true] at h4
    simp only [toPL, PySem.W.alikeAll, Bool.and_eq_true] at h3
    rw [alike_eq n m x y h1.1 h2.1 h3.1 h4.1, alike_eqL n m xs ys h1.2 h2.2 h3.2 h4.2]
end
def leD : D → D → Bool := PySem.W.dataLe false toP
theorem leD_anti {n : Nat} {a b : D} (h1 : pd n a = true) (h2 : pd n b = true) (al : PySem.W.alike (toP a) (toP b) = true) (x : leD a b = true) (y : leD b a = true) : a = b := by
  have x' : (!PySem.W.dataLt (toP b) (toP a)) = true := x
  have y' : (!PySem.W.dataLt (toP a) (toP b)) = true := y
  rw [Bool.not_eq_true'] at x' y'
  have ht : PySem.W.keyToks (toP a) = PySem.W.keyToks (toP b) := (listOrd itemOrd).total _ _ y' x'
  refine alike_eq n n a b h1 h2 al ?_
  rw [← eqv_eq n n a b h1 h2]
  cases he : PyData.eqv (toP a) (toP b) with
  | true => rfl
  | false =>
    exfalso
    have q := (PySem.W.toks_eqv (toP a) (toP b) al).2 he [] [.inl 0]
    rw [ht, PySem.W.lex_pre] at q
    have i := (listOrd itemOrd).irrefl (PySem.W.keyToks (toP b))
    have q2 : PyProof.Rows.lexLt itemOrd [] [.inl 0] = false := q.trans i
    cases q2
def neT : D → Bool
  | .tup (_ :: _) => true
  | _ => false
def neN : D → Bool
  | .non => false
  | .tup _ => false
  | _ => true
def sortOk (ds : List D) : Bool := pdL 59 ds && decide (ds.length ≤ sizeLine) && (decide (ds.length ≤ 1) || ((ds.all neT || ds.all neN) && ds.all fun a => ds.all fun b => PySem.W.alike (toP a) (toP b)))
def fSort : D → O (List D)
  | .lst ds => if sortOk ds then .ok (isortB leD ds) else .bad
  | _ => .bad

/-- sorted(xs): H0 the heap that may be seen -/
def rSortD (K : PySem.W.Frag) : List V → Hp → VK → Prop := fun vs H Q => ∃ (a : Addr) (xs : List V) (ds : List D) (H0 : Hp), vs = [.ref a] ∧ SqL K H a xs ∧ Ex H0 H ∧ RpL K H0 xs ds ∧ sortOk ds = true ∧ ∀ ys p, RpL K H0 ys (isortB leD ds) → H p = none → Q (.ref p) (upd H p (.lst ys))
theorem pdL_get {n : Nat} : ∀ {ds : List D} {d : D}, pdL n ds = true → d ∈ ds → pd n d = true
  | [], _, _, h => by simp at h
  | x :: xs, d, h, m => by
    simp only [pdL, Bool.and_eq_true] at h
    rcases List.mem_cons.mp m with rfl | m
    · exact h.1
    · exact pdL_get h.2 m
theorem each_zip {K : PySem.W.Frag} {H0 H : Hp} {X : Cx} {pins : List (Addr × Obj)} {σ : L2.St} {s : Shared} (hK : X.K = K) (I : Inv X pins σ H s) (e : Ex H0 H) (n : Nat) : ∀ {xs : List V} {ds : List D} {us : List Value}, RpL K H0 xs ds → Vals xs us → pdL n ds = true →
    PySem.W.EachIs (fun u (p : V × D) => RelV p.1 u ∧ Rp K H0 p.1 p.2) us (xs.zip ds) ∧ PySem.W.EachIs (fun u (p : V × D) => ∃ as, Reads s.heap u (toP p.2) as) us (xs.zip ds)
  | _, _, _, .nil, .nil, _ => ⟨.nil, .nil⟩
  | _, _, _, .cons r t, .cons rv tv, h => by
    simp only [pdL, Bool.and_eq_true] at h
    obtain ⟨h1, h2⟩ := each_zip hK I e n t tv h.2
    subst hK
    exact ⟨.cons ⟨rv, r⟩ h1, .cons (Dp.reads I _ _ _ (pd_dp n _ _ h.1 (r.mono e)) rv) h2⟩
theorem each_back {K : PySem.W.Frag} {H0 : Hp} : ∀ {us : List Value} {ps : List (V × D)}, PySem.W.EachIs (fun u (p : V × D) => RelV p.1 u ∧ Rp K H0 p.1 p.2) us ps → Vals (ps.map (·.1)) us ∧ RpL K H0 (ps.map (·.1)) (ps.map (·.2))
  | _, _, .nil => ⟨.nil, .nil⟩
  | _, _, .cons h t => by
    obtain ⟨h1, h2⟩ := each_back t
    exact ⟨.cons h.1 h1, .cons h.2 h2⟩
theorem zip_snd {K : PySem.W.Frag} {H0 : Hp} : ∀ {xs : List V} {ds : List D}, RpL K H0 xs ds → (xs.zip ds).map (·.2) = ds
  | _, _, .nil => rfl
  | _, _, .cons _ t => by simp [zip_snd t]
theorem toPL_map : ∀ ds : List D, toPL ds = ds.map toP
  | [] => rfl
  | x :: xs => by simp [toPL, toPL_map xs]
section
variable {X : Cx}
theorem cr_sortD (hu : X.A.units + 64 < cLine) : CallR X (.builtin "sorted") (rSortD X.K) := by
  intro pins s σ H vs us Q I r h
  obtain ⟨a, xs, ds, H0, rfl, hs, e0, rp, ok, q⟩ := h
  obtain ⟨its, rv, hl, hz⟩ := I.list hs
  obtain ⟨u, rfl, ru⟩ := vals1 r
  obtain rfl : u = Value.ref a := ru
  simp only [sortOk, Bool.and_eq_true, decide_eq_true_eq] at ok
  obtain ⟨⟨hp, hL⟩, hok⟩ := ok
  obtain ⟨ea, eb⟩ := each_zip rfl I e0 59 rp rv hp
  have hlen : (xs.zip ds).length = ds.length := by rw [List.length_zip, rp.length]; simp
  by_cases h1 : ds.length ≤ 1
  · have hl1 : its.length ≤ 1 := by rw [← rv.length, rp.length]; exact h1
    refine SrtO.sorted_ord (ltv := fun _ _ => false) ⟨fun _ _ h => (by simp at h), fun _ _ _ _ _ => rfl⟩ hl.isList (by rw [← rv.length]; exact hz) (fun h2 => by omega) fun out _ st => ?_
    have ho : out = its := by
      have hpm := st.perm
      match its, out, hl1, hpm with
      | [], out, _, hpm => exact List.Perm.eq_nil hpm
      | [x], out, _, hpm => exact List.perm_singleton.mp hpm
      | _ :: _ :: _, _, hl1, _ => simp at hl1
    subst ho
    obtain ⟨n, hn⟩ := sortedAll_at s.heap out out.toArray
    have hi : isortB leD ds = ds := by
      match ds, h1 with
      | [], _ => rfl
      | [x], _ => rfl
      | _ :: _ :: _, h1 => simp at h1
    have hd : s.heap.objs.size ≤ s.heap.objs.size + 1 := Nat.le_succ _
    refine ⟨.ref (s.heap.objs.size + 1), upd H (s.heap.objs.size + 1) (.lst xs), I.laid (t' := s.toks) (fun b o e => sortedAll_old e) hd ⟨hz, out, n, rv, hn⟩, rfl, q _ _ (by rw [hi]; exact rp) (I.hok.fresh hd)⟩
  · have hok2 := (Bool.or_eq_true _ _ ▸ hok).resolve_left (by simpa using h1)
    obtain ⟨hk, hal⟩ := (Bool.and_eq_true _ _ ▸ hok2)
    have mem : ∀ p ∈ (xs.zip ds), p.2 ∈ ds := fun p hm => by
      have : p.2 ∈ (xs.zip ds).map (·.2) := List.mem_map.mpr ⟨p, hm, rfl⟩
      rw [zip_snd rp] at this; exact this
    have al : ∀ a ∈ ds, ∀ b ∈ ds, PySem.W.alike (toP a) (toP b) = true := fun a ha b hb => List.all_eq_true.mp (List.all_eq_true.mp hal a ha) b hb
    refine PySem.W.sorted_data (R := fun u (p : V × D) => RelV p.1 u ∧ Rp X.K H0 p.1 p.2) (enc := fun p : V × D => toP p.2) (bs := xs.zip ds) hl.isList ea eb ?_ ?_ (by rw [hlen]; exact hL) ?_ fun out ho he => ?_
    · intro d hd d' hd'
      obtain ⟨p, hm, rfl⟩ := List.mem_map.mp hd
      obtain ⟨p', hm', rfl⟩ := List.mem_map.mp hd'
      exact al _ (mem p hm) _ (mem p' hm')
    · simp only [Bool.or_eq_true, List.all_eq_true] at hk
      rcases hk with hk | hk
      · left
        intro d hd
        obtain ⟨p, hm, rfl⟩ := List.mem_map.mp hd
        have := hk p.2 (mem p hm)
        match hq : p.2, this with
        | .tup (x :: xs), _ => exact ⟨toP x, toPL xs, by simp only [toP, toPL]⟩
        | .tup [], h => simp [neT] at h
      · right
        intro d hd
        obtain ⟨p, hm, rfl⟩ := List.mem_map.mp hd
        have h1 := hk p.2 (mem p hm)
        have h2 := pdL_get hp (mem p hm)
        cases hq : p.2 <;> rw [hq] at h1 h2 <;> simp [neN, pd] at h1 h2 <;> simp [toP]
    · intro p hm
      have := (pd_lay 59 p.2 (pdL_get hp (mem p hm))).2
      omega
    · obtain ⟨rv', rp'⟩ := each_back he
      obtain ⟨n, hn⟩ := sortedAll_at s.heap its out.toArray
      have hd : s.heap.objs.size ≤ s.heap.objs.size + 1 := Nat.le_succ _
      have hm : ((xs.zip ds).mergeSort (PySem.W.dataLe false fun p : V × D => toP p.2)).map (·.2) = isortB leD ds := by
        rw [List.map_mergeSort (r := PySem.W.dataLe false fun p : V × D => toP p.2) (s := leD) (f := fun p : V × D => p.2) (fun a _ b _ => rfl), zip_snd rp]
        exact merge_isort (le := leD) (PySem.W.sortLe_total (listOrd itemOrd) false fun b => PySem.W.keyToks (toP b)) ds fun a ha b hb => leD_anti (pdL_get hp ha) (pdL_get hp hb) (al a ha b hb)
      rw [hm] at rp'
      refine ⟨.ref (s.heap.objs.size + 1), upd H (s.heap.objs.size + 1) (.lst _), I.laid (t' := s.toks) (fun b o e => sortedAll_old e) hd ⟨?_, out, n, rv', hn⟩, rfl, q _ _ rp' (I.hok.fresh hd)⟩
      rw [rv'.length, ho, hlen]; exact hL
end
section
variable {K : PySem.W.Frag} {W : WX} {X : Cx}
theorem vc_sort : VC1L K W (rSortD K) fSort := by
  intro H Z σ x d Q n h hp
  cases h <;> try exact hp.elim
  rename_i a vs ds ha r
  simp only [fSort] at hp
  split at hp
  · rename_i hok
    exact ⟨a, vs, ds, vis H Z, rfl, SqL.of (of_some_vis ha), vis_ex, r, hok, fun ys p ry hn => hp _ _ (Ex.new hn) ⟨p, ys, rfl, hn, upd_same, ry.mono (vis_mono (Ex.new hn))⟩⟩
  · exact hp.elim
theorem boot_sorted : bootBuiltins "sorted" = some (.builtin "sorted") := by decide +kernel
/-! len, of dicts as well -/
theorem call_lenRd : CallR X (.builtin "len") (fun xs H Q => ∃ a kvs, xs = [V.ref a] ∧ Rd H a (.dK kvs) ∧ Q (.int kvs.length) H) := by
  intro pins s σ H xs us Q I r h
  obtain ⟨a, kvs, rfl, ha, q⟩ := h
  obtain ⟨u, rfl, ru⟩ := vals1 r
  cases ru
  exact d_len I ha fun t s' I' => ⟨.int kvs.length, H, I', ⟨t, rfl⟩, q⟩
def rLenX (K : PySem.W.Frag) : List V → Hp → VK → Prop := fun xs H Q => rLenAll K xs H Q ∨ (∃ a kvs, xs = [V.ref a] ∧ Rd H a (.dK kvs) ∧ Q (.int kvs.length) H)
theorem call_lenX : CallR X (.builtin "len") (rLenX X.K) := call_lenAll.or call_lenRd
def fLenX : D → O D
  | .dic kvs => .ok (.int kvs.length)
  | d => fLen d
theorem vc_lenX : VC1 K W (rLenX K) fLenX := by
  intro H Z σ x d Q n h hp
  cases h with
  | @dic a kvs ds ha hk r =>
    refine .inr ⟨a, kvs, rfl, ex_rd vis_ex ha, ?_⟩
    have : kvs.length = ds.length := by simpa using congrArg List.length hk
    rw [this]
    exact hp _ H (Ex.refl H) (.int _)
  | non => exact .inl (vc_len H Z σ _ _ Q n .non hp)
  | bl b => exact .inl (vc_len H Z σ _ _ Q n (.bl b) hp)
  | int i => exact .inl (vc_len H Z σ _ _ Q n (.int i) hp)
  | str z => exact .inl (vc_len H Z σ _ _ Q n (.str z) hp)
  | tup a r => exact .inl (vc_len H Z σ _ _ Q n (.tup a r) hp)
  | lst a r => exact .inl (vc_len H Z σ _ _ Q n (.lst a r) hp)
  | scr a => exact .inl (vc_len H Z σ _ _ Q n (.scr a) hp)
  | ins a b c => exact .inl (vc_len H Z σ _ _ Q n (.ins a b c) hp)
  | exc a b c => exact .inl (vc_len H Z σ _ _ Q n (.exc a b c) hp)
end
end Rf

namespace PySem
theorem rf_enumerate_new {v : Value} {o : Obj} {H : Heap → Prop} (B : Begins v o H) :
    Meets (Builtin.«enumerate.__new__» ⟨[.type "enumerate", v], []⟩) (fun _ R s => H s.heap ∧
      R (.ok (.ret (.ref (s.heap.push o).objs.size))) { s with heap := (s.heap.push o).push { cls := .type "enumerate", data := .fields #[.none, .bool false, .ref s.heap.objs.size, rawInt 0, .none, .none] } }) :=
  .of_wp fun prog w A R s h => by
    obtain ⟨hp, g, d, tk, os⟩ := s; obtain ⟨h1, h⟩ := h
    have hsub := sub_enumerate
    have q1 : ∀ {A' : Around} {E : Value → Shared → Prop} {Q : Value → Shared → Prop}, Q (.ref hp.objs.size) ⟨hp.push o, g, d, tk, os⟩ → wpAny (model prog w) A' (pyIter v) Q E ⟨hp, g, d, tk, os⟩ :=
      fun q => B.iter prog w _ _ ⟨hp, g, d, tk, os⟩ _ h1 q
    wp_walk using q1
    refine wpAny_stack_any fun st => wpAny_pure ?_
    split
    · rename_i c _ _ _ _ _
      cases (c == Value.type "enumerate")
      · wp_walk using q1
        exact ⟨_, rfl, h⟩
      · wp_walk using q1
        exact ⟨_, rfl, h⟩
    · wp_walk using q1
      exact ⟨_, rfl, h⟩
section
variable {prog : Program} {w : World} {A : Around} {E : Value → Shared → Prop} {s : Shared}
theorem rf_enum {v : Value} {o : Obj} {H : Heap → Prop} {Q : Value → Shared → Prop} (B : Begins v o H) (h1 : H s.heap)
    (h : ∀ h', IsEnum h' (s.heap.objs.size + 1) s.heap.objs.size 0 .none → h'.get? s.heap.objs.size = some o → h'.objs.size = s.heap.objs.size + 2 →
      (∀ b o, s.heap.get? b = some o → h'.get? b = some o) → Q (.ref (s.heap.objs.size + 1)) { s with heap := h' }) :
    wpAny (model prog w) A (call (.type "enumerate") [v]) Q E s := by
  refine callType_new F.called_enumerate (by decide) (F.typeCall_enumerate_1 _) (F.newCall_enumerate_1 _) (fun obj => F.args_object_init_2 obj _) F.entry_enumerate_new
    (rf_enumerate_new B) ⟨h1, ?_⟩
  have hz : (s.heap.push o).objs.size = s.heap.objs.size + 1 := Heap.size_push ..
  show _ ∧ _
  rw [hz]
  have he : IsEnum ((s.heap.push o).push { cls := .type "enumerate", data := .fields #[.none, .bool false, .ref s.heap.objs.size, rawInt 0, .none, .none] }) (s.heap.objs.size + 1) s.heap.objs.size 0 .none := by
    have := Heap.get?_push_size (s.heap.push o) (o := { cls := .type "enumerate", data := .fields #[.none, .bool false, .ref s.heap.objs.size, rawInt 0, .none, .none] }) rfl
    rw [hz] at this; exact this
  refine ⟨⟨_, he, rfl⟩, h _ he (Heap.get?_push_of_some _ (Heap.get?_push_size _ B.free)) (by rw [Heap.size_push, hz]) fun b o x => Heap.get?_push_of_some _ (Heap.get?_push_of_some _ x)⟩
end
end PySem
namespace Rf
open PySem PySem.Spec PyProof.Rows L2
/-! enumerate(tuple) -/
def IteT (K : PySem.W.Frag) (a : Addr) : It :=
  ⟨fun i H => ∃ (xs : List V) (x : V), SqT K H a xs ∧ xs[i]? = some x, fun i H v H' => ∃ T x, v = .ref T ∧ H T = none ∧ H' = upd H T (.tup [.int (i : Nat), x]) ∧ ∀ xs, SqT K H a xs → xs[i]? = some x, fun i H => ∃ xs : List V, SqT K H a xs ∧ xs.length ≤ i⟩
theorem turn_enumT {P : Program} {w : World} {K : PySem.W.Frag} {elts : List Expr} {kk : Nat} {tpos : Pos} (a e it : Addr) (hae : a ≠ e) (hai : a ≠ it) (hei : e ≠ it) :
    Turn P w K (.Tuple elts kk tpos) (IteT K a) [e, it] e (fun i h => (∃ old, IsEnum h e it ((i : Nat) : Int) old) ∧ h.IsTupleIter it a i) where
  mem := by simp
  obj := fun i h st b hb => by
    obtain ⟨⟨old, he⟩, ⟨o, ho, hc, hd⟩⟩ := st
    have e' : b = e ∨ b = it := by simpa using hb
    rcases e' with z | z
    · rw [z]; exact ⟨_, he, fun v q => nomatch q⟩
    · rw [z]; exact ⟨o, ho, fun v q => by rw [hd] at q; cases q⟩
  keep := fun i h h' st k => let ⟨⟨old, he⟩, hi⟩ := st; ⟨⟨old, k e (by simp) _ he⟩, hi.at fun o q => k it (by simp) o q⟩
  item := by
    intro X hP hw hK hc i pins s σ H E I hf st hg
    subst hP hw hK
    obtain ⟨⟨old, he⟩, hit⟩ := st
    obtain ⟨xs, x, hq, hx⟩ := hg
    obtain ⟨its, rv, p, hz⟩ := I.tuple hq
    obtain ⟨u, hu, ru⟩ := rv.get hx
    have hel : e < s.heap.objs.size := Heap.lt_size he
    have hil : it < s.heap.objs.size := by obtain ⟨_, q, _⟩ := hit; exact Heap.lt_size q
    have hui : i < its.toArray.size := by
      obtain ⟨h1, _⟩ := List.getElem?_eq_some_iff.mp hu
      simpa using h1
    refine wpAny_pyNext_enum_itemD (Draws.tuple (prog := X.prog) (w := X.w) (A := X.A.in1) (show X.A.in1.handled = none from I.ok.hd hc) it a hai its.toArray) he ⟨hit, p⟩ hui hei (by simp [hei, Ne.symm hae]) fun v h' tk hv ho hst' hT hsz hk => ?_
    have hvu : v = u := by
      have : its[i]? = some v := by simpa using hv
      rw [hu] at this; cases this; rfl
    subst hvu
    refine ⟨_, rfl, wpAny_letOwnedTupleGo_enum (s := { s with heap := h', toks := tk + 1 }) ho fun h'' he' sb => ?_⟩
    have hT2 : h''.get? s.heap.objs.size = some { cls := .type "tuple", data := .seq #[.int i tk, v] } := (sb.2 _ (Nat.ne_of_gt hel)).trans hT
    have new : ObjOk X.prog X.w (upd H s.heap.objs.size (.tup [.int (i : Nat), x])) h'' s.heap.objs.size (.tup [.int (i : Nat), x]) :=
      ⟨by show 2 ≤ sizeLine; decide, [.int i tk, v], .cons ⟨_, rfl⟩ (.cons ru .nil), ⟨_, hT2, rfl, _, rfl⟩⟩
    have I1 : Inv X pins σ (upd H s.heap.objs.size (.tup [.int (i : Nat), x])) { s with heap := h'', toks := tk + 1 } :=
      I.turnedNew (ch := [e, it]) (fun b ob hb q => (sb.2 b (fun z => hb (by simp [z]))).trans (hk b ob (fun z => hb (by simp [z])) (fun z => hb (by simp [z])) q)) hf (Nat.le_refl _) new
    refine ⟨.ref s.heap.objs.size, _, I1, rfl, ⟨_, x, rfl, I.hok.fresh (Nat.le_refl _), rfl, fun ys hy => by rw [I.tuple_inj hy hq]; exact hx⟩, ⟨⟨v, ?_⟩, hst'.1.at fun o q => (sb.2 it (Ne.symm hei)).trans q⟩, fun b hb => ?_⟩
    · have e1 : ((i + 1 : Nat) : Int) = (i : Int) + 1 := by omega
      rw [e1]; exact he'
    · have hb' : b < s.heap.objs.size := by
        have e' : b = e ∨ b = it := by simpa using hb
        rcases e' with z | z
        · rw [z]; exact hel
        · rw [z]; exact hil
      rw [upd_ne (Nat.ne_of_lt hb')]
      exact (hf b hb).1
  done := by
    intro X hP hw hK hc i pins s σ H E I hf st hg
    subst hP hw hK
    obtain ⟨⟨old, he⟩, hit⟩ := st
    obtain ⟨xs, hq, hx⟩ := hg
    obtain ⟨its, rv, p, hz⟩ := I.tuple hq
    obtain ⟨f0, f1, f2, f3, f4, f5⟩ := hf it (by simp)
    have hl := rv.length
    have hT : s.TypeIs (.ref e) "enumerate" := ⟨_, he, rfl⟩
    unfold pyNext
    refine wpAny_bind (wpAny_attempt (wpAny_callSpecial?_slot (name := Str.ofString "__next__") hT F.slot_enumerate_next
      (wpAny_call_entry F.slot_enumerate_next hT F.entry_enumerate_next ?_ (F.args_enumerate_next_1 _))))
    show wpAny _ _ (field (.ref e) 2 >>= _) _ _ _
    refine wpAny_bind (wpAny_field he rfl (x := .ref it) rfl ?_)
    refine wpAny_bind (wpAny_nextOf_tuple_end (I.ok.hd hc) hit p (by simp; omega) fun h' x he' hx' => ?_)
    obtain ⟨o, ho, hc⟩ := hx'
    refine wpAny_bind (wpAny_isInstance (T := "StopIteration") (b := true) ⟨o, ho, hc⟩ isSubtype_stop ?_)
    exact wpAny_pure ⟨rfl, I.turned (t' := s.toks) (fun b o hb q => he' b o hb q) f0 f1 f3 f4 f5⟩
  self := fun A i s Q E st h => let ⟨⟨_, he⟩, _⟩ := st; wpAny_pyIter_enum he h
def iEnumT (K : PySem.W.Frag) (ta : TA) : TI := fun σ H R => ta σ H fun vs H1 => ∃ a xs, vs = [.ref a] ∧ SqT K H1 a xs ∧ R (IteT K a) H1
theorem pi_enumT {X : Cx} {e : Expr} {ta : TA} {p pos tpos : Pos} {elts : List Expr} {kk : Nat} (hg : Gl X "enumerate") (hm : X.mg "enumerate" = none) (ha : PA X [e] ta) (hs : starEach [e] X.env = [(false, eval e X.env)] := by rfl) :
    PI X (.Tuple elts kk tpos) (.Call (.Name "enumerate" p) [e] [] pos) (iEnumT X.K ta) := by
  refine ⟨fun pins s σ H R I h => ?_⟩
  refine Call_ (ld_blt I hg hm boot_enumerate (PyProof.Rows.callWith_type1 (thn (ha.run pos pins s σ H _ I h) fun us s1 ⟨vs, H1, I1, r1, q1⟩ => ?_) hs rfl))
  obtain ⟨a, xs, ex, hq, q⟩ := q1
  subst ex
  cases r1 with
  | cons r rr =>
    cases rr
    cases r
    obtain ⟨its, rv, p', hz⟩ := I1.tuple hq
    have hlt : a < s1.heap.objs.size := by
      obtain ⟨_, q, _⟩ := p'
      exact Heap.lt_size q
    refine rf_enum (begins_tuple a its.toArray) p' fun h' he hit hsz hk => wpAny_pyIter_enum he ?_
    have I2 : Inv X pins σ H1 { s1 with heap := h' } := I1.kept (t' := s1.toks) hk
    refine ⟨s1.heap.objs.size + 1, [s1.heap.objs.size + 1, s1.heap.objs.size], _, _, H1, rfl, I2, turn_enumT a (s1.heap.objs.size + 1) s1.heap.objs.size (Nat.ne_of_lt (Nat.lt_succ_of_lt hlt)) (Nat.ne_of_lt hlt) (Nat.succ_ne_self _), ⟨⟨.none, he⟩, ⟨_, hit, rfl, rfl⟩⟩, fun b hb => ?_, q⟩
    have e' : b = s1.heap.objs.size + 1 ∨ b = s1.heap.objs.size := by simpa using hb
    have hle : s1.heap.objs.size ≤ b := by
      rcases e' with z | z
      · rw [z]; exact Nat.le_add_right _ _
      · rw [z]; exact Nat.le_refl _
    exact I1.fpOk hle (I1.hok.fresh hle)

section
variable {K : PySem.W.Frag}
theorem walk_enumT {a : Addr} {xs : List V} : Walk (IteT K a) xs.length (fun H => SqT K H a xs) (YPair (fun i => some (.int (i : Nat))) (fun i => xs[i]?)) := by
  refine ⟨fun i _ hi q => ⟨xs, xs[i], q, by simp [hi]⟩, fun _ q => ⟨xs, q, Nat.le_refl _⟩, fun i H v H' _ q y => ?_⟩
  obtain ⟨T, x, h1, h2, h3, h4⟩ := y
  exact ⟨T, .int (i : Nat), x, h1, h2, h3, rfl, h4 xs q⟩
theorem walk_zipT {a b : Addr} {xs ys : List V} {n : Nat} (hn : n = min xs.length ys.length) : Walk (RZ.ItzT K a b) n (fun H => SqT K H a xs ∧ SqT K H b ys) (YPair (fun i => xs[i]?) (fun i => ys[i]?)) := by
  subst hn
  refine ⟨fun i _ hi q => ?_, fun _ q => ⟨xs, ys, q.1, q.2, by omega⟩, fun i H v H' _ q y => ?_⟩
  · have h1 : i < xs.length := by omega
    have h2 : i < ys.length := by omega
    exact ⟨xs, ys, xs[i], ys[i], q.1, q.2, by simp [h1], by simp [h2]⟩
  · obtain ⟨T, x, z, h1, h2, h3, h4, h5⟩ := y
    exact ⟨T, x, z, h1, h2, h3, h4 xs q.1, h5 ys q.2⟩
/-- pairs that are new at each turn -/
def zipD : List D → List D → List D
  | x :: xs, y :: ys => .tup [x, y] :: zipD xs ys
  | _, _ => []
theorem zipD_len : ∀ xs ys : List D, (zipD xs ys).length = min xs.length ys.length
  | [], _ => by simp [zipD]
  | _ :: _, [] => by simp [zipD]
  | _ :: xs, _ :: ys => by simp [zipD, zipD_len xs ys]
theorem zipD_get : ∀ {xs ys : List D} {i : Nat} {x y : D}, xs[i]? = some x → ys[i]? = some y → (zipD xs ys)[i]? = some (.tup [x, y])
  | [], _, _, _, _, h, _ => by simp at h
  | _ :: _, [], _, _, _, _, h => by simp at h
  | a :: xs, b :: ys, 0, x, y, h1, h2 => by simp at h1 h2; subst h1 h2; rfl
  | a :: xs, b :: ys, i + 1, x, y, h1, h2 => by simpa [zipD] using zipD_get (i := i) (by simpa using h1) (by simpa using h2)
theorem pair_step {H H' : Hp} {Z : AS} {T : Addr} {x y : V} {d e : D} (hT : H T = none) (hH : H' = upd H T (.tup [x, y])) (n : Nt H Z) (r1 : Rp K (vis H Z) x d) (r2 : Rp K (vis H Z) y e) : Ex H H' ∧ Rp K (vis H' Z) (.ref T) (.tup [d, e]) := by
  subst hH
  have ex : Ex H (upd H T (.tup [x, y])) := Ex.new hT
  refine ⟨ex, .tup (SqT.of (vis_in upd_same fun z => (n T z).1 hT)) (.cons (r1.mono (vis_mono ex)) (.cons (r2.mono (vis_mono ex)) .nil))⟩
def enumD (ds : List D) : List D := zipD (rangeD 0 ds.length) ds
theorem rangeD_get {n i : Nat} (h : i < n) : (rangeD 0 n)[i]? = some (.int (i : Nat)) := by
  simp [rangeD, List.getElem?_map, List.getElem?_range h]
theorem enumD_len (ds : List D) : (enumD ds).length = ds.length := by
  unfold enumD
  rw [zipD_len]
  simp [rangeD]
theorem it_enumL {Hv : Hp} {a : Addr} {vs : List V} {ds : List D} (h : SqL K Hv a vs) (r : RpL K Hv vs ds) : ItOk K (Ite K a) Hv (enumD ds) := by
  have w := walk_enum (K := K) (a := a) (xs := vs)
  rw [r.length, ← enumD_len ds] at w
  refine ⟨_, _, w, fun H e => ex_l e h, fun i H x H' Z n e y => ?_⟩
  obtain ⟨T, x1, y1, rfl, hT, hH, h1, h2⟩ := y
  cases h1
  obtain ⟨d, h3, h4⟩ := r.get' h2
  obtain ⟨k1, k2⟩ := pair_step hT hH n (.int (i : Nat)) (h4.mono e)
  have hi : i < ds.length := (List.getElem?_eq_some_iff.mp h3).1
  exact ⟨k1, _, zipD_get (rangeD_get hi) h3, k2⟩
theorem it_enumT {Hv : Hp} {a : Addr} {vs : List V} {ds : List D} (h : SqT K Hv a vs) (r : RpL K Hv vs ds) : ItOk K (IteT K a) Hv (enumD ds) := by
  have w := walk_enumT (K := K) (a := a) (xs := vs)
  rw [r.length, ← enumD_len ds] at w
  refine ⟨_, _, w, fun H e => ex_t e h, fun i H x H' Z n e y => ?_⟩
  obtain ⟨T, x1, y1, rfl, hT, hH, h1, h2⟩ := y
  cases h1
  obtain ⟨d, h3, h4⟩ := r.get' h2
  obtain ⟨k1, k2⟩ := pair_step hT hH n (.int (i : Nat)) (h4.mono e)
  have hi : i < ds.length := (List.getElem?_eq_some_iff.mp h3).1
  exact ⟨k1, _, zipD_get (rangeD_get hi) h3, k2⟩
theorem it_zipT {Hv : Hp} {a b : Addr} {vs ws : List V} {ds es : List D} (h : SqT K Hv a vs) (r : RpL K Hv vs ds) (h' : SqT K Hv b ws) (r' : RpL K Hv ws es) : ItOk K (RZ.ItzT K a b) Hv (zipD ds es) := by
  have w := walk_zipT (K := K) (a := a) (b := b) (xs := vs) (ys := ws) rfl
  rw [r.length, r'.length, ← zipD_len ds es] at w
  refine ⟨_, _, w, fun H e => ⟨ex_t e h, ex_t e h'⟩, fun i H x H' Z n e y => ?_⟩
  obtain ⟨T, x1, y1, rfl, hT, hH, h1, h2⟩ := y
  obtain ⟨d, h3, h4⟩ := r.get' h1
  obtain ⟨d2, h5, h6⟩ := r'.get' h2
  obtain ⟨k1, k2⟩ := pair_step hT hH n (h4.mono e) (h6.mono e)
  exact ⟨k1, _, zipD_get h3 h5, k2⟩
theorem it_zipL {Hv : Hp} {a b : Addr} {vs ws : List V} {ds es : List D} (h : SqL K Hv a vs) (r : RpL K Hv vs ds) (h' : SqL K Hv b ws) (r' : RpL K Hv ws es) : ItOk K (Itz K a b) Hv (zipD ds es) := by
  have w := walk_zip (K := K) (a := a) (b := b) (xs := vs) (ys := ws) rfl
  rw [r.length, r'.length, ← zipD_len ds es] at w
  refine ⟨_, _, w, fun H e => ⟨ex_l e h, ex_l e h'⟩, fun i H x H' Z n e y => ?_⟩
  obtain ⟨T, x1, y1, rfl, hT, hH, h1, h2⟩ := y
  obtain ⟨d, h3, h4⟩ := r.get' h1
  obtain ⟨d2, h5, h6⟩ := r'.get' h2
  obtain ⟨k1, k2⟩ := pair_step hT hH n (h4.mono e) (h6.mono e)
  exact ⟨k1, _, zipD_get h3 h5, k2⟩
end
section
variable {X : Cx} {M : List Nat} {W : WX} {b : Bool} {e e2 : Expr} {F F2 : Env → O D} {p pos tpos : Pos} {elts : List Expr} {kk : Nat}
def itEnL : O D → O (List D)
  | .ok (.lst ds) => .ok (enumD ds)
  | .ok _ => .bad
  | .exc c d => .exc c d
  | .bad => .bad
def itEnT : O D → O (List D)
  | .ok (.tup ds) => .ok (enumD ds)
  | .ok _ => .bad
  | .exc c d => .exc c d
  | .bad => .bad
theorem si_enumL (hg : Gl X "enumerate") (hm : X.mg "enumerate" = none) (h : SP X M W b e F) (hs : noStar [e] = true := by rfl) : SI X M W b (.Tuple elts kk tpos) (.Call (.Name "enumerate" p) [e] [] pos) (fun env => itEnL (F env)) := by
  obtain ⟨t, pp, q⟩ := h
  obtain ⟨n1, _⟩ := noStar_head hs X.env
  refine ⟨_, pi_enum hg hm (pa_cons pp pa_nil n1) n1, fun σ H env U S r Q hp => q σ H env U S r _ ?_⟩
  dsimp only at hp
  cases hF : F env with
  | ok d =>
    rw [hF] at hp
    intro v H' ex rp
    cases rp <;> try exact hp.elim
    rename_i a vs ds ha rr
    exact ⟨a, vs, rfl, SqL.of (of_some_vis ha), hp _ H' ex (it_enumL (SqL.of ha) rr)⟩
  | exc c d => rw [hF] at hp; exact hp
  | bad => rw [hF] at hp; exact hp.elim
theorem si_enumT (hg : Gl X "enumerate") (hm : X.mg "enumerate" = none) (h : SP X M W b e F) (hs : noStar [e] = true := by rfl) : SI X M W b (.Tuple elts kk tpos) (.Call (.Name "enumerate" p) [e] [] pos) (fun env => itEnT (F env)) := by
  obtain ⟨t, pp, q⟩ := h
  obtain ⟨n1, _⟩ := noStar_head hs X.env
  refine ⟨_, pi_enumT hg hm (pa_cons pp pa_nil n1) n1, fun σ H env U S r Q hp => q σ H env U S r _ ?_⟩
  dsimp only at hp
  cases hF : F env with
  | ok d =>
    rw [hF] at hp
    intro v H' ex rp
    cases rp <;> try exact hp.elim
    rename_i a vs ds ha rr
    exact ⟨a, vs, rfl, SqT.up ha, hp _ H' ex (it_enumT ha rr)⟩
  | exc c d => rw [hF] at hp; exact hp
  | bad => rw [hF] at hp; exact hp.elim
def itZip : D → D → O (List D)
  | .tup xs, .tup ys => .ok (zipD xs ys)
  | .lst xs, .lst ys => .ok (zipD xs ys)
  | _, _ => .bad
theorem si_zip (hg : Gl X "zip") (hm : X.mg "zip" = none) (h : SP X M W b e F) (h' : SP X M W b e2 F2) (hs : noStar [e, e2] = true := by rfl) : SI X M W b (.Tuple elts kk tpos) (.Call (.Name "zip" p) [e, e2] [] pos) (nd (g2 itZip) [F, F2]) := by
  obtain ⟨ts, ps, qs⟩ := sps_run (SPs.cons h (SPs.cons h' SPs.nil))
  obtain ⟨n1, n2⟩ := noStar_head hs X.env
  obtain ⟨n3, n4⟩ := noStar_head n2 X.env
  cases ps with | cons p1 ps => cases ps with | cons p2 ps => cases ps with | nil =>
  refine ⟨_, RZ.pi_zipA hg hm (pa_cons p1 (pa_cons p2 pa_nil n3) n1) n1 (by rw [n3]; rfl), fun σ H env U S r Q hp => ?_⟩
  have hp' : Po X.K W (zb b U S) H σ (itZ X.K (zb b U S)) Q ((seqF [F, F2] env).bind (g2 itZip)) := hp
  have := qs σ H env U S r (fun vs H1 => ∃ a b xs ys, vs = [.ref a, .ref b] ∧ ((SqL X.K H1 a xs ∧ SqL X.K H1 b ys ∧ Q (Itz X.K a b) H1) ∨ (SqT X.K H1 a xs ∧ SqT X.K H1 b ys ∧ Q (RZ.ItzT X.K a b) H1))) (Po.step hp' fun ds vs H1 hF e1 r1 h1 => by
    cases r1 with
    | nil => exact h1.elim
    | cons q1 r1 => cases r1 with
      | nil => exact h1.elim
      | cons q2 r1 => cases r1 with
        | cons _ _ => exact h1.elim
        | nil =>
          cases q1 <;> try exact h1.elim
          · rename_i a vs ds ha rr
            cases q2 <;> try exact h1.elim
            rename_i a2 vs2 ds2 ha2 rr2
            exact ⟨a, a2, vs, vs2, rfl, .inr ⟨SqT.up ha, SqT.up ha2, h1 _ H1 (Ex.refl H1) (it_zipT ha rr ha2 rr2)⟩⟩
          · rename_i a vs ds ha rr
            cases q2 <;> try exact h1.elim
            rename_i a2 vs2 ds2 ha2 rr2
            exact ⟨a, a2, vs, vs2, rfl, .inl ⟨SqL.of (of_some_vis ha), SqL.of (of_some_vis ha2), h1 _ H1 (Ex.refl H1) (it_zipL (SqL.of ha) rr (SqL.of ha2) rr2)⟩⟩)
  exact this
end
end Rf

namespace Rf
open PySem PySem.Spec PyProof.Rows L2

/-! two for's in a comprehension -/
def cI (K : PySem.W.Frag) (M : List Nat) (W : WX) (b : Bool) (I : Env → O (List D)) : TI := fun σ H Q => ∃ env U S, Rel K M U S H σ env ∧ Po K W (zb b U S) H σ (itZ K (zb b U S)) Q (I env)
theorem SI.pi {X : Cx} {M : List Nat} {W : WX} {b : Bool} {tg iter : Expr} {I : Env → O (List D)} (h : SI X M W b tg iter I) : PI X tg iter (cI X.K M W b I) := by
  obtain ⟨t, p, q⟩ := h
  refine ⟨fun pins s σ H Q I hw => p.run pins s σ H Q I ?_⟩
  obtain ⟨env, U, S, r, hp⟩ := hw
  exact q σ H env U S r Q hp
def compF2 (vs1 : List Nat) (g : D → Env → Option Env) (T : Env → O Bool) (I1 : Env → O (List D)) (g1 : D → Env → Option Env) (T1 : Env → O Bool) (E : Env → O D) (env : Env) : List D → O (List D)
  | [] => .ok []
  | d :: ds => match g d env with
    | none => .bad
    | some e1 => (noX (T e1)).bind fun k => match k with
      | true => (noX (I1 e1)).bind fun ds1 => (compF vs1 g1 T1 E (wipeE e1 vs1) ds1).bind fun ys => (compF2 vs1 g T I1 g1 T1 E env ds).bind fun zs => .ok (ys ++ zs)
      | false => compF2 vs1 g T I1 g1 T1 E env ds
def capL : O (List D) → O (List D)
  | .ok ds => if ds.length ≤ sizeLine then .ok ds else .bad
  | _ => .bad
def eComp2 (vs vs1 : List Nat) (I : Env → O (List D)) (g : D → Env → Option Env) (T : Env → O Bool) (I1 : Env → O (List D)) (g1 : D → Env → Option Env) (T1 : Env → O Bool) (E : Env → O D) : Env → O (List D) := fun env => (I env).bind fun ds => capL (compF2 vs1 g T I1 g1 T1 E (wipeE env vs) ds)
theorem wipe_twice (vs : List Nat) (σ : L2.St) : wipe (wipe σ vs) vs = wipe σ vs := by
  apply List.ext_getElem?
  intro j
  by_cases hj : j ∈ vs
  · have h1 : ∀ τ : L2.St, τ.length = σ.length → (wipe τ vs)[j]? = if j < σ.length then some none else none := by
      intro τ hτ
      have hlen : (wipe τ vs).length = σ.length := by rw [wipe_length]; exact hτ
      by_cases hjl : j < σ.length
      · rw [if_pos hjl]
        cases hz : (wipe τ vs)[j]? with
        | none => rw [List.getElem?_eq_none_iff] at hz; omega
        | some o =>
          cases o with
          | none => rfl
          | some v => exact absurd hj (wipe_some hz).2
      · rw [if_neg hjl]
        exact List.getElem?_eq_none (by omega)
    rw [h1 _ (wipe_length σ vs), h1 σ rfl]
  · rw [wipe_out hj]
theorem noX_bind {α β : Type} {x : O α} {f : α → O β} {y : β} (h : (noX x).bind f = .ok y) : ∃ a, x = .ok a ∧ f a = .ok y := by
  cases x with
  | ok a => exact ⟨a, rfl, h⟩
  | exc _ _ => cases h
  | bad => cases h
theorem bind_ok {α β : Type} {x : O α} {f : α → O β} {y : β} (h : x.bind f = .ok y) : ∃ a, x = .ok a ∧ f a = .ok y := by
  cases x with
  | ok a => exact ⟨a, rfl, h⟩
  | exc _ _ => cases h
  | bad => cases h
structure Lc2 (X : Cx) (M : List Nat) (W : WX) (own : List (Str × Nat)) (vs1 : List Nat) (tg iter tg1 iter1 elt : Expr) (ifs ifs1 : List Expr) (scope : Scope) (I : Env → O (List D)) (g : D → Env → Option Env) (T : Tst) (I1 : Env → O (List D)) (g1 : D → Env → Option Env) (T1 : Tst) (E : Env → O D) : Prop where
  it : SI X M W true tg iter I
  ok : BlkOk X.N X.env.scope scope own
  hv : vs1.all (fun i => (own.map (·.2)).contains i) = true
  tg : ∀ (s : Shared) (H : Hp) (C : Addr) (cl : List (Str × Addr)) (fp : List Addr), SG (Bk X scope s H C cl fp) M (own.map (·.2)) tg g
  ts : ∀ (s : Shared) (H : Hp) (C : Addr) (cl : List (Str × Addr)) (fp : List Addr), STs (Bk X scope s H C cl fp) M W0 true ifs T
  it1 : ∀ (s : Shared) (H : Hp) (C : Addr) (cl : List (Str × Addr)) (fp : List Addr), SI (Bk X scope s H C cl fp) M W0 true tg1 iter1 I1
  tg1 : ∀ (s : Shared) (H : Hp) (C : Addr) (cl : List (Str × Addr)) (fp : List Addr), SG (Bk X scope s H C cl fp) M vs1 tg1 g1
  ts1 : ∀ (s : Shared) (H : Hp) (C : Addr) (cl : List (Str × Addr)) (fp : List Addr), STs (Bk X scope s H C cl fp) M W0 true ifs1 T1
  el : ∀ (s : Shared) (H : Hp) (C : Addr) (cl : List (Str × Addr)) (fp : List Addr), SP (Bk X scope s H C cl fp) M W0 true elt E
section
variable {X : Cx} {M : List Nat} {W : WX} {own : List (Str × Nat)} {vs1 : List Nat} {tg iter tg1 iter1 elt : Expr} {ifs ifs1 : List Expr} {scope : Scope} {I I1 : Env → O (List D)} {g g1 : D → Env → Option Env} {T T1 : Tst} {E : Env → O D}
theorem tTst_run {K : PySem.W.Frag} {T : Tst} {b : Bool} {σ : L2.St} {H : Hp} {env : Env} {U : AS} {S : Nat → AS} (r : Rel K M U S H σ env) {Q : Bool → Hp → Prop} (hp : Po K W0 (zb b U S) H σ eqZ Q (T.f env)) : tTst K M W0 b T σ H Q := by
  cases T with
  | no => exact hp true H (Ex.refl H) rfl
  | one F => exact ⟨env, U, S, r, hp⟩
theorem spl_comp2 {k : Nat} {pos : Pos} (G : Gd X W k) (h : Lc2 X M W own vs1 tg iter tg1 iter1 elt ifs ifs1 scope I g T I1 g1 T1 E) (hs : ∀ x, foldedSetIterable iter X.env x = pure x := by intro _; rfl) (hs1 : ∀ env x, foldedSetIterable iter1 env x = pure x := by intro _ _; rfl) :
    SPL X M W true (.ListComp elt [⟨tg, iter, ifs, 0⟩, ⟨tg1, iter1, ifs1, 0⟩] scope pos) (eComp2 (own.map (·.2)) vs1 I g T.f I1 g1 T1.f E) := by
  obtain ⟨wi, pi, qi⟩ := h.it
  have hv : ∀ i ∈ vs1, i ∈ own.map (·.2) := fun i hi => by simpa using List.all_eq_true.mp h.hv i hi
  refine ⟨_, pe_lc2 (vs1 := vs1) (g := cG X.K M (own.map (·.2)) g) (tt := tTst X.K M W0 true T) (wi1 := cI X.K M W0 true I1) (g1 := cG X.K M vs1 g1) (tt1 := tTst X.K M W0 true T1) (te := cP X.K M W0 true E) G.calm G.nd pi h.ok hv (fun s H C cl fp => (h.tg s H C cl fp).pg) (fun s H C cl fp => (h.ts s H C cl fp).pts) (fun s H C cl fp => (h.it1 s H C cl fp).pi) (fun s H C cl fp => (h.tg1 s H C cl fp).pg) (fun s H C cl fp => (h.ts1 s H C cl fp).pts) (fun s H C cl fp => (h.el s H C cl fp).pe) hs hs1, fun σ H env U S r Q hp => ?_⟩
  generalize own.map (·.2) = vs at *
  rw [zb_true] at hp
  have hp' : Po X.K W (zo U S) H σ (nlZ X.K (zo U S) H) Q ((I env).bind fun ds => capL (compF2 vs1 g T.f I1 g1 T1.f E (wipeE env vs) ds)) := hp
  have hp'' : Po X.K W (zb true U S) H σ (nlZ X.K (zo U S) H) Q ((I env).bind fun ds => capL (compF2 vs1 g T.f I1 g1 T1.f E (wipeE env vs) ds)) := by rw [zb_true]; exact hp'
  refine qi σ H env U S r _ (Po.step hp'' fun ds J Ha hI ea it h1 => ?_)
  rw [zb_true] at it h1
  intro L hL
  obtain ⟨yss, hys, hcap⟩ : ∃ ys, compF2 vs1 g T.f I1 g1 T1.f E (wipeE env vs) ds = .ok ys ∧ ys.length ≤ sizeLine := by
    cases hq : compF2 vs1 g T.f I1 g1 T1.f E (wipeE env vs) ds with
    | ok ys =>
      rw [hq] at h1
      simp only [capL] at h1
      by_cases hc : ys.length ≤ sizeLine
      · exact ⟨ys, rfl, hc⟩
      · rw [if_neg hc] at h1; exact h1.elim
    | bad => rw [hq] at h1; exact h1.elim
    | exc c d => rw [hq] at h1; exact h1.elim
  rw [hys] at h1
  simp only [capL, hcap, if_true] at h1
  obtain ⟨Gi, Y, wk, hG, hY⟩ := it
  let TL : AS := fun a => a = L
  have hLH : H L = none := fresh_back ea hL
  have hun : zo (un U TL) S = un (zo U S) TL := by
    funext a
    apply propext
    constructor
    · rintro ((z | z) | z)
      · exact .inl (.inl z)
      · exact .inr z
      · exact .inl (.inr z)
    · rintro ((z | z) | z)
      · exact .inl (.inl z)
      · exact .inr z
      · exact .inl (.inr z)
  -- what holds of the list at any time
  let Inv0 : Hp → List D → Prop := fun H' ys => (∀ a o, Ha a = some o → H' a = some o) ∧ ∃ acc, H' L = some (.lst acc) ∧ RpL X.K (vis H' (un (zo U S) TL)) acc ys
  have relOf : ∀ {H' : Hp} {ys : List D}, Inv0 H' ys → Rel X.K M (un U TL) S H' σ env := fun {H' ys} hI => by
    obtain ⟨ex, acc, hl, _⟩ := hI
    exact (r.mono ea).hide ex (fun a e => by cases e; exact hL) fun a e => by
      cases e
      exact ⟨by rw [hl]; simp, fun xs z => by rcases z with z | ⟨o, z⟩ <;> rw [hl] at z <;> cases z⟩
  have up : ∀ {H' H'' : Hp} {ys : List D}, Inv0 H' ys → Ex H' H'' → Inv0 H'' ys := fun {H' H'' ys} hI e => by
    obtain ⟨ex, acc, hl, ra⟩ := hI
    exact ⟨fun a o q => e a o (ex a o q), acc, e _ _ hl, ra.mono (vis_mono e)⟩
  let Pv : Nat → Hp → Prop := fun i H' => ∃ ys zs, Inv0 H' ys ∧ compF2 vs1 g T.f I1 g1 T1.f E (wipeE env vs) (ds.drop i) = .ok zs ∧ ys ++ zs = yss
  refine ⟨fun i m H' => m = ds.length - i ∧ i ≤ ds.length ∧ Pv i H', ⟨ds.length, by simp, Nat.zero_le _, [], yss, ⟨Ex.new hL, [], upd_same, .nil⟩, by simpa using hys, rfl⟩, ?_⟩
  rintro i m H' ⟨rfl, hi, ys, zs, hI0, hc, heq⟩
  have hGi : Gi H' := hG H' fun a o q => hI0.1 a o (of_vis q).1
  rcases Nat.lt_or_ge i ds.length with hlt | hge
  · right
    refine ⟨wk.goes i H' hlt hGi, fun H'' => Pv (i + 1) H'', fun H'' q => ⟨ds.length - (i + 1), by omega, rfl, by omega, q⟩, fun x H1 y0 => ?_⟩
    have y := wk.yields i H' x H1 hlt hGi y0
    have rel1 := (relOf hI0).wipe vs
    have hvv : Ex (vis Ha (zo U S)) (vis H' (zo (un U TL) S)) := fun a o q => by
      obtain ⟨h3, h4⟩ := of_vis q
      refine vis_in (hI0.1 a o h3) fun z => ?_
      rw [hun] at z
      rcases z with z | z
      · exact h4 z
      · cases z; rw [hL] at h3; cases h3
    obtain ⟨ey, d, hd, rx⟩ := hY i H' x H1 _ rel1.nt hvv y
    have rel2 := rel1.mono ey
    have hdrop : ds.drop i = d :: ds.drop (i + 1) := by
      obtain ⟨hlt, he⟩ := List.getElem?_eq_some_iff.mp hd
      rw [List.drop_eq_getElem_cons hlt, he]
    rw [hdrop] at hc
    unfold compF2 at hc
    cases hgd : g d (wipeE env vs) with
    | none => rw [hgd] at hc; cases hc
    | some e2 =>
      rw [hgd] at hc
      simp only at hc
      refine ⟨wipeE env vs, un U TL, S, d, e2, rel2, rx, hgd, fun σ2 rel3 hw _ => ⟨?_, ?_⟩⟩
      · rw [hw]; exact wipe_twice vs σ
      obtain ⟨k1, hT, hc⟩ := noX_bind hc
      refine tTst_run rel3 ?_
      rw [hT]
      rintro k2 H3 e3 rfl
      have hI3 := up hI0 (ey.trans e3)
      cases k2 with
      | false => exact ⟨ys, zs, hI3, hc, heq⟩
      | true =>
        simp only [if_true] at hc ⊢
        obtain ⟨ds1, hI1, hc⟩ := noX_bind hc
        obtain ⟨ys1, hy1, hc⟩ := bind_ok hc
        obtain ⟨zr, hzr, hc⟩ := bind_ok hc
        have hz : ys1 ++ zr = zs := by simpa using hc
        have rel4 := rel3.mono e3
        refine ⟨e2, un U TL, S, rel4, ?_⟩
        rw [hI1]
        intro J1 H4 e4 it1
        rw [zb_true] at it1
        obtain ⟨G1, Y1, wk1, hG1, hY1⟩ := it1
        have hI4 := up hI3 e4
        -- as in the block behind the inner iterator
        have keep4 : ∀ {H5 : Hp} {yz : List D}, (∀ a o, H4 a = some o → a ≠ L → H5 a = some o) → Inv0 H5 yz → Rel X.K M (un U TL) S H5 (wipe σ2 vs1) (wipeE e2 vs1) := fun {H5 yz} k5 hI5 => by
          have r4 := rel4.mono e4
          obtain ⟨ex5, acc5, hl5, _⟩ := hI5
          have nl : ∀ j, ¬ S j L := fun j z => (r.nt L (.inr ⟨j, z⟩)).1 hLH
          have tp : ∀ a xs, Rd H4 a (.tup xs) → Rd H5 a (.tup xs) := fun a xs q => by
            obtain ⟨_, acc4, hl4, _⟩ := hI4
            have ne : a ≠ L := fun e => by subst e; rcases q with q | ⟨o, q⟩ <;> rw [hl4] at q <;> cases q
            rcases q with q | ⟨o, q⟩
            · exact .inl (k5 a _ q ne)
            · exact .inr ⟨o, k5 a _ q ne⟩
          have r5 : Rel X.K M (un U TL) S H5 σ2 e2 := by
            refine ⟨fun j d hj he => ?_, fun j d hj he => ?_, r4.dis, r4.out, fun a z => ?_, r4.len⟩
            · obtain ⟨v, q1, q2⟩ := r4.own j d hj he
              refine ⟨v, q1, q2.carry tp (fun a xs q => ?_) fun a o sa q => k5 a o q fun e => nl j (by rw [← e]; exact sa)⟩
              rcases tp a xs (.inl q) with q' | ⟨o, q'⟩
              · exact q'
              · obtain ⟨_, acc4, hl4, _⟩ := hI4
                have ne : a ≠ L := fun e => by subst e; rw [hl4] at q; cases q
                exact k5 a _ q ne
            · obtain ⟨v, q1, q2⟩ := r4.frz j d hj he
              refine ⟨v, q1, q2.mono fun a o q => ?_⟩
              obtain ⟨w1, w2⟩ := of_vis q
              exact vis_in (k5 a o w1 fun e => w2 (.inl (.inr e))) w2
            · by_cases e : a = L
              · subst e
                exact ⟨by rw [hl5]; simp, fun xs z => by rcases z with z | ⟨o, z⟩ <;> rw [hl5] at z <;> cases z⟩
              · obtain ⟨q1, q2⟩ := r4.nt a z
                cases hh : H4 a with
                | none => exact absurd hh q1
                | some o =>
                  have q3 := k5 a o hh e
                  refine ⟨by rw [q3]; simp, fun xs z => q2 xs ?_⟩
                  rcases z with z | ⟨ob, z⟩
                  · rw [q3] at z; cases z; exact .inl hh
                  · rw [q3] at z; cases z; exact .inr ⟨ob, hh⟩
          exact r5.wipe vs1
        refine ⟨fun j k H5 => k = ds1.length - j ∧ j ≤ ds1.length ∧ (∀ a o, H4 a = some o → a ≠ L → H5 a = some o) ∧ ∃ yz zz, Inv0 H5 yz ∧ compF vs1 g1 T1.f E (wipeE e2 vs1) (ds1.drop j) = .ok zz ∧ yz ++ (zz ++ zr) = yss,
          ⟨ds1.length, by simp, Nat.zero_le _, fun a o q _ => q, ys, ys1, hI4, by simpa using hy1, by rw [hz]; exact heq⟩, ?_⟩
        rintro j k H5 ⟨rfl, hj, k5, yz, zz, hI5, hc5, heq5⟩
        have hvv1 : Ex (vis H4 (zo (un U TL) S)) (vis H5 (zo (un U TL) S)) := fun a o q => by
          obtain ⟨h3, h4⟩ := of_vis q
          exact vis_in (k5 a o h3 fun e => h4 (.inl (.inr e))) h4
        have hG5 : G1 H5 := hG1 H5 fun a o q => (of_vis (hvv1 a o q)).1
        rcases Nat.lt_or_ge j ds1.length with hlt1 | hge1
        · right
          refine ⟨wk1.goes j H5 hlt1 hG5, fun H6 => (∀ a o, H4 a = some o → a ≠ L → H6 a = some o) ∧ ∃ yz zz, Inv0 H6 yz ∧ compF vs1 g1 T1.f E (wipeE e2 vs1) (ds1.drop (j + 1)) = .ok zz ∧ yz ++ (zz ++ zr) = yss, fun H6 q => ⟨ds1.length - (j + 1), by omega, rfl, by omega, q⟩, fun x1 H6 y1 => ?_⟩
          have y1' := wk1.yields j H5 x1 H6 hlt1 hG5 y1
          have rel5 := keep4 k5 hI5
          obtain ⟨ey1, d1, hd1, rx1⟩ := hY1 j H5 x1 H6 _ rel5.nt hvv1 y1'
          have rel6 := rel5.mono ey1
          have hdrop1 : ds1.drop j = d1 :: ds1.drop (j + 1) := by
            obtain ⟨hlt, he⟩ := List.getElem?_eq_some_iff.mp hd1
            rw [List.drop_eq_getElem_cons hlt, he]
          rw [hdrop1] at hc5
          unfold compF at hc5
          cases hgd1 : g1 d1 (wipeE e2 vs1) with
          | none => rw [hgd1] at hc5; cases hc5
          | some e5 =>
            rw [hgd1] at hc5
            simp only at hc5
            refine ⟨wipeE e2 vs1, un U TL, S, d1, e5, rel6, rx1, hgd1, fun σ3 rel7 hw3 _ => ⟨?_, ?_⟩⟩
            · rw [hw3]; exact wipe_twice vs1 σ2
            obtain ⟨k3, hT1, hc5⟩ := noX_bind hc5
            refine tTst_run rel7 ?_
            rw [hT1]
            rintro k4 H7 e7 rfl
            have hI7 := up hI5 (ey1.trans e7)
            have k7 : ∀ a o, H4 a = some o → a ≠ L → H7 a = some o := fun a o q n => e7 a o (ey1 a o (k5 a o q n))
            cases k4 with
            | false => exact ⟨k7, yz, zz, hI7, hc5, heq5⟩
            | true =>
              simp only [if_true] at hc5 ⊢
              obtain ⟨y2, hE, hc5⟩ := noX_bind hc5
              obtain ⟨zt, hzt, hc5⟩ := bind_ok hc5
              have hz5 : y2 :: zt = zz := by simpa using hc5
              refine ⟨e5, un U TL, S, rel7.mono e7, ?_⟩
              rw [hE]
              intro v2 H8 e8 rv2
              rw [rpZ, zb_true, hun] at rv2
              obtain ⟨ex8, acc, hl8, ra8⟩ := up hI7 e8
              have hlen : acc.length < sizeLine := by
                have q1 := ra8.length
                have q2 : yss.length = yz.length + (zz.length + zr.length) := by rw [← heq5]; simp
                have q3 : zz.length = zt.length + 1 := by rw [← hz5]; simp
                omega
              refine ⟨acc, hl8, hlen, fun a o q n => ?_, yz ++ [y2], zt, ⟨fun a o q => ?_, acc ++ [v2], upd_same, ?_⟩, hzt, by rw [← heq5, ← hz5]; simp⟩
              · rw [upd_ne n]; exact e8 a o (k7 a o q n)
              · have ne : a ≠ L := fun e => by subst e; rw [hL] at q; cases q
                rw [upd_ne ne]; exact ex8 a o q
              · have hsame : Ex (vis H8 (un (zo U S) TL)) (vis (upd H8 L (.lst (acc ++ [v2]))) (un (zo U S) TL)) := fun a o q => by
                  obtain ⟨w1, w2⟩ := of_vis q
                  exact vis_in (by rw [upd_ne fun e => w2 (.inr e)]; exact w1) w2
                exact RpL.append (ra8.mono hsame) (.cons (rv2.mono hsame) .nil)
        · left
          have hjj : j = ds1.length := by omega
          subst hjj
          refine ⟨wk1.stops H5 hG5, ?_⟩
          rw [List.drop_length] at hc5
          have hz0 : zz = [] := by simpa [compF] using hc5.symm
          subst hz0
          exact ⟨yz, zr, hI5, hzr, by simpa using heq5⟩
  · left
    have hii : i = ds.length := by omega
    subst hii
    refine ⟨wk.stops H' hGi, ?_⟩
    rw [List.drop_length] at hc
    have hz0 : zs = [] := by simpa [compF2] using hc.symm
    subst hz0
    rw [List.append_nil] at heq
    subst heq
    obtain ⟨ex, acc, hl, ra⟩ := hI0
    exact h1 _ H' ex ⟨L, acc, rfl, hLH, hl, ra.mono (vis_sub fun a z => .inl z)⟩
end
end Rf

namespace Rf
open PySem PySem.Spec PyProof.Rows L2

/-! several values, each kept or owned -/
inductive OwnL (K : PySem.W.Frag) (Z : AS) (H : Hp) : List Bool → List V → List D → AS → Prop
  | nil {T : AS} : (∀ a, ¬ T a) → OwnL K Z H [] [] [] T
  | own {os : List Bool} {v : V} {vs : List V} {d : D} {ds : List D} {T T1 T2 : AS} : Ow K H v d T1 → OwnL K Z H os vs ds T2 → (∀ a, T1 a → T2 a → False) → (∀ a, T a ↔ T1 a ∨ T2 a) → OwnL K Z H (true :: os) (v :: vs) (d :: ds) T
  | kep {os : List Bool} {v : V} {vs : List V} {d : D} {ds : List D} {T : AS} : Rp K (vis H Z) v d → OwnL K Z H os vs ds T → OwnL K Z H (false :: os) (v :: vs) (d :: ds) T
theorem OwnL.less {K : PySem.W.Frag} {Z Z' : AS} {H : Hp} (h : ∀ a, Z' a → Z a) : ∀ {os : List Bool} {vs : List V} {ds : List D} {T : AS}, OwnL K Z H os vs ds T → OwnL K Z' H os vs ds T
  | _, _, _, _, .nil e => .nil e
  | _, _, _, _, .own o t d e => .own o (OwnL.less h t) d e
  | _, _, _, _, .kep r t => .kep (r.mono (vis_sub h)) (OwnL.less h t)
theorem OwnL.ext {K : PySem.W.Frag} {Z : AS} {H : Hp} {os : List Bool} {vs : List V} {ds : List D} {T T' : AS} (h : OwnL K Z H os vs ds T) (e : ∀ a, T' a ↔ T a) : OwnL K Z H os vs ds T' := by
  have : T' = T := funext fun a => propext (e a)
  rw [this]; exact h
def PoV (K : PySem.W.Frag) (M : List Nat) (W : WX) (os : List Bool) (U : AS) (S : Nat → AS) (H : Hp) (σ : L2.St) (Q : List V → Hp → Prop) : R (List D) → Prop
  | .ok ds env' => ∀ vs H' S' T, Post K M U S H σ S' H' env' → Rel K M (un U T) S' H' σ env' → OwnL K (zo (un U T) S') H' os vs ds T → (∀ a, T a → ¬ U a) → (∀ a, T a → (∃ j, S j a) ∨ H a = none) → Q vs H'
  | .exc c d env' => ∀ dx v H' S', Post K M U S H σ S' H' env' → H' dx = some (.xd [("value", v)]) → ¬ zo U S' dx → Rp K (vis H' (zo U S')) v d → W (.ref (He.ga K c)) (some dx) σ H'
  | .bad => False
inductive SVs (X : Cx) (M : List Nat) (W : WX) : List Bool → List Expr → List (Env → R D) → Prop
  | nil : SVs X M W [] [] []
  | own {os : List Bool} {e : Expr} {es : List Expr} {F : Env → R D} {Fs : List (Env → R D)} : SO X M W e F → SVs X M W os es Fs → SVs X M W (true :: os) (e :: es) (F :: Fs)
  | kep {os : List Bool} {e : Expr} {es : List Expr} {F : Env → R D} {Fs : List (Env → R D)} : SE X M W e F → SVs X M W os es Fs → SVs X M W (false :: os) (e :: es) (F :: Fs)
section
variable {K : PySem.W.Frag} {M : List Nat} {W : WX} {U T : AS} {S S1 S2 : Nat → AS} {H H1 H2 : Hp} {σ : L2.St} {env e1 e2 : Env}
/-- less is hidden -/
theorem Rel.less {U' : AS} (r : Rel K M U S H σ env) (h : ∀ a, U' a → U a) : Rel K M U' S H σ env where
  own := r.own
  frz := fun i d hi he => by
    obtain ⟨v, h1, h2⟩ := r.frz i d hi he
    exact ⟨v, h1, h2.mono (vis_sub fun a z => z.elim (fun q => .inl (h a q)) .inr)⟩
  dis := r.dis
  out := fun i a hs u => r.out i a hs (h a u)
  nt := fun a z => r.nt a (z.elim (fun q => .inl (h a q)) .inr)
  len := r.len
theorem Post.less (a : Post K M U S H σ S1 H1 e1) (b : Post K M (un U T) S1 H1 σ S2 H2 e2) : Post K M U S H σ S2 H2 e2 :=
  a.trans ⟨b.rel.less fun _ z => .inl z, b.keep, b.grow⟩
theorem Post.back (a : Post K M U S H σ S1 H1 e1) {x : Addr} (q : (∃ j, S1 j x) ∨ H1 x = none) : (∃ j, S j x) ∨ H x = none := by
  rcases q with ⟨j, q⟩ | q
  · exact a.grow j x q
  · cases h : H x with
    | none => exact .inr rfl
    | some o =>
      left
      refine Classical.byContradiction fun n => ?_
      rw [a.keep x o h fun j w => n ⟨j, w⟩] at q
      cases q
theorem Post.ow {v : V} {d : D} (rl : Rel K M (un U T) S1 H1 σ e1) (b : Post K M (un U T) S1 H1 σ S2 H2 e2) (o : Ow K H1 v d T) : Ow K H2 v d T := by
  have tq : ∀ a xs, H1 a = some (.tup xs) → H2 a = some (.tup xs) := fun a xs h => b.keep a _ h fun j z => (rl.nt a (.inr ⟨j, z⟩)).2 xs (.inl h)
  refine o.carry (fun a xs h => ?_) tq fun a ob ta h => b.keep a ob h fun j z => rl.out j a z (.inr ta)
  have nz : ∀ j, ¬ S1 j a := fun j z => (rl.nt a (.inr ⟨j, z⟩)).2 xs h
  rcases h with h | ⟨ob, h⟩
  · exact .inl (b.keep a _ h nz)
  · exact .inr ⟨ob, b.keep a _ h nz⟩
end
section
variable {X : Cx} {M : List Nat} {W : WX}
theorem svs_run {os : List Bool} {es : List Expr} {Fs : List (Env → R D)} (h : SVs X M W os es Fs) : ∃ ts, PEs X es ts ∧ ∀ σ H env U S, Rel X.K M U S H σ env → ∀ (k : List V → Hp → Prop),
    PoV X.K M W os U S H σ k (seqR Fs env) → sq ts σ H k := by
  induction h with
  | nil => exact ⟨[], .nil, fun σ H env U S r k h => h [] H S (fun _ => False) (r.post (Ex.refl H)) (r.out_eq fun a => by simp [un]) (.nil fun _ h => h) (fun _ h => h.elim) fun _ h => h.elim⟩
  | @own os e es F Fs h1 _ ih =>
    obtain ⟨t, p, q⟩ := h1
    obtain ⟨ts, ps, qs⟩ := ih
    refine ⟨t :: ts, .cons p ps, fun σ H env U S r k h => q σ H env U S r _ ?_⟩
    unfold seqR at h
    cases hF : F env with
    | bad => rw [hF] at h; exact h
    | exc c d e' => rw [hF] at h; exact h
    | ok d env1 =>
      rw [hF] at h
      simp only [R.bind] at h
      intro v H1 S1 T1 po rl ow nu gr
      refine qs σ H1 env1 (un U T1) S1 rl _ ?_
      cases hs : seqR Fs env1 with
      | bad => rw [hs] at h; exact h
      | exc c d e' =>
        rw [hs] at h
        exact fun dx w H2 S2 po2 x z rp => h dx w H2 S2 (po.less po2) x (fun z' => z (z'.elim (fun q => .inl (.inl q)) .inr)) (rp.mono (vis_sub fun a z' => z'.elim (fun q => .inl (.inl q)) .inr))
      | ok ds env2 =>
        rw [hs] at h
        intro vs H2 S2 T2 po2 rl2 ol nu2 gr2
        have eqZ : ∀ a, zo (un U fun a => T1 a ∨ T2 a) S2 a → zo (un (un U T1) T2) S2 a := fun a z => by
          rcases z with (z | z | z) | z
          · exact .inl (.inl (.inl z))
          · exact .inl (.inl (.inr z))
          · exact .inl (.inr z)
          · exact .inr z
        refine h (v :: vs) H2 S2 (fun a => T1 a ∨ T2 a) (po.less po2) (rl2.less fun a z => ?_) (.own (Post.ow rl po2 ow) (ol.less eqZ) (fun a z1 z2 => nu2 a z2 (.inr z1)) fun a => Iff.rfl) (fun a z u => ?_) fun a z => ?_
        · rcases z with z | z | z
          · exact .inl (.inl z)
          · exact .inl (.inr z)
          · exact .inr z
        · rcases z with z | z
          · exact nu a z u
          · exact nu2 a z (.inl u)
        · rcases z with z | z
          · exact gr a z
          · exact po.back (gr2 a z)
  | @kep os e es F Fs h1 _ ih =>
    obtain ⟨t, p, q⟩ := h1
    obtain ⟨ts, ps, qs⟩ := ih
    refine ⟨t :: ts, .cons p ps, fun σ H env U S r k h => q σ H env U S r _ ?_⟩
    unfold seqR at h
    cases hF : F env with
    | bad => rw [hF] at h; exact h
    | exc c d e' => rw [hF] at h; exact h
    | ok d env1 =>
      rw [hF] at h
      simp only [R.bind] at h
      intro v H1 S1 po rp
      refine qs σ H1 env1 U S1 po.rel _ ?_
      cases hs : seqR Fs env1 with
      | bad => rw [hs] at h; exact h
      | exc c d e' =>
        rw [hs] at h
        exact fun dx w H2 S2 po2 x z rp => h dx w H2 S2 (po.trans po2) x z rp
      | ok ds env2 =>
        rw [hs] at h
        intro vs H2 S2 T2 po2 rl2 ol nu2 gr2
        refine h (v :: vs) H2 S2 T2 (po.trans po2) rl2 (.kep (rp.mono fun a o q => ?_) ol) nu2 fun a z => po.back (gr2 a z)
        obtain ⟨w1, w2⟩ := of_vis q
        obtain ⟨w3, w4⟩ := of_vis (po2.vis a o q)
        refine vis_in w3 fun z => ?_
        rcases z with (z | z) | z
        · exact w4 (.inl z)
        · rcases gr2 a z with ⟨j, w⟩ | w
          · exact w2 (.inr ⟨j, w⟩)
          · rw [w] at w1; cases w1
        · exact w4 (.inr z)
end
def setS : L2.St → List Nat → List V → L2.St
  | σ, i :: is, v :: vs => setS (σ.set i (some v)) is vs
  | σ, _, _ => σ
def setE : Env → List Nat → List D → Env
  | e, i :: is, d :: ds => setE (e.set i (some d)) is ds
  | e, _, _ => e
section
variable {K : PySem.W.Frag} {M : List Nat} {U T : AS} {S : Nat → AS} {H : Hp} {σ : L2.St} {env : Env}
theorem sets_ok {Z : AS} {os : List Bool} {vs : List V} {ds : List D} (ol : OwnL K Z H os vs ds T) : ∀ {is : List Nat} {U : AS} {S : Nat → AS} {σ : L2.St} {env : Env}, is.map (fun i => M.contains i) = os → Rel K M (un U T) S H σ env → (∀ a, zo (un U T) S a → Z a) → (∀ a, T a → ¬ U a) →
    ∃ S', Rel K M U S' H (setS σ is vs) (setE env is ds) ∧ ∀ j a, S' j a → (∃ k, S k a) ∨ T a := by
  induction ol with
  | nil e =>
    intro is U S σ env hi r hz nu
    cases is with
    | cons _ _ => simp at hi
    | nil => exact ⟨S, r.less fun a z => .inl z, fun j a z => .inl ⟨j, z⟩⟩
  | @own os v vs d ds T T1 T2 o t dj eT ih =>
    intro is U S σ env hi r hz nu
    cases is with
    | nil => simp at hi
    | cons i is =>
      simp only [List.map_cons, List.cons.injEq] at hi
      have hM : i ∈ M := by simpa using hi.1
      have r1 : Rel K M (un (un U T2) T1) S H σ env := r.out_eq fun a => by
        constructor
        · rintro ((z | z) | z)
          · exact .inl z
          · exact .inr ((eT a).mpr (.inr z))
          · exact .inr ((eT a).mpr (.inl z))
        · rintro (z | z)
          · exact .inl (.inl z)
          · rcases (eT a).mp z with z | z
            · exact .inr z
            · exact .inl (.inr z)
      have r2 := r1.setO hM o (fun a ta u => u.elim (nu a ((eT a).mpr (.inl ta))) fun z => dj a ta z)
      have hz2 : ∀ a, zo (un U T2) (fun j => if j = i then T1 else S j) a → Z a := fun a z => by
        rcases z with (z | z) | ⟨k, z⟩
        · exact hz a (.inl (.inl z))
        · exact hz a (.inl (.inr ((eT a).mpr (.inr z))))
        · by_cases hk : k = i
          · simp only [hk, if_true] at z; exact hz a (.inl (.inr ((eT a).mpr (.inl z))))
          · simp only [hk, if_false] at z; exact hz a (.inr ⟨k, z⟩)
      obtain ⟨S', r3, g3⟩ := ih hi.2 r2 hz2 (fun a ta => nu a ((eT a).mpr (.inr ta)))
      refine ⟨S', r3, fun j a z => ?_⟩
      rcases g3 j a z with ⟨k, w⟩ | w
      · by_cases hk : k = i
        · simp only [hk, if_true] at w; exact .inr ((eT a).mpr (.inl w))
        · simp only [hk, if_false] at w; exact .inl ⟨k, w⟩
      · exact .inr ((eT a).mpr (.inr w))
  | @kep os v vs d ds T rp t ih =>
    intro is U S σ env hi r hz nu
    cases is with
    | nil => simp at hi
    | cons i is =>
      simp only [List.map_cons, List.cons.injEq] at hi
      have hM : i ∉ M := by simpa using hi.1
      have r2 := r.set hM (rp.mono (vis_sub hz))
      exact ih hi.2 r2 hz nu
theorem setS_out {is : List Nat} : ∀ {vs : List V} {σ : L2.St} {j : Nat}, j ∉ is → (setS σ is vs)[j]? = σ[j]? := by
  induction is with
  | nil => intro vs σ j _; cases vs <;> rfl
  | cons i is ih =>
    intro vs σ j hj
    simp only [List.mem_cons, not_or] at hj
    cases vs with
    | nil => rfl
    | cons v vs =>
      unfold setS
      rw [ih hj.2]
      exact List.getElem?_set_ne fun (e : i = j) => hj.1 e.symm
end
section
variable {X : Cx} {G : Pl} {W : WX} {os : List Bool} {es : List Expr} {Fs : List (Env → R D)} {is : List Nat}
def sPar (is : List Nat) (Fs : List (Env → R D)) : Env → Fl := fun env => match seqR Fs env with
  | .ok ds e => .nx (setE e is ds)
  | .exc c d e => .exc c d e
  | .bad => .bad
/-- the values come, then the names are set -/
theorem par_run (h : SVs X G.M W os es Fs) (hM : is.map (fun i => G.M.contains i) = os) (hP : is.all (fun i => !G.Pm.contains i) = true) : ∃ ts, PEs X es ts ∧ ∀ σ H env U S, Rel X.K G.M U S H σ env → ∀ E : Ends, PoS X.K G W U S H σ E (sPar is Fs env) →
    ∀ k : List V → Hp → Prop, (∀ vs H', vs.length = is.length → (∀ H'', Ex H' H'' → E.nx (setS σ is vs) H'') → k vs H') → sq ts σ H k := by
  obtain ⟨ts, ps, qs⟩ := svs_run h
  have hP' : ∀ i, i ∈ G.Pm → i ∉ is := fun i hi hm => by
    have := List.all_eq_true.mp hP i hm
    simp at this
    exact this hi
  refine ⟨ts, ps, fun σ H env U S r E h k hk => qs σ H env U S r _ ?_⟩
  unfold sPar at h
  cases hs : seqR Fs env with
  | bad => rw [hs] at h; exact h
  | exc c d e => rw [hs] at h; exact fun dx v H' S' po x z rp => h dx v σ H' S' (.of po) x z rp
  | ok ds e =>
    rw [hs] at h
    intro vs H' S' T po rl ol nu gr
    refine hk vs H' ?_ fun H'' ex => ?_
    · have hl : ∀ {os : List Bool} {vs : List V} {ds : List D} {T : AS} {Z : AS}, OwnL X.K Z H' os vs ds T → vs.length = os.length := by
        intro os vs ds T Z h
        induction h with
        | nil _ => rfl
        | own _ _ _ _ ih => simp [ih]
        | kep _ _ ih => simp [ih]
      rw [hl ol, ← hM]; simp
    · obtain ⟨S2, r2, g2⟩ := sets_ok (U := U) ol hM rl (fun a z => z) nu
      refine h _ H'' S2 ⟨r2.mono ex, fun a o q n => ex a o (po.keep a o q n), fun j a z => ?_, fun j hj => setS_out (hP' j hj)⟩
      rcases g2 j a z with ⟨k, w⟩ | w
      · exact po.grow k a w
      · exact gr a w
theorem sq1 {t : TE} {σ : L2.St} {H : Hp} {k : List V → Hp → Prop} : sq [t] σ H k = t σ H fun v H1 => k [v] H1 := rfl
theorem s_par2 {k i j : Nat} {x y : Str} {a b : Expr} {Fa Fb : Env → R D} {px py pt pos : Pos} {kt k2 pt2} (gd : Gd X W k) (hi : X.N[i]? = some x) (hj : X.N[j]? = some y) (hx : X.env.scope.names.lookup x = some .local) (hy : X.env.scope.names.lookup y = some .local)
    (h : SVs X G.M W os [a, b] [Fa, Fb]) (hM : [i, j].map (fun i => G.M.contains i) = os := by rfl) (hP : [i, j].all (fun i => !G.Pm.contains i) = true := by rfl) (hij : i ≠ j := by decide) (hns : noStar [a, b] = true := by rfl)
    (hw : swappedStores [.Tuple [.Name x px, .Name y py] kt pt] (.Tuple [a, b] k2 pt2) X.env = pure (some [x, y]) := by rfl) (hs : swapsWithSole [.Tuple [.Name x px, .Name y py] kt pt] (.Tuple [a, b] k2 pt2) pos.line X.env = pure false := by rfl) :
    SS X G W (.Assign [.Tuple [.Name x px, .Name y py] kt pt] (.Tuple [a, b] k2 pt2) pos) (sPar [i, j] [Fa, Fb]) := by
  obtain ⟨ts, ps, qs⟩ := par_run h hM hP
  obtain ⟨t, pa, q⟩ := pa_of ps hns
  refine ⟨_, ps_par gd.calm gd.nd hi hj hij hx hy pa hw hs, fun σ H env U S r E h => q σ H _ ?_⟩
  refine qs σ H env U S r E h _ fun vs H' hl hq => ?_
  match vs, hl with
  | [v, w], _ => exact ⟨v, w, rfl, hq H' (Ex.refl H')⟩
theorem s_par3 {k i j l : Nat} {x y z : Str} {a b c : Expr} {Fa Fb Fc : Env → R D} {px py pz pt pos : Pos} {kt k2 pt2} (gd : Gd X W k) (hi : X.N[i]? = some x) (hj : X.N[j]? = some y) (hl : X.N[l]? = some z) (hx : X.env.scope.names.lookup x = some .local) (hy : X.env.scope.names.lookup y = some .local) (hz : X.env.scope.names.lookup z = some .local)
    (h : SVs X G.M W os [a, b, c] [Fa, Fb, Fc]) (hM : [i, j, l].map (fun i => G.M.contains i) = os := by rfl) (hP : [i, j, l].all (fun i => !G.Pm.contains i) = true := by rfl) (hij : i ≠ j := by decide) (hil : i ≠ l := by decide) (hjl : j ≠ l := by decide) (hns : noStar [a, b, c] = true := by rfl)
    (hw : swappedStores [.Tuple [.Name x px, .Name y py, .Name z pz] kt pt] (.Tuple [a, b, c] k2 pt2) X.env = pure (some [x, y, z]) := by rfl) (hs : swapsWithSole [.Tuple [.Name x px, .Name y py, .Name z pz] kt pt] (.Tuple [a, b, c] k2 pt2) pos.line X.env = pure false := by rfl) :
    SS X G W (.Assign [.Tuple [.Name x px, .Name y py, .Name z pz] kt pt] (.Tuple [a, b, c] k2 pt2) pos) (sPar [i, j, l] [Fa, Fb, Fc]) := by
  obtain ⟨ts, ps, qs⟩ := par_run h hM hP
  obtain ⟨t, pa, q⟩ := pa_of ps hns
  refine ⟨_, ps_par3 gd.calm gd.nd hi hj hl hij hil hjl hx hy hz pa hw hs, fun σ H env U S r E h => q σ H _ ?_⟩
  refine qs σ H env U S r E h _ fun vs H' hl hq => ?_
  match vs, hl with
  | [v1, v2, v3], _ => exact ⟨v1, v2, v3, rfl, hq H' (Ex.refl H')⟩
end
end Rf

namespace Rf
open PySem PySem.Spec PyProof.Rows L2

/-! names set one behind the other -/
def gNs : List Nat → TGs
  | [] => gNil
  | i :: is => gCons (gName i) (gNs is)
theorem gNs_run : ∀ {is : List Nat} {vs : List V} {σ : L2.St} {H : Hp} {Q : L2.St → Hp → Prop}, vs.length = is.length → Q (setS σ is vs) H → gNs is vs σ H Q
  | [], [], _, _, _, _, h => ⟨rfl, h⟩
  | i :: is, v :: vs, σ, H, Q, hl, h => ⟨v, vs, rfl, gNs_run (is := is) (by simpa using hl) h⟩
  | [], _ :: _, _, _, _, hl, _ => by simp at hl
  | _ :: _, [], _, _, _, hl, _ => by simp at hl
section
variable {X : Cx} {G : Pl} {W : WX} {os : List Bool} {es tgs : List Expr} {Fs : List (Env → R D)} {F : Env → R D} {is : List Nat} {e : Expr} {pos pt pt2 : Pos} {kt k2 : Nat}
theorem s_parC {k n : Nat} (gd : Gd X W k) (hg : PGs X tgs (gNs is)) (h : SVs X G.M W os es Fs) (hn : (assignEach tgs X.env).length = n) (hin : is.length = n) (hst : (assignEach tgs X.env).findIdx? (·.1) = none := by rfl) (hM : is.map (fun i => G.M.contains i) = os := by rfl) (hP : is.all (fun i => !G.Pm.contains i) = true := by rfl) (hns : noStar es = true := by rfl) (hsz : is.length ≤ sizeLine := by decide)
    (hs : swapsWithSole [.Tuple tgs kt pt] (.Tuple es k2 pt2) pos.line X.env = pure false := by rfl) (hw : swappedStores [.Tuple tgs kt pt] (.Tuple es k2 pt2) X.env = pure none := by rfl) (h1 : (assignEach [.Tuple tgs kt pt] X.env).map (·.2) = [assign (.Tuple tgs kt pt) X.env] := by rfl) :
    SS X G W (.Assign [.Tuple tgs kt pt] (.Tuple es k2 pt2) pos) (sPar is Fs) := by
  obtain ⟨ts, ps, qs⟩ := par_run h hM hP
  obtain ⟨t, pa, q⟩ := pa_of ps hns
  refine ⟨_, ps_asg (pe_tup pa) (pg_tup gd.calm hg hn hst) hs hw h1, fun σ H env U S r E h => q σ H _ ?_⟩
  refine qs σ H env U S r E h _ fun vs H' hl hq => ⟨by rw [hl]; exact hsz, fun p hp => ⟨p, vs, rfl, SqT.of upd_same, by rw [hl]; exact hin, gNs_run hl (hq _ (Ex.new hp))⟩⟩
/-- a, b, .. = a list that is kept -/
def sUnp (is : List Nat) (F : Env → R D) : Env → Fl := fun env => match F env with
  | .ok (.lst ds) e => if ds.length = is.length then .nx (setE e is ds) else .bad
  | .ok _ _ => .bad
  | .exc c d e => .exc c d e
  | .bad => .bad
theorem kepL {K : PySem.W.Frag} {Z : AS} {H : Hp} : ∀ {vs : List V} {ds : List D}, RpL K (vis H Z) vs ds → OwnL K Z H (ds.map fun _ => false) vs ds (fun _ => False)
  | _, _, .nil => .nil fun _ h => h
  | _, _, .cons r t => .kep r (kepL t)
theorem unp_post {K : PySem.W.Frag} {U : AS} {S S' : Nat → AS} {H H' : Hp} {σ : L2.St} {env' : Env} {vs : List V} {ds : List D} (po : Post K G.M U S H σ S' H' env') (rp : RpL K (vis H' (zo U S')) vs ds) (hl : ds.length = is.length) (hM : is.all (fun i => !G.M.contains i) = true) (hP : is.all (fun i => !G.Pm.contains i) = true) :
    ∃ S2, PostS K G U S H σ S2 H' (setS σ is vs) (setE env' is ds) := by
  have hP' : ∀ i, i ∈ G.Pm → i ∉ is := fun i hi hm => by
    have := List.all_eq_true.mp hP i hm
    simp at this
    exact this hi
  have hM2 : is.map (fun i => G.M.contains i) = ds.map fun _ => false := by
    have : is.map (fun i => G.M.contains i) = is.map fun _ => false := List.map_congr_left fun i hi => by
      have := List.all_eq_true.mp hM i hi
      simpa using this
    rw [this, List.map_const', List.map_const', hl]
  obtain ⟨S2, r2, g2⟩ := sets_ok (M := G.M) (U := U) (T := fun _ => False) (S := S') (σ := σ) (env := env') (kepL rp) hM2 (po.rel.out_eq fun a => by simp [un]) (fun a z => z.elim (fun z => z.elim .inl fun z => z.elim) .inr) fun _ h => h.elim
  refine ⟨S2, r2, po.keep, fun j a z => ?_, fun j hj => setS_out (hP' j hj)⟩
  rcases g2 j a z with ⟨k, w⟩ | w
  · exact po.grow k a w
  · exact w.elim
theorem s_unp {k n : Nat} (gd : Gd X W k) (hg : PGs X tgs (gNs is)) (h : SE X G.M W e F) (hn : (assignEach tgs X.env).length = n) (hin : is.length = n) (hst : (assignEach tgs X.env).findIdx? (·.1) = none := by rfl) (hM : is.all (fun i => !G.M.contains i) = true := by rfl) (hP : is.all (fun i => !G.Pm.contains i) = true := by rfl)
    (hs : swapsWithSole [.Tuple tgs kt pt] e pos.line X.env = pure false := by rfl) (hw : swappedStores [.Tuple tgs kt pt] e X.env = pure none := by rfl) (h1 : (assignEach [.Tuple tgs kt pt] X.env).map (·.2) = [assign (.Tuple tgs kt pt) X.env] := by rfl) :
    SS X G W (.Assign [.Tuple tgs kt pt] e pos) (sUnp is F) := by
  obtain ⟨t, p, q⟩ := h
  refine ⟨_, ps_asg p (pg_unl gd.calm hg hn hst) hs hw h1, fun σ H env U S r E h => q σ H env U S r _ ?_⟩
  unfold sUnp at h
  cases hF : F env with
  | bad => rw [hF] at h; exact h
  | exc c d e => rw [hF] at h; exact fun dx v H' S' po x z rp => h dx v σ H' S' (.of po) x z rp
  | ok d e1 =>
    rw [hF] at h
    intro v H' S' po rp
    cases rp with
    | @lst a vs ds ha rr =>
      simp only at h
      by_cases hl : ds.length = is.length
      · rw [if_pos hl] at h
        obtain ⟨S2, ps⟩ := unp_post po rr hl hM hP
        have hl2 : vs.length = is.length := by rw [rr.length]; exact hl
        exact ⟨a, vs, rfl, SqL.of (of_some_vis ha), by rw [hl2]; exact hin, gNs_run hl2 (h _ H' S2 ps)⟩
      · rw [if_neg hl] at h; exact h.elim
    | _ => exact h.elim
/-- a, b, .. = a tuple that is kept -/
def sUnpT (is : List Nat) (F : Env → R D) : Env → Fl := fun env => match F env with
  | .ok (.tup ds) e => if ds.length = is.length then .nx (setE e is ds) else .bad
  | .ok _ _ => .bad
  | .exc c d e => .exc c d e
  | .bad => .bad
theorem s_unpT {k n : Nat} (gd : Gd X W k) (hg : PGs X tgs (gNs is)) (h : SE X G.M W e F) (hn : (assignEach tgs X.env).length = n) (hin : is.length = n) (hst : (assignEach tgs X.env).findIdx? (·.1) = none := by rfl) (hM : is.all (fun i => !G.M.contains i) = true := by rfl) (hP : is.all (fun i => !G.Pm.contains i) = true := by rfl)
    (hs : swapsWithSole [.Tuple tgs kt pt] e pos.line X.env = pure false := by rfl) (hw : swappedStores [.Tuple tgs kt pt] e X.env = pure none := by rfl) (h1 : (assignEach [.Tuple tgs kt pt] X.env).map (·.2) = [assign (.Tuple tgs kt pt) X.env] := by rfl) :
    SS X G W (.Assign [.Tuple tgs kt pt] e pos) (sUnpT is F) := by
  obtain ⟨t, p, q⟩ := h
  refine ⟨_, ps_asg p (pg_tup gd.calm hg hn hst) hs hw h1, fun σ H env U S r E h => q σ H env U S r _ ?_⟩
  unfold sUnpT at h
  cases hF : F env with
  | bad => rw [hF] at h; exact h
  | exc c d e => rw [hF] at h; exact fun dx v H' S' po x z rp => h dx v σ H' S' (.of po) x z rp
  | ok d e1 =>
    rw [hF] at h
    intro v H' S' po rp
    cases rp with
    | @tup a vs ds ha rr =>
      simp only at h
      by_cases hl : ds.length = is.length
      · rw [if_pos hl] at h
        obtain ⟨S2, ps⟩ := unp_post po rr hl hM hP
        have hl2 : vs.length = is.length := by rw [rr.length]; exact hl
        exact ⟨a, vs, rfl, SqT.up ha, by rw [hl2]; exact hin, gNs_run hl2 (h _ H' S2 ps)⟩
      · rw [if_neg hl] at h; exact h.elim
    | _ => exact h.elim
/-! x op= e -/
def sAug (i : Nat) (f : D → D → O D) (F : Env → R D) : Env → Fl := fun env => match env[i]? with
  | some (some d) => match F env with
    | .ok y e => match f d y with
      | .ok z => .nx (e.set i (some z))
      | _ => .bad
    | .exc c d e => .exc c d e
    | .bad => .bad
  | _ => .bad
theorem s_aug {i : Nat} {x : Str} {op : Operator} {r : R2} {f : D → D → O D} {py : Pos} (ho : OpR X (inplaceOp op) r) (v2 : V2 X.K W r f) (hN : X.N.Nodup) (hi : X.N[i]? = some x) (hx : Loc X.env.scope x) (h : SE X G.M W e F) (hM : G.M.contains i = false := by rfl) (hP : G.Pm.contains i = false := by rfl)
    (hf : X.fn x = true ∨ X.env.scope.names.lookup x = some .local := by first | exact .inl rfl | exact .inr rfl | assumption) : SS X G W (.AugAssign (.Name x py) op e pos) (sAug i f F) := by
  obtain ⟨t, p, q⟩ := h
  have hM' : i ∉ G.M := by simpa using hM
  have hP' : i ∉ G.Pm := by simpa using hP
  refine ⟨_, ps_aug hN hi hx p ho hf, fun σ H env U S rl E h => ?_⟩
  unfold sAug at h
  cases he : env[i]? with
  | none => rw [he] at h; exact h.elim
  | some od =>
    cases od with
    | none => rw [he] at h; exact h.elim
    | some d =>
      rw [he] at h
      simp only at h
      obtain ⟨v, hv, rp⟩ := rl.frz i d hM' he
      refine ⟨v, hv, q σ H env U S rl _ ?_⟩
      cases hF : F env with
      | bad => rw [hF] at h; exact h
      | exc c d e => rw [hF] at h; exact fun dx v H' S' po x z rp => h dx v σ H' S' (.of po) x z rp
      | ok y e1 =>
        rw [hF] at h
        simp only at h
        intro w H' S' po rw'
        refine v2 H' _ σ v w d y _ po.rel.nt (rp.mono po.vis) rw' ?_
        cases hf2 : f d y with
        | bad => rw [hf2] at h; exact h.elim
        | exc _ _ => rw [hf2] at h; exact h.elim
        | ok z =>
          rw [hf2] at h
          intro u H2 ex ru
          have po2 := po.trans (po.rel.post ex)
          exact h _ H2 S' ⟨po2.rel.set hM' ru, po2.keep, po2.grow, fun j hj => List.getElem?_set_ne fun (e : i = j) => hP' (by rw [e]; exact hj)⟩
end
/-! a field of what a slot owns is set -/
section
variable {X : Cx} {G : Pl} {M : List Nat} {W : WX} {K : PySem.W.Frag} {U T : AS} {S : Nat → AS} {H : Hp} {σ : L2.St} {env : Env} {i : Nat} {c f : Str} {ds : List (Str × D)} {y : V} {d : D}
theorem fld_step (rl : Rel K M (un U T) S H σ env) (hM : i ∈ M) (he : env[i]? = some (some (.ins c ds))) (hlen : ds.length < 1000) (ow : Ow K H y d T) (nu : ∀ a, T a → ¬ U a) :
    ∃ a dx fs, σ[i]? = some (some (.ref a)) ∧ H a = some (.ins (He.ga K c) dx fs) ∧ fs.length < 1000 ∧ ∃ S', Rel K M U S' (upd H a (.ins (He.ga K c) dx (putF f y fs))) σ (env.set i (some (.ins c (putD f d ds)))) ∧
      (∀ b o, H b = some o → (∀ j, ¬ S j b) → upd H a (.ins (He.ga K c) dx (putF f y fs)) b = some o) ∧ ∀ j b, S' j b → (∃ k, S k b) ∨ T b ∨ H b = none := by
  obtain ⟨v', h1, h2⟩ := rl.own i _ hM he
  obtain ⟨a, dx, fs, T1, rfl, h3, h4, h5, h6, h7, h8, h9⟩ := ins_ow h2
  have hTS : ∀ b, T b → S i b → False := fun b q1 q2 => rl.out i b q2 (.inr q1)
  obtain ⟨T', g1, g2, g3⟩ := owl_put (k := f) ow h5 h6 fun b w1 w2 => hTS b w2 ((h9 b).mpr (.inr (.inr w1)))
  have hfl : fs.length < 1000 := by
    have := congrArg List.length h5
    simp at this
    omega
  refine ⟨a, dx, fs, h1, h3, hfl, ?_⟩
  rw [← putV_putF]
  have hup := ow_tup (K := K) (H := H) (a := a) (o := .ins (He.ga K c) dx (putV f y fs)) (fun xs z => by rw [h3] at z; cases z) (fun _ _ z => by rw [h3] at z; cases z)
  have hda : dx ≠ a := fun e => by rw [e, h3] at h4; cases h4
  have na' : ¬ T' a := fun z => (g3 a z).elim h7 fun w => hTS a w ((h9 a).mpr (.inl rfl))
  have nd' : ¬ T' dx := fun z => (g3 dx z).elim h8 fun w => hTS dx w ((h9 dx).mpr (.inr (.inl rfl)))
  have ow' : Ow K (upd H a (.ins (He.ga K c) dx (putV f y fs))) (.ref a) (.ins c (putD f d ds)) (fun b => b = a ∨ b = dx ∨ T' b) :=
    .ins upd_same (by rw [upd_ne hda]; exact h4) g1 (g2.carry hup.1 hup.2 fun b o hb ho => by rw [upd_ne (fun e => na' (by rw [← e]; exact hb))]; exact ho) na' nd' fun b => Iff.rfl
  exact mut_post rl hM h1 (fun b o hb n => by rw [upd_ne (fun e => n ((h9 b).mpr (.inl e)))]; exact hb) ow' (fun b z => by
    rcases z with z | z | z
    · exact .inl ((h9 b).mpr (.inl z))
    · exact .inl ((h9 b).mpr (.inr (.inl z)))
    · rcases g3 b z with w | w
      · exact .inl ((h9 b).mpr (.inr (.inr w)))
      · exact .inr (.inl w)) nu
def gFldS (K : PySem.W.Frag) (i : Nat) (c f : Str) : TG := fun v σ H Q => ∃ a dx fs, σ[i]? = some (some (.ref a)) ∧ H a = some (.ins (He.ga K c) dx fs) ∧ fs.length < 1000 ∧ Q σ (upd H a (.ins (He.ga K c) dx (putF f v fs)))
theorem pg_fldS {x : Str} {p1 pos : Pos} (cl : Cls X.K (He.ga X.K c)) (na : NoAttr X.K (He.ga X.K c) f) (hN : X.N[i]? = some x) (hv : Vis X.env.scope x) (hd : (x == ("__debug__" : Str)) = false := by decide) (hcd : (x == ("__classdict__" : Str)) = false := by decide) : PG X (.Attribute (.Name x p1) f pos) (gFldS X.K i c f) := by
  refine ⟨fun pins s σ H v u Q I r h => ?_⟩
  obtain ⟨a, dx, fs, h1, h2, h3, h4⟩ := h
  refine PySem.W.kas_attr (thn ((pe_var hN hv hd hcd).run pins s σ H (fun z H' => z = .ref a ∧ H' = H) I ⟨.ref a, h1, rfl, rfl⟩) fun ov s2 ⟨z, H2, I2, rz, ez, eH⟩ => ?_)
  subst ez; subst eH
  obtain rfl : ov = Value.ref a := rz
  exact setattr_ok I2 h2 cl na h3 r fun s3 I3 => ⟨σ, _, I3, h4⟩
section
local instance (priority := 10000) qs7 : DecidableEq Str := quickStr
/-- x, self.f = e1, e2: e1 kept, e2 immutable -/
def sParF (i j : Nat) (c f : Str) (F1 F2 : Env → O D) : Env → Fl := fun env => match F1 env, F2 env with
  | .ok d1, .ok d2 => match env[j]? with
    | some (some (.ins c' ds)) => if c' = c ∧ ds.length < 1000 ∧ imm d2 = true then .nx ((env.set i (some d1)).set j (some (.ins c (putD f d2 ds)))) else .bad
    | _ => .bad
  | _, _ => .bad
end
theorem s_parF {k j : Nat} {x y : Str} {e1 e2 : Expr} {F1 F2 : Env → O D} {px py pf pt pt2 pos : Pos} {kt k2 : Nat} (gd : Gd X W k) (cl : Cls X.K (He.ga X.K c)) (na : NoAttr X.K (He.ga X.K c) f) (hi : X.N[i]? = some x) (hx : Loc X.env.scope x) (hj : X.N[j]? = some y) (hy : Vis X.env.scope y) (h1 : SP X G.M W true e1 F1) (h2 : SP X G.M W true e2 F2)
    (hMi : G.M.contains i = false := by rfl) (hMj : G.M.contains j = true := by rfl) (hP : G.Pm.contains i = false := by rfl) (hij : i ≠ j := by decide) (hns : noStar [e1, e2] = true := by rfl)
    (hf : X.fn x = true ∨ X.env.scope.names.lookup x = some .local := by first | exact .inl rfl | exact .inr rfl | assumption) (hd : (y == ("__debug__" : Str)) = false := by decide) (hcd : (y == ("__classdict__" : Str)) = false := by decide)
    (hn : (assignEach [.Name x px, .Attribute (.Name y py) f pf] X.env).length = 2 := by rfl) (hst : (assignEach [.Name x px, .Attribute (.Name y py) f pf] X.env).findIdx? (·.1) = none := by rfl)
    (hs : swapsWithSole [.Tuple [.Name x px, .Attribute (.Name y py) f pf] kt pt] (.Tuple [e1, e2] k2 pt2) pos.line X.env = pure false := by rfl) (hw : swappedStores [.Tuple [.Name x px, .Attribute (.Name y py) f pf] kt pt] (.Tuple [e1, e2] k2 pt2) X.env = pure none := by rfl)
    (ha : (assignEach [.Tuple [.Name x px, .Attribute (.Name y py) f pf] kt pt] X.env).map (·.2) = [assign (.Tuple [.Name x px, .Attribute (.Name y py) f pf] kt pt) X.env] := by rfl) (hc1 : (assignEach [.Name x px, .Attribute (.Name y py) f pf] X.env).map (·.2) = assign (.Name x px) X.env :: (assignEach [.Attribute (.Name y py) f pf] X.env).map (·.2) := by rfl) (hc2 : (assignEach [.Attribute (.Name y py) f pf] X.env).map (·.2) = assign (.Attribute (.Name y py) f pf) X.env :: (assignEach [] X.env).map (·.2) := by rfl) :
    SS X G W (.Assign [.Tuple [.Name x px, .Attribute (.Name y py) f pf] kt pt] (.Tuple [e1, e2] k2 pt2) pos) (sParF i j c f F1 F2) := by
  obtain ⟨ts, ps, qs⟩ := sps_run (SPs.cons h1 (SPs.cons h2 SPs.nil))
  obtain ⟨t, pa, q⟩ := pa_of ps hns
  have hMi' : i ∉ G.M := by simpa using hMi
  have hMj' : j ∈ G.M := by simpa using hMj
  have hP' : i ∉ G.Pm := by simpa using hP
  refine ⟨_, ps_asg (pe_tup pa) (pg_tup gd.calm (pgs_cons (pg_name gd.nd hi hx hf) (pgs_cons (pg_fldS cl na hj hy hd hcd) pgs_nil hc2) hc1) hn hst) hs hw ha, fun σ H env U S r E h => q σ H _ (qs σ H env U S r _ ?_)⟩
  unfold sParF at h
  cases hF1 : F1 env with
  | bad => rw [hF1] at h; exact h.elim
  | exc _ _ => rw [hF1] at h; exact h.elim
  | ok d1 =>
    cases hF2 : F2 env with
    | bad => rw [hF1, hF2] at h; exact h.elim
    | exc _ _ => rw [hF1, hF2] at h; exact h.elim
    | ok d2 =>
      rw [hF1, hF2] at h
      simp only at h
      have hseq : seqF [F1, F2] env = .ok [d1, d2] := by simp [seqF, hF1, hF2, O.bind]
      rw [hseq]
      intro vs H1 ex1 rp
      cases rp with
      | @cons v1 _ _ _ rp1 rp => cases rp with
        | @cons v2 _ _ _ rp2 rp => cases rp with
          | nil =>
            refine ⟨show 2 ≤ sizeLine by decide, fun p hp => ?_⟩
            have ex2 : Ex H1 (upd H1 p (.tup [v1, v2])) := Ex.new hp
            cases he : env[j]? with
            | none => rw [he] at h; exact h.elim
            | some od =>
              cases od with
              | none => rw [he] at h; exact h.elim
              | some dj =>
                cases dj with
                | ins c' ds =>
                  rw [he] at h
                  simp only at h
                  by_cases hc : c' = c ∧ ds.length < 1000 ∧ imm d2 = true
                  · rw [if_pos hc] at h
                    obtain ⟨rfl, hlen, him⟩ := hc
                    have rz1 : Rp X.K (vis H1 (zo U S)) v1 d1 := by rw [← zb_true]; exact rp1
                    have r2 : Rel X.K G.M U S (upd H1 p (.tup [v1, v2])) (σ.set i (some v1)) (env.set i (some d1)) := ((r.mono ex1).mono ex2).set hMi' (rz1.mono (vis_mono ex2))
                    have he2 : (env.set i (some d1))[j]? = some (some (.ins c' ds)) := by rw [List.getElem?_set_ne hij]; exact he
                    obtain ⟨a, dx, fs, k1, k2, k3, S', k4, k5, k6⟩ := fld_step (f := f) (T := fun _ => False) (r2.out_eq (U' := un U fun _ => False) fun a => by simp [un]) hMj' he2 hlen (.leaf him ((rp2.mono vis_ex).mono ex2) fun _ h => h) fun _ h => h.elim
                    refine ⟨p, [v1, v2], rfl, SqT.of upd_same, rfl, v1, [v2], rfl, v2, [], rfl, a, dx, fs, k1, k2, k3, rfl, ?_⟩
                    refine h _ _ S' ⟨k4, fun b o hb n => k5 b o (ex2 b o (ex1 b o hb)) n, fun j' b z => ?_, fun j' hj' => List.getElem?_set_ne fun (e : i = j') => hP' (by rw [e]; exact hj')⟩
                    rcases k6 j' b z with w | w | w
                    · exact .inl w
                    · exact w.elim
                    · exact .inr (fresh_back (ex1.trans ex2) w)
                  · rw [if_neg hc] at h; exact h.elim
                | _ => rw [he] at h; exact h.elim
end
end Rf

namespace Rf
open PySem PySem.Spec PyProof.Rows L2

/-! displays with stars -/
def isPl : Expr → Bool
  | .Starred _ _ => false
  | _ => true
theorem isPl_head {e : Expr} {es : List Expr} (h : isPl e = true) (env : PySem.Env) : starEach (e :: es) env = (false, eval e env) :: starEach es env := by
  cases e <;> first
    | rfl
    | (simp [isPl] at h)
inductive SSt (X : Cx) (M : List Nat) (W : WX) (b : Bool) : List Expr → List (Bool × (Env → O D)) → Prop
  | nil : SSt X M W b [] []
  | pl {e : Expr} {es : List Expr} {F : Env → O D} {Fs : List (Bool × (Env → O D))} : SP X M W b e F → isPl e = true → SSt X M W b es Fs → SSt X M W b (e :: es) ((false, F) :: Fs)
  | st {e : Expr} {p : Pos} {es : List Expr} {F : Env → O D} {Fs : List (Bool × (Env → O D))} : SP X M W b e F → SSt X M W b es Fs → SSt X M W b (.Starred e p :: es) ((true, F) :: Fs)
def seqSt : List (Bool × (Env → O D)) → Env → O (List D)
  | [], _ => .ok []
  | (false, F) :: Fs, env => (F env).bind fun d => (seqSt Fs env).bind fun ds => .ok (d :: ds)
  | (true, F) :: Fs, env => (F env).bind fun d => match d with
    | .tup xs => (seqSt Fs env).bind fun ds => .ok (xs ++ ds)
    | .lst xs => (seqSt Fs env).bind fun ds => .ok (xs ++ ds)
    | _ => .bad
section
variable {X : Cx} {M : List Nat} {W : WX} {b : Bool}
theorem sst_run {es : List Expr} {Fs : List (Bool × (Env → O D))} (h : SSt X M W b es Fs) : ∃ t, PA X es t ∧ ∀ σ H env U S, Rel X.K M U S H σ env → ∀ (k : List V → Hp → Prop),
    Po X.K W (zb b U S) H σ (rlZ X.K (zb b U S)) k (seqSt Fs env) → t σ H k := by
  induction h with
  | nil => exact ⟨_, pa_nil, fun σ H env U S r k h => h [] H (Ex.refl H) .nil⟩
  | @pl e es F Fs h1 hp _ ih =>
    obtain ⟨t, p, q⟩ := h1
    obtain ⟨ts, ps, qs⟩ := ih
    refine ⟨_, pa_cons p ps (isPl_head hp X.env), fun σ H env U S r k h => ?_⟩
    unfold seqSt at h
    refine q σ H env U S r _ (Po.step h fun d v H1 hF e1 r1 h1 => ?_)
    refine qs σ H1 env U S (r.mono e1) _ (Po.step h1 fun ds vs H2 hFs e2 r2 h2 => ?_)
    exact h2 (v :: vs) H2 (Ex.refl H2) (.cons (r1.mono (vis_mono e2)) r2)
  | @st e p0 es F Fs h1 _ ih =>
    obtain ⟨t, p, q⟩ := h1
    obtain ⟨ts, ps, qs⟩ := ih
    refine ⟨_, StX.pa_star p ps rfl, fun σ H env U S r k h => ?_⟩
    unfold seqSt at h
    refine q σ H env U S r _ (Po.step h fun d v H1 hF e1 r1 h1 => ?_)
    cases r1 with
    | @tup a vs xs ha rr =>
      refine ⟨a, vs, rfl, .inl (SqT.up ha), qs σ H1 env U S (r.mono e1) _ (Po.step h1 fun ds ws H2 hFs e2 r2 h2 => ?_)⟩
      exact h2 (vs ++ ws) H2 (Ex.refl H2) ((rr.mono (vis_mono e2)).append r2)
    | @lst a vs xs ha rr =>
      refine ⟨a, vs, rfl, .inr (SqL.of (of_some_vis ha)), qs σ H1 env U S (r.mono e1) _ (Po.step h1 fun ds ws H2 hFs e2 r2 h2 => ?_)⟩
      exact h2 (vs ++ ws) H2 (Ex.refl H2) ((rr.mono (vis_mono e2)).append r2)
    | _ => exact h1.elim
def eTupS (Fs : List (Bool × (Env → O D))) : Env → O D := fun env => (seqSt Fs env).bind gTupD
def eLstS (Fs : List (Bool × (Env → O D))) : Env → O (List D) := fun env => (seqSt Fs env).bind gLstD
theorem sp_tupS {es : List Expr} {Fs : List (Bool × (Env → O D))} {k : Nat} {pos : Pos} (h : SSt X M W b es Fs) : SP X M W b (.Tuple es k pos) (eTupS Fs) := by
  obtain ⟨t, p, q⟩ := sst_run h
  refine ⟨_, pe_tup p, fun σ H env U S r Q hp => q σ H env U S r _ ?_⟩
  have hp' : Po X.K W (zb b U S) H σ (rpZ X.K (zb b U S)) Q ((seqSt Fs env).bind gTupD) := hp
  refine Po.step hp' fun ds vs H1 hF e1 r1 h1 => val_tup H1 _ σ vs ds Q ((r.ntb b).new e1) r1 h1
theorem spl_lstS {es : List Expr} {Fs : List (Bool × (Env → O D))} {pos : Pos} (h : SSt X M W b es Fs) : SPL X M W b (.List es pos) (eLstS Fs) := by
  obtain ⟨t, p, q⟩ := sst_run h
  refine ⟨_, pe_lst p, fun σ H env U S r Q hp => q σ H env U S r _ ?_⟩
  have hp' : Po X.K W (zb b U S) H σ (nlZ X.K (zb b U S) H) Q ((seqSt Fs env).bind gLstD) := hp
  refine Po.step hp' fun ds vs H1 hF e1 r1 h1 => vl_lst (W := W) H1 _ σ vs ds Q ((r.ntb b).new e1) r1 ?_
  cases hg : gLstD ds with
  | ok ys =>
    rw [hg] at h1
    rintro w H2 e2 ⟨p', us, rfl, hn, hl, rr⟩
    exact h1 _ H2 e2 ⟨p', us, rfl, fresh_back e1 hn, hl, rr⟩
  | exc c d => rw [hg] at h1; exact h1
  | bad => rw [hg] at h1; exact h1
/-! tuple(range(n)), list(range(n)) -/
theorem rgV_rp {K : PySem.W.Frag} {H : Hp} (a b : Int) : RpL K H (rgV a b) (rangeD a (b - a).toNat) := by
  unfold rgV rangeD
  generalize (b - a).toNat = n
  induction List.range n with
  | nil => exact .nil
  | cons i is ih => exact .cons (.int _) ih
instance rgDec (a b : Int) : Decidable (RgOk a b) := by unfold RgOk; infer_instance
def rgD : O D → O (List D)
  | .ok (.int j) => if RgOk 0 j then .ok (rangeD 0 j.toNat) else .bad
  | .ok _ => .bad
  | .exc c d => .exc c d
  | .bad => .bad
def mkT : O (List D) → O D
  | .ok ds => .ok (.tup ds)
  | .exc c d => .exc c d
  | .bad => .bad
theorem sp_tupRg {k : Nat} {e : Expr} {F : Env → O D} {p pos p2 pos2 : Pos} (gd : Gd X W k) (hg : Gl X "tuple") (hm : X.mg "tuple" = none) (hg2 : Gl X "range") (hm2 : X.mg "range" = none) (h : SP X M W b e F) (hs : noStar [e] = true := by rfl) :
    SP X M W b (.Call (.Name "tuple" p) [.Call (.Name "range" p2) [e] [] pos2] [] pos) (fun env => mkT (rgD (F env))) := by
  obtain ⟨t, pp, q⟩ := h
  obtain ⟨n1, _⟩ := noStar_head hs X.env
  refine ⟨_, pe_tupRg gd.calm hg hm (prg_1 hg2 hm2 pp n1) rfl, fun σ H env U S r Q hp => q σ H env U S r _ ?_⟩
  dsimp only at hp
  cases hF : F env with
  | ok d =>
    rw [hF] at hp
    intro v H' ex rp
    cases rp with
    | int j =>
      simp only [rgD] at hp
      split at hp
      · rename_i hj
        refine ⟨j, rfl, hj, fun q' hq => ?_⟩
        have := rgV_rp (K := X.K) (H := vis (upd H' q' (.tup (rgV 0 j))) (zb b U S)) 0 j
        rw [Int.sub_zero] at this
        exact hp _ _ (ex.trans (Ex.new hq)) (.tup (SqT.of (vis_in upd_same fun z => ((r.ntb b).new ex q' z).1 hq)) this)
      · exact hp.elim
    | _ => exact hp.elim
  | exc c d => rw [hF] at hp; exact hp
  | bad => rw [hF] at hp; exact hp.elim
theorem spl_lstRg {k : Nat} {e : Expr} {F : Env → O D} {p pos p2 pos2 : Pos} (gd : Gd X W k) (hg : Gl X "list") (hm : X.mg "list" = none) (hg2 : Gl X "range") (hm2 : X.mg "range" = none) (h : SP X M W b e F) (hs : noStar [e] = true := by rfl) :
    SPL X M W b (.Call (.Name "list" p) [.Call (.Name "range" p2) [e] [] pos2] [] pos) (fun env => rgD (F env)) := by
  obtain ⟨t, pp, q⟩ := h
  obtain ⟨n1, _⟩ := noStar_head hs X.env
  refine ⟨_, pe_listRg gd.calm hg hm (prg_1 hg2 hm2 pp n1) rfl, fun σ H env U S r Q hp => q σ H env U S r _ ?_⟩
  dsimp only at hp
  cases hF : F env with
  | ok d =>
    rw [hF] at hp
    intro v H' ex rp
    cases rp with
    | int j =>
      simp only [rgD] at hp
      split at hp
      · rename_i hj
        refine ⟨j, rfl, hj, fun q' hq => ?_⟩
        have := rgV_rp (K := X.K) (H := vis (upd H' q' (.lst (rgV 0 j))) (zb b U S)) 0 j
        rw [Int.sub_zero] at this
        exact hp _ _ (ex.trans (Ex.new hq)) ⟨q', _, rfl, fresh_back ex hq, upd_same, this⟩
      · exact hp.elim
    | _ => exact hp.elim
  | exc c d => rw [hF] at hp; exact hp
  | bad => rw [hF] at hp; exact hp.elim
/-! xs.index(x) of a tuple of texts -/
def findS (z : Str) : List Str → Option Nat
  | [] => none
  | y :: ys => if y = z then some 0 else (findS z ys).map (· + 1)
theorem findS_ok {z : Str} : ∀ {ys : List Str} {j : Nat}, findS z ys = some j → ys[j]? = some z ∧ ∀ m, m < j → ys[m]? ≠ some z
  | [], _, h => by simp [findS] at h
  | y :: ys, j, h => by
    unfold findS at h
    by_cases e : y = z
    · rw [if_pos e] at h
      cases h
      exact ⟨by simp [e], fun m hm => by omega⟩
    · rw [if_neg e] at h
      cases hq : findS z ys with
      | none => rw [hq] at h; cases h
      | some i =>
        rw [hq] at h
        cases h
        obtain ⟨h1, h2⟩ := findS_ok hq
        refine ⟨by simpa using h1, fun m hm => ?_⟩
        cases m with
        | zero => simpa using e
        | succ m => simpa using h2 m (by simp at hm; omega)
def fIdx : D → D → O D
  | .tup xs, .str z => match strsD xs with
    | some ys => match findS z ys with
      | some j => .ok (.int (j : Nat))
      | none => .bad
    | none => .bad
  | _, _ => .bad
variable {e : Expr} {apos cpos pos : Pos} {F : Env → O D}
/-- T.index(e), T a table of the module -/
theorem sp_indexG {x : Str} {a : Addr} {ds : List D} (hg : Gl X x) (hm : X.mg x = some (.ref a)) (hr : ∀ H, Rp X.K H (.ref a) (.tup ds)) (ht : ∃ o, X.K.lookup a = some o ∧ o.cls = .type "tuple" ∧ o.dict = none) (he : SP X M W b e F) (hns : noStar [e] = true := by rfl) (hline : (apos.endLine == cpos.line) = true := by rfl) (hd : (x == ("__debug__" : Str)) = false := by decide) (hbase : attributeBase (.Name x pos) "index" X.env (eval (.Name x pos) X.env) = eval (.Name x pos) X.env := by rfl) :
    SP X M W b (.Call (.Attribute (.Name x pos) "index" apos) [e] [] cpos) (nd (g1 (fIdx (.tup ds))) [F]) := by
  obtain ⟨te, pe, qe⟩ := he
  obtain ⟨n1, n2⟩ := noStar_head hns X.env
  refine ⟨_, pe_bm PySem.F.plainAttrs_tuple PySem.F.slot_tuple_index PySem.F.type_tuple_index mt_tup_index (pe_glob (v := .ref a) hg hm rfl hd) (pa_cons pe pa_nil n1) hbase (by rw [n1]; rfl) hline n1 rfl, fun σ H env U S' rl Q hp => ?_⟩
  refine ⟨.inr (.inl ⟨rfl, ht⟩), qe σ H env U S' rl _ ?_⟩
  have hp' : Po X.K W (zb b U S') H σ (rpZ X.K (zb b U S')) Q ((F env).bind fun d => fIdx (.tup ds) d) := by
    have : nd (g1 (fIdx (.tup ds))) [F] env = (F env).bind fun d => fIdx (.tup ds) d := by
      unfold nd seqF seqF
      cases F env <;> rfl
    rw [← this]
    exact hp
  refine Po.step hp' fun d y H1 _ e1 r1 h1 => ?_
  cases hr H1 with
  | tup ha r =>
    cases r1 with
    | str z =>
      simp only [fIdx] at h1
      split at h1
      · rename_i ys hy
        split at h1
        · rename_i j hj
          have := strsD_ok r hy
          subst this
          obtain ⟨k1, k2⟩ := findS_ok hj
          exact ⟨a, ys, z, j, rfl, rfl, ha, k1, k2, h1 _ H1 (Ex.refl H1) (.int _)⟩
        · exact h1.elim
      · exact h1.elim
    | _ => exact h1.elim
end
end Rf

namespace Rf
open PySem PySem.Spec PyProof.Rows L2

/-! == and in by the text's own methods (what they raise is not followed) -/
structure Spl (P : Program) (w : World) (K : PySem.W.Frag) (mg : Str → Option Value) (base : Heap) (k : Nat) (c m : Str) (ro : Bool) (g : List D → C) : Prop where
  ex : ∃ (f : Addr) (fd : FuncData) (ps : List Str), PySem.W.findIn K (.ref (He.ga K c)) m = some (some (.ref f)) ∧ PySem.W.isFn K (.ref f) = true ∧ ps.length = 2 ∧ FnOk P w K mg base (L2.CX P w) k f fd ps (spC K 2 [] ro g) ∧ Binds K fd ps []
abbrev SplX (X : Cx) := Spl X.prog X.w X.K X.mg X.base
def E0 : XK := fun _ _ _ => False
theorem pass0 {X : Cx} : Passes (L2.CX X.prog X.w) X E0 := fun _ _ _ _ _ _ _ hc => by
  obtain ⟨_, _, _, _, _, _, _, _, _, _, _, _, z⟩ := hc
  exact z.elim
section
variable {X : Cx} {W : WX} {k : Nat} {c : Str} {ro : Bool} {g : List D → C}
def rInOwn (K : PySem.W.Frag) (c : Str) (ro neg : Bool) (g : List D → C) : R2 := fun x y H Q => ∃ a dx fs, y = .ref a ∧ H a = some (.ins (He.ga K c) dx fs) ∧ spC K 2 [] ro g [.ref a, x] H (fun v H' => ∃ k, v = .bl k ∧ Q (.bl (ng neg k)) H') E0
theorem op_inOwn (hr : Room k X.A) (sp : SplX X k c "__contains__" ro g) : OpR X (compareOp .In) (rInOwn X.K c ro false g) := by
  intro pins s σ H x y v u Q I rx ry h
  obtain ⟨a, dx, fs, rfl, ha, hsp⟩ := h
  obtain ⟨f, fd, ps, h1, h2, h3, h4, h5⟩ := sp.ex
  obtain rfl : u = Value.ref a := ry
  obtain ⟨mA, J, _⟩ := ins_get I.hok ha
  obtain ⟨od, J, _⟩ := J.look
  obtain ⟨m, hF⟩ := I.fr
  refine PySem.W.in_K hF I.ok.mod.kin J h1 h2 ?_
  refine wpAny_mono (run_fn (us := [.ref a, v]) (vs := [.ref a, x]) (dvs := []) (ds := []) h4 hr h5 .nil pass0 I (.cons rfl (.cons rx .nil)) hsp) (fun r s' hq => ?_) fun _ _ e => e
  obtain ⟨z, H', I', rz, k', rfl, q⟩ := hq
  obtain rfl : r = Value.bool k' := rz
  exact wpAny_pure ⟨.bl k', H', I', rfl, q⟩
theorem op_notInOwn (hr : Room k X.A) (sp : SplX X k c "__contains__" ro g) : OpR X (compareOp .NotIn) (rInOwn X.K c ro true g) := by
  intro pins s σ H x y v u Q I rx ry h
  obtain ⟨a, dx, fs, rfl, ha, hsp⟩ := h
  obtain ⟨f, fd, ps, h1, h2, h3, h4, h5⟩ := sp.ex
  obtain rfl : u = Value.ref a := ry
  obtain ⟨mA, J, _⟩ := ins_get I.hok ha
  obtain ⟨od, J, _⟩ := J.look
  obtain ⟨m, hF⟩ := I.fr
  refine PySem.W.notIn_K hF I.ok.mod.kin J h1 h2 ?_
  refine wpAny_mono (run_fn (us := [.ref a, v]) (vs := [.ref a, x]) (dvs := []) (ds := []) h4 hr h5 .nil pass0 I (.cons rfl (.cons rx .nil)) hsp) (fun r s' hq => ?_) fun _ _ e => e
  obtain ⟨z, H', I', rz, k', rfl, q⟩ := hq
  obtain rfl : r = Value.bool k' := rz
  exact wpAny_pure ⟨.bl (!k'), H', I', rfl, q⟩
section
local instance (priority := 10000) qs8 : DecidableEq Str := quickStr
def isC (c : Str) : D → Bool
  | .ins c' _ => decide (c' = c)
  | _ => false
end
def okB (neg : Bool) : C → O D
  | .ok (.bl k) _ => .ok (.bl (ng neg k))
  | _ => .bad
def fInOwn (c : Str) (neg : Bool) (g : List D → C) (x y : D) : O D := if isC c y then okB neg (g [y, x]) else .bad
theorem isC_ins {K : PySem.W.Frag} {H : Hp} {x : V} {s : D} (r : Rp K H x s) (h : isC c s = true) : ∃ a dx fs, x = .ref a ∧ H a = some (.ins (He.ga K c) dx fs) := by
  cases r <;> try (simp [isC] at h; done)
  rename_i a dx c' fs ds ha hk r
  simp only [isC, decide_eq_true_eq] at h
  subst h
  exact ⟨a, dx, fs, rfl, ha⟩
/-- by what is promised: a bool comes -/
theorem spC_bool {K : PySem.W.Frag} {H : Hp} {Z : AS} {σ : L2.St} {vs : List V} {ds : List D} {Q : VK} {N : Nat} {neg : Bool} (n : Nt H Z) (rp : RpL K (vis H Z) vs ds) (hN : ds.length = N) (hp : Po K W Z H σ (rpZ K Z) Q (okB neg (g ds))) :
    spC K N [] ro g vs H (fun v H' => ∃ k, v = .bl k ∧ Q (.bl (ng neg k)) H') E0 := by
  have := spC_pure (K := K) (W := fun _ _ _ _ => False) (ro := ro) (g := g) (dds := []) (dvs := []) (σ := σ) (N := N) (Q := fun v H' => ∃ k, v = .bl k ∧ Q (.bl (ng neg k)) H') (fun _ => .nil) n rp (by simpa using hN) (by
    rw [List.append_nil]
    cases hg : g ds with
    | ok d o =>
      rw [hg] at hp
      cases d with
      | bl k =>
        intro v H' ex r
        cases r
        exact ⟨k, rfl, hp _ H' ex (.bl _)⟩
      | _ => exact hp.elim
    | exc _ _ _ => rw [hg] at hp; exact hp.elim
    | bad => rw [hg] at hp; exact hp.elim)
  rw [List.append_nil] at this
  exact this
theorem v2_inOwn {K : PySem.W.Frag} (neg : Bool) : V2 K W (rInOwn K c ro neg g) (fInOwn c neg g) := by
  intro H Z σ x y d e Q n h1 h2 hp
  unfold fInOwn at hp
  cases hc : isC c e with
  | false => rw [hc] at hp; exact (show False by simpa [Po] using hp).elim
  | true =>
    rw [hc] at hp
    simp only [if_true] at hp
    obtain ⟨a, dx, fs, rfl, ha⟩ := isC_ins h2 hc
    exact ⟨a, dx, fs, rfl, of_some_vis ha, spC_bool n (.cons h2 (.cons h1 .nil)) rfl hp⟩
def rEqOwn (K : PySem.W.Frag) (c : Str) (ro : Bool) (g : List D → C) : R2 := fun x y H Q => ∃ a dx fs b dy gs, x = .ref a ∧ H a = some (.ins (He.ga K c) dx fs) ∧ y = .ref b ∧ H b = some (.ins (He.ga K c) dy gs) ∧ spC K 2 [] ro g [.ref a, .ref b] H (fun v H' => ∃ k, v = .bl k ∧ Q (.bl (ng false k)) H') E0
theorem op_eqOwn (hu : X.A.units < cLine) (hr : Room k X.A) (sp : SplX X k c "__eq__" ro g) : OpR X (compareOp .Eq) (rEqOwn X.K c ro g) := by
  intro pins s σ H x y v u Q I rx ry h
  obtain ⟨a, dx, fs, b, dy, gs, rfl, ha, rfl, hb, hsp⟩ := h
  obtain ⟨f, fd, ps, h1, h2, h3, h4, h5⟩ := sp.ex
  obtain rfl : v = Value.ref a := rx
  obtain rfl : u = Value.ref b := ry
  obtain ⟨mA, J, _⟩ := ins_get I.hok ha
  obtain ⟨od, J, _⟩ := J.look
  obtain ⟨mB, J', _⟩ := ins_get I.hok hb
  obtain ⟨od', J', _⟩ := J'.look
  obtain ⟨m, hF⟩ := I.fr
  show wpAny (model X.prog X.w) X.A (richCompare .Eq (.ref a) (.ref b)) (EP X pins σ Q) X.xe s
  refine PySem.W.cmp_K (op := .Eq) (tb := .ref (He.ga X.K c)) hu hF I.ok.mod.kin J J'.type (by simp [PySem.W.notFirst]) h1 h2 ?_
  refine wpAny_mono (run_fn (us := [.ref a, .ref b]) (vs := [.ref a, .ref b]) (dvs := []) (ds := []) h4 hr h5 .nil pass0 I (.cons rfl (.cons rfl .nil)) hsp) (fun r s' hq => ?_) fun _ _ e => e
  obtain ⟨z, H', I', rz, k', rfl, q⟩ := hq
  obtain rfl : r = Value.bool k' := rz
  exact ⟨.bl k', H', I', rfl, q⟩
def fEqOwn (c : Str) (g : List D → C) (x y : D) : O D := if isC c x && isC c y then okB false (g [x, y]) else .bad
theorem v2_eqOwn {K : PySem.W.Frag} : V2 K W (rEqOwn K c ro g) (fEqOwn c g) := by
  intro H Z σ x y d e Q n h1 h2 hp
  unfold fEqOwn at hp
  cases hc : (isC c d && isC c e) with
  | false => rw [hc] at hp; exact (show False by simpa [Po] using hp).elim
  | true =>
    rw [hc] at hp
    simp only [if_true] at hp
    simp only [Bool.and_eq_true] at hc
    obtain ⟨a, dx, fs, rfl, ha⟩ := isC_ins h1 hc.1
    obtain ⟨b, dy, gs, rfl, hb⟩ := isC_ins h2 hc.2
    exact ⟨a, dx, fs, b, dy, gs, rfl, of_some_vis ha, rfl, of_some_vis hb, spC_bool n (.cons h1 (.cons h2 .nil)) rfl hp⟩
/-! isinstance(x, C), x an instance of C -/
section
local instance (priority := 10000) qs9 : DecidableEq Str := quickStr
def fIsiC (c : Str) : D → O D
  | .ins c' _ => if c' = c then .ok (.bl true) else .bad
  | _ => .bad
end
/-! sum of a tuple -/
theorem cr_sumT (hc : X.calm = true) : CallR X (.builtin "sum") (fun vs H Q => ∃ (a : Addr) (ns : List Int), vs = [V.ref a] ∧ SqT X.K H a (ns.map V.int) ∧ Q (.int ns.sum) H) := by
  intro pins s σ H vs us Q I r h
  obtain ⟨a, ns, rfl, hs, q⟩ := h
  obtain ⟨its, rv, hl, _⟩ := I.tuple hs
  rw [Vals.ref1 r]
  obtain ⟨xs, e⟩ := rv.ints.allInts.items
  have hn : numsOf (intItems xs).toList = ns := by rw [← e]; exact rv.ints.numsOf
  rw [nums_intItems] at hn
  rw [e] at hl
  refine PySem.W.ktm_sumG (I.ok.hd hc) hl fun h' tk t' hk => ?_
  rw [preSum_eq, List.take_of_length_le (by simp), hn]
  exact ⟨.int _, H, I.kept hk, ⟨_, rfl⟩, q⟩
def rSumX (K : PySem.W.Frag) : List V → Hp → VK → Prop := fun vs H Q => rSum K vs H Q ∨ (∃ (a : Addr) (ns : List Int), vs = [V.ref a] ∧ SqT K H a (ns.map V.int) ∧ Q (.int ns.sum) H)
theorem call_sumX (hc : X.calm = true) : CallR X (.builtin "sum") (rSumX X.K) := (cr_sum hc).or (cr_sumT hc)
def fSumX : D → O D
  | .tup xs => match intsD xs with
    | some bs => .ok (.int bs.sum)
    | none => .bad
  | d => fSum d
theorem vc_sumX {K : PySem.W.Frag} : VC1 K W (rSumX K) fSumX := by
  intro H Z σ x d Q n h hp
  cases h with
  | @tup a vs ds ha r =>
    simp only [fSumX] at hp
    split at hp
    · rename_i bs hb
      have := intsD_ok r hb
      subst this
      exact .inr ⟨a, bs, rfl, SqT.up ha, hp _ H (Ex.refl H) (.int _)⟩
    · exact hp.elim
  | lst a r => exact .inl (vc_sum H Z σ _ _ Q n (.lst a r) hp)
  | _ => exact hp.elim
end
end Rf

namespace Rf
open PySem PySem.Spec PyProof.Rows L2

/-! an instance made, as a value -/
theorem rel_none {K : PySem.W.Frag} {H : Hp} {Z : AS} (n : Nt H Z) : Rel K [] Z (fun _ _ => False) H [] [] :=
  ⟨fun i d hi => by simp at hi, fun i d _ he => by simp at he, fun _ _ _ _ h => h.elim, fun _ _ h => h.elim, fun a z => z.elim (n a) fun ⟨_, f⟩ => f.elim, rfl⟩
theorem zo_none {Z : AS} : zo Z (fun _ _ => False) = Z := funext fun a => propext ⟨fun z => z.elim id fun ⟨_, f⟩ => f.elim, .inl⟩
section
variable {X : Cx} {M : List Nat} {W : WX} {b : Bool} {k n : Nat} {c x m : Str} {g : List D → C} {e o : Expr} {es : List Expr} {p pos apos : Pos} {ro : Bool}
def outMkO : C → O D
  | .ok .non (some d :: _) => .ok d
  | .exc c d _ => .exc c d
  | _ => .bad
def gMkO (c : Str) (n : Nat) (g : List D → C) (ds : List D) : O D := if ds.length + 1 = n then outMkO (g (.ins c [] :: ds)) else .bad
theorem gMkO_gMk {ds : List D} {env : Env} : gMk c n g ds env = (gMkO c n g ds).at env := by
  unfold gMk gMkO
  split
  · unfold outMk outMkO
    cases g (.ins c [] :: ds) with
    | bad => rfl
    | exc _ _ _ => rfl
    | ok d o =>
      cases d <;> try rfl
      cases o with
      | nil => rfl
      | cons o0 os => cases o0 <;> rfl
  · rfl
theorem spC_makeP {K : PySem.W.Frag} {H : Hp} {Z : AS} {σ : L2.St} {vs : List V} {ds : List D} {a dx : Addr} {Q : VK} (nt : Nt H Z) (rp : RpL K (vis H Z) vs ds) (ha : H a = none) (hdx : H dx = none) (ne : dx ≠ a) (hp : Po K W Z H σ (rpZ K Z) Q (gMkO c n g ds)) :
    spC K n [0] false g (.ref a :: vs) (upd (upd H dx (.own a)) a (.ins (He.ga K c) dx [])) (fun v H2 => v = .non ∧ Q (.ref a) H2) (fun cls d H' => W cls d σ H') := by
  refine spC_make (M := []) (σ := []) (env := []) (U := Z) (S := fun _ _ => False) (rel_none nt) (by rw [zo_none]; exact rp) ha hdx ne (fun d hgd H' T ex rl ow nu tf => ?_) (fun c' d hgd dx' v H' ex x1 x2 x3 => ?_) fun hb => ?_
  · rw [gMkO_gMk] at hgd
    cases hg : gMkO c n g ds with
    | ok d' =>
      rw [hg] at hgd hp
      cases hgd
      exact hp _ H' ex (ow.vis (nt.new ex) fun b hb hz => (nt b hz).1 (tf b hb))
    | exc _ _ => rw [hg] at hgd; cases hgd
    | bad => rw [hg] at hgd; cases hgd
  · rw [gMkO_gMk] at hgd
    rw [zo_none] at x2 x3
    cases hg : gMkO c n g ds with
    | ok d' => rw [hg] at hgd; cases hgd
    | exc c2 d2 =>
      rw [hg] at hgd hp
      cases hgd
      exact hp dx' v H' ex x2 x1 x3
    | bad => rw [hg] at hgd; cases hgd
  · rw [gMkO_gMk] at hb
    cases hg : gMkO c n g ds with
    | ok d' => rw [hg] at hb; cases hb
    | exc _ _ => rw [hg] at hb; cases hb
    | bad => rw [hg] at hp; exact hp.elim
theorem sp_make {Fs : List (Env → O D)} (G : Gd X W (k + 1)) (fl : Flat W) (mk : MkrX X k c n g) (hg : Gl X c) (h : SPs X M W b (e :: es) Fs) (hs : noStar (e :: es) = true := by rfl) (hdb : (c == ("__debug__" : Str)) = false := by decide) :
    SP X M W b (.Call (.Name c p) (e :: es) [] pos) (nd (gMkO c n g) Fs) := by
  obtain ⟨f, fd, ps, h1, h2, h3, h4, h5⟩ := mk.ex
  obtain ⟨E0, hE⟩ := fl
  obtain ⟨ts, pes, qs⟩ := sps_run h
  obtain ⟨t, pa, q⟩ := pa_of pes hs
  obtain ⟨n1, n2⟩ := noStar_head hs X.env
  refine ⟨_, pe_make h2 h4 G.room hg h1 h5 .nil (passes_call (E := E0) G.takes fun cls d σ H hh => by rw [hE]; exact hh) pa hdb n1 (noStar_plain n2 pos X.env), fun σ H env U S r Q hp => q σ H _ (qs σ H env U S r _ ?_)⟩
  have hp' : Po X.K W (zb b U S) H σ (rpZ X.K (zb b U S)) Q ((seqF Fs env).bind (gMkO c n g)) := hp
  refine Po.step hp' fun ds vs H1 hF e1 r1 h1 => ?_
  intro a dx ha hdx ne
  rw [List.append_nil]
  have := spC_makeP (W := W) (σ := σ) (Q := Q) ((r.ntb b).new e1) r1 ha hdx ne h1
  rw [hE] at this
  exact this
/-! keywords, all of them -/
def permL {α : Type} (pi : List Nat) (ws : List α) : List α := pi.filterMap fun i => ws[i]?
/-- keywords as they are written -/
inductive SKs (X : Cx) (M : List Nat) (W : WX) (b : Bool) : List Keyword → List (Env → O D) → Prop
  | nil : SKs X M W b [] []
  | cons {nm : Option Str} {kp : Pos} {e : Expr} {ks : List Keyword} {F : Env → O D} {Fs : List (Env → O D)} : SP X M W b e F → SKs X M W b ks Fs → SKs X M W b (⟨nm, e, kp⟩ :: ks) (F :: Fs)
theorem sks_run {ks : List Keyword} {Fs : List (Env → O D)} (h : SKs X M W b ks Fs) : ∃ t, PK X ks t ∧ ∀ σ H env U S, Rel X.K M U S H σ env → ∀ (k : List V → Hp → Prop),
    Po X.K W (zb b U S) H σ (rlZ X.K (zb b U S)) k (seqF Fs env) → t σ H k := by
  induction h with
  | nil => exact ⟨_, pk_nil, fun σ H env U S r k h => h [] H (Ex.refl H) .nil⟩
  | @cons nm kp e ks F Fs h1 _ ih =>
    obtain ⟨t, p, q⟩ := h1
    obtain ⟨ts, ps, qs⟩ := ih
    refine ⟨_, pk_cons p ps, fun σ H env U S r k h => ?_⟩
    unfold seqF at h
    refine q σ H env U S r _ (Po.step h fun d v H1 hF e1 r1 h1 => ?_)
    refine qs σ H1 env U S (r.mono e1) _ (Po.step h1 fun ds vs H2 hFs e2 r2 h2 => ?_)
    exact h2 (v :: vs) H2 (Ex.refl H2) (.cons (r1.mono (vis_mono e2)) r2)
theorem perm_rp {K : PySem.W.Frag} {H : Hp} {vs : List V} {ds : List D} (r : RpL K H vs ds) : ∀ pi : List Nat, RpL K H (permL pi vs) (permL pi ds)
  | [] => .nil
  | i :: pi => by
    unfold permL
    rw [List.filterMap_cons, List.filterMap_cons]
    cases hv : vs[i]? with
    | none =>
      have : ds[i]? = none := by
        rw [List.getElem?_eq_none_iff] at hv ⊢
        rw [← r.length]; exact hv
      rw [this]
      exact perm_rp r pi
    | some v =>
      obtain ⟨d, h1, h2⟩ := r.get' hv
      rw [h1]
      exact .cons h2 (perm_rp r pi)
/-- a def, called by its parameters' names alone: the p-th parameter's value is the keyword pi[p] -/
structure CalK (P : Program) (w : World) (K : PySem.W.Frag) (mg : Str → Option Value) (base : Heap) (k : Nat) (x : Str) (ks : List Str) (pi : List Nat) (ro : Bool) (g : List D → C) : Prop where
  ex : ∃ (f : Addr) (fd : FuncData) (ps : List Str), mg x = some (.ref f) ∧ PySem.W.keepIn K (.ref f) = true ∧ FnOk P w K mg base (L2.CX P w) k f fd ps (spC K pi.length [] ro g) ∧ KBn K fd ps 0 ks (fun _ ws => permL pi ws) (fun _ zs => permL pi zs)
abbrev CalKX (X : Cx) := CalK X.prog X.w X.K X.mg X.base
def gCallK (m : Nat) (pi : List Nat) (g : List D → C) (ds : List D) : O D := if ds.length = m ∧ (permL pi ds).length = pi.length then ofC (g (permL pi ds)) else .bad
def tCallN0 (m : Nat) (sp : Sp) (gV : List V → List V → List V) (E : XK) (tk : TA) : TE := fun σ H Q => tk σ H fun zs H2 => zs.length = m ∧ sp (gV [] zs) H2 Q E
theorem pe_callN0 {CX : CXT} {f : Addr} {fd : FuncData} {ps ks : List Str} {sp : Sp} {E : XK} {kws : List Keyword} {tk : TA} {g : List Value → List Value → List Value} {gV : List V → List V → List V} (F : FnOk X.prog X.w X.K X.mg X.base CX k f fd ps sp) (hr : Room k X.A) (hg : Gl X x) (hm : X.mg x = some (.ref f)) (hk : PySem.W.keepIn X.K (.ref f) = true) (hb : KBn X.K fd ps 0 ks g gV) (hx : Passes CX X E)
    (hkw : PK X kws tk) (hall : (backToKw pos (keywordEach kws X.env)).all (·.1.isSome) = true := by rfl) (hks : (backToKw pos (keywordEach kws X.env)).filterMap (·.1) = ks := by rfl)
    (hdb : (x == ("__debug__" : Str)) = false := by decide) (hpl : ((backTo pos (starEach [] X.env)).any (·.1) || (backToKw pos (keywordEach kws X.env)).any (·.1.isNone)) = false := by rfl) :
    PE X (.Call (.Name x p) [] kws pos) (tCallN0 ks.length sp gV E tk) := by
  refine ⟨fun pins s σ H Q I h => ?_⟩
  refine wpAny_Call_Name_kw (ld_glob I hg hm ?_ hdb)
  refine PySem.W.callWith_KW0 (h₀ := X.base) I.ok.mod.kin hk hall ?_ hpl
  refine thn (hkw.run pos pins s σ H _ I h) fun ws s2 ⟨zs, H2, I2, rz, l2, q2⟩ => ⟨I2.kIn, ?_⟩
  rw [hks]
  exact run_fnN (us := []) (vs := []) F hr hb hx I2 .nil rz rfl l2 q2
theorem sp_callK {ks : List Str} {pi : List Nat} {kws : List Keyword} {Fs : List (Env → O D)} (G : Gd X W k) (fl : Flat W) (cl : CalKX X k x ks pi ro g) (hg : Gl X x) (h : SKs X M W b kws Fs) (hall : (backToKw pos (keywordEach kws X.env)).all (·.1.isSome) = true := by rfl) (hks : (backToKw pos (keywordEach kws X.env)).filterMap (·.1) = ks := by rfl)
    (hdb : (x == ("__debug__" : Str)) = false := by decide) (hpl : ((backTo pos (starEach [] X.env)).any (·.1) || (backToKw pos (keywordEach kws X.env)).any (·.1.isNone)) = false := by rfl) :
    SP X M W b (.Call (.Name x p) [] kws pos) (nd (gCallK ks.length pi g) Fs) := by
  obtain ⟨f, fd, ps, h1, h2, h3, h4⟩ := cl.ex
  obtain ⟨E0, hE⟩ := fl
  obtain ⟨t, pk, q⟩ := sks_run h
  refine ⟨_, pe_callN0 h3 G.room hg h1 h2 h4 (passes_call (E := E0) G.takes fun cls d σ H hh => by rw [hE]; exact hh) pk hall hks hdb hpl, fun σ H env U S r Q hp => q σ H env U S r _ ?_⟩
  have hp' : Po X.K W (zb b U S) H σ (rpZ X.K (zb b U S)) Q ((seqF Fs env).bind (gCallK ks.length pi g)) := hp
  refine Po.step hp' fun ds vs H1 hF e1 r1 hq => ?_
  unfold gCallK at hq
  by_cases hc : ds.length = ks.length ∧ (permL pi ds).length = pi.length
  · rw [if_pos hc] at hq
    refine ⟨by rw [r1.length]; exact hc.1, ?_⟩
    have := spC_pure (W := W) (ro := ro) (g := g) (σ := σ) (Q := Q) (N := pi.length) (dds := []) (dvs := []) (fun _ => .nil) ((r.ntb b).new e1) (perm_rp r1 pi) (by simpa using hc.2) (by rw [List.append_nil]; exact hq)
    rw [List.append_nil, hE] at this
    exact this
  · rw [if_neg hc] at hq; exact hq.elim
/-- a method, called by its parameters' names alone; self is the first -/
structure MthK (P : Program) (w : World) (K : PySem.W.Frag) (mg : Str → Option Value) (base : Heap) (k : Nat) (c m : Str) (ks : List Str) (pi : List Nat) (ro : Bool) (g : List D → C) : Prop where
  ex : ∃ (f : Addr) (fd : FuncData) (ps : List Str), Cls K (He.ga K c) ∧ Meth K (He.ga K c) m f ∧ FnOk P w K mg base (L2.CX P w) k f fd ps (spC K (pi.length + 1) [] ro g) ∧ KBn K fd ps 1 ks (fun us ws => us ++ permL pi ws) (fun vs zs => vs ++ permL pi zs)
abbrev MthKX (X : Cx) := MthK X.prog X.w X.K X.mg X.base
def tMethK (C : Addr) (m : Str) (n : Nat) (sp : Sp) (gV : List V → List V → List V) (E : XK) (ta : TE) (tk : TA) : TE := fun σ H Q => ta σ H fun x H1 => ∃ a dx fs, x = .ref a ∧ H1 a = some (.ins C dx fs) ∧ fs.lookup m = none ∧ tk σ H1 fun zs H2 => zs.length = n ∧ sp (gV [.ref a] zs) H2 Q E
theorem pe_methK {CX : CXT} {C f : Addr} {fd : FuncData} {ps ks : List Str} {sp : Sp} {E : XK} {kws : List Keyword} {ta : TE} {tk : TA} {g : List Value → List Value → List Value} {gV : List V → List V → List V} {pl : Sem Bool} (he : PE X o ta) (c : Cls X.K C) (hm : Meth X.K C m f) (F : FnOk X.prog X.w X.K X.mg X.base CX k f fd ps sp) (hr : Room k X.A) (hb : KBn X.K fd ps 1 ks g gV) (hx : Passes CX X E)
    (hkw : PK X kws tk) (hall : (backToKw pos (keywordEach kws X.env)).all (·.1.isSome) = true := by rfl) (hks : (backToKw pos (keywordEach kws X.env)).filterMap (·.1) = ks := by rfl) (hpl : ((backTo pos (starEach [] X.env)).any (·.1) || (backToKw pos (keywordEach kws X.env)).any (·.1.isNone)) = false := by rfl)
    (ht : eval (.Call (.Attribute o m apos) [] kws pos) X.env = (do
      let ov ← eval o X.env
      standAt apos.atName
      let (f, first) ← holding [ov] (getMethod ov m pl)
      callWith pos f first (backTo pos (starEach [] X.env)) (backToKw pos (keywordEach kws X.env))) := by rfl) :
    PE X (.Call (.Attribute o m apos) [] kws pos) (tMethK C m ks.length sp gV E ta tk) := by
  refine ⟨fun pins s σ H Q I h => ?_⟩
  refine PySem.W.methodCall_KW (pl := pl) (thn (he.run pins s σ H _ I h) fun u s1 ⟨x, H1, I1, rx, a, dx, fs, ex, ea, l, q⟩ => ?_) ht
  subst ex
  obtain rfl : u = Value.ref a := rx
  refine getmeth_ok I1 ea c hm l ?_
  refine PySem.W.callWith_KW0 (first := [.ref a]) (h₀ := X.base) I.ok.mod.kin hm.kp hall ?_ hpl
  refine thn (hkw.run pos pins s1 σ H1 _ I1 q) fun ws s2 ⟨zs, H2, I2, rz, l2, q2⟩ => ⟨I2.kIn, ?_⟩
  rw [hks]
  exact run_fnN (us := [.ref a]) (vs := [.ref a]) F hr hb hx I2 (.cons rfl .nil) rz rfl l2 q2
def eMethK (c m : Str) (n : Nat) (pi : List Nat) (g : List D → C) (S : Env → O D) (Fs : List (Env → O D)) : Env → O D := fun env => (S env).bind fun s => if hasF c m s then (seqF Fs env).bind fun ds => if ds.length = n ∧ (permL pi ds).length = pi.length then ofC (g (s :: permL pi ds)) else .bad else .bad
theorem sp_methK {pl : Sem Bool} {ks : List Str} {pi : List Nat} {kws : List Keyword} {S : Env → O D} {Fs : List (Env → O D)} (G : Gd X W k) (fl : Flat W) (mt : MthKX X k c m ks pi ro g) (ho : SP X M W b o S) (h : SKs X M W b kws Fs) (hall : (backToKw pos (keywordEach kws X.env)).all (·.1.isSome) = true := by rfl) (hks : (backToKw pos (keywordEach kws X.env)).filterMap (·.1) = ks := by rfl) (hpl : ((backTo pos (starEach [] X.env)).any (·.1) || (backToKw pos (keywordEach kws X.env)).any (·.1.isNone)) = false := by rfl)
    (ht : eval (.Call (.Attribute o m apos) [] kws pos) X.env = (do
      let ov ← eval o X.env
      standAt apos.atName
      let (f, first) ← holding [ov] (getMethod ov m pl)
      callWith pos f first (backTo pos (starEach [] X.env)) (backToKw pos (keywordEach kws X.env))) := by rfl) :
    SP X M W b (.Call (.Attribute o m apos) [] kws pos) (eMethK c m ks.length pi g S Fs) := by
  obtain ⟨f, fd, ps, h1, h2, h4, h5⟩ := mt.ex
  obtain ⟨E0, hE⟩ := fl
  obtain ⟨to, po, qo⟩ := ho
  obtain ⟨t, pk, q⟩ := sks_run h
  refine ⟨_, pe_methK (pl := pl) po h1 h2 h4 G.room h5 (passes_call (E := E0) G.takes fun cls d σ H hh => by rw [hE]; exact hh) pk hall hks hpl ht, fun σ H env U S' r Q hp => qo σ H env U S' r _ ?_⟩
  unfold eMethK at hp
  refine Po.step hp fun s x H1 _ e1 r1 hq => ?_
  cases hf : hasF c m s with
  | false => rw [hf] at hq; exact (show False by simpa [Po] using hq).elim
  | true =>
    rw [hf] at hq
    simp only [if_true] at hq
    obtain ⟨a, dx, fs, rfl, ha, hl⟩ := hasF_ins r1 hf
    refine ⟨a, dx, fs, rfl, of_some_vis ha, hl, q σ H1 env U S' (r.mono e1) _ (Po.step hq fun ds vs H2 _ e2 r2 h2 => ?_)⟩
    by_cases hc : ds.length = ks.length ∧ (permL pi ds).length = pi.length
    · rw [if_pos hc] at h2
      refine ⟨by rw [r2.length]; exact hc.1, ?_⟩
      have := spC_pure (W := W) (ro := ro) (g := g) (σ := σ) (Q := Q) (N := pi.length + 1) (dds := []) (dvs := []) (ds := s :: permL pi ds) (vs := .ref a :: permL pi vs) (fun _ => .nil) (((r.ntb b).new e1).new e2) (.cons (r1.mono (vis_mono e2)) (perm_rp r2 pi)) (by simp [hc.2]) (by rw [List.append_nil]; exact h2)
      rw [List.append_nil, hE] at this
      exact this
    · rw [if_neg hc] at h2; exact h2.elim
/-- C(k = v, ..), all by name -/
structure MkrK (P : Program) (w : World) (K : PySem.W.Frag) (mg : Str → Option Value) (base : Heap) (k : Nat) (c : Str) (ks : List Str) (pi : List Nat) (g : List D → C) : Prop where
  ex : ∃ (f : Addr) (fd : FuncData) (ps : List Str), mg c = some (.ref (He.ga K c)) ∧ Mk K (He.ga K c) f ∧ FnOk P w K mg base (L2.CX P w) k f fd ps (spC K (pi.length + 1) [0] false g) ∧ KBn K fd ps 1 ks (fun us ws => us ++ permL pi ws) (fun vs zs => vs ++ permL pi zs)
abbrev MkrKX (X : Cx) := MkrK X.prog X.w X.K X.mg X.base
def gMkK (c : Str) (m : Nat) (pi : List Nat) (g : List D → C) (ds : List D) : O D := if ds.length = m then gMkO c (pi.length + 1) g (permL pi ds) else .bad
theorem sp_makeK {ks : List Str} {pi : List Nat} {kws : List Keyword} {Fs : List (Env → O D)} (G : Gd X W (k + 1)) (fl : Flat W) (mk : MkrKX X k c ks pi g) (hg : Gl X c) (h : SKs X M W b kws Fs) (hall : (backToKw pos (keywordEach kws X.env)).all (·.1.isSome) = true := by rfl) (hks : (backToKw pos (keywordEach kws X.env)).filterMap (·.1) = ks := by rfl) (hdb : (c == ("__debug__" : Str)) = false := by decide) (hpl : ((backTo pos (starEach [] X.env)).any (·.1) || (backToKw pos (keywordEach kws X.env)).any (·.1.isNone)) = false := by rfl) :
    SP X M W b (.Call (.Name c p) [] kws pos) (nd (gMkK c ks.length pi g) Fs) := by
  obtain ⟨f, fd, ps, h1, h2, h4, h5⟩ := mk.ex
  obtain ⟨E0, hE⟩ := fl
  obtain ⟨t, pk, q⟩ := sks_run h
  refine ⟨_, pe_makeK0 h2 h4 G.room hg h1 h5 (passes_call (E := E0) G.takes fun cls d σ H hh => by rw [hE]; exact hh) pk hall hks hdb hpl, fun σ H env U S r Q hp => ?_⟩
  refine q σ H env U S r _ ?_
  have hp' : Po X.K W (zb b U S) H σ (rpZ X.K (zb b U S)) Q ((seqF Fs env).bind (gMkK c ks.length pi g)) := hp
  refine Po.step hp' fun ds vs H1 hF e1 r1 hq => ?_
  unfold gMkK at hq
  by_cases hc : ds.length = ks.length
  · rw [if_pos hc] at hq
    refine ⟨rfl, by rw [r1.length]; exact hc, fun a dx ha hdx ne => ?_⟩
    have := spC_makeP (W := W) (σ := σ) (Q := Q) ((r.ntb b).new e1) (perm_rp r1 pi) ha hdx ne hq
    rw [hE] at this
    exact this
  · rw [if_neg hc] at hq; exact hq.elim
end
/-! isinstance(x, C), C a class of the text, x one of its instances -/
section
variable {X : Cx} {M : List Nat} {W : WX} {b : Bool} {c : Str} {e : Expr} {F : Env → O D} {p pn pos : Pos}
theorem sp_isiC (ty : ∀ H a dx fs, H a = some (.ins (He.ga X.K c) dx fs) → TyOf X.K H (.ref a) (.ref (He.ga X.K c))) (hg : Gl X "isinstance") (hm : X.mg "isinstance" = none) (hgC : Gl X c) (hmC : X.mg c = some (.ref (He.ga X.K c))) (h : SP X M W b e F) (hs : noStar [e] = true := by rfl) (hd : (c == ("__debug__" : Str)) = false := by decide) :
    SP X M W b (.Call (.Name "isinstance" p) [e, .Name c pn] [] pos) (nd (g1 (fIsiC c)) [F]) := by
  obtain ⟨t, pp, q⟩ := h
  obtain ⟨n1, n2⟩ := noStar_head (es := [.Name c pn]) (e := e) (by cases e <;> first | rfl | (simp [noStar] at hs)) X.env
  refine ⟨_, pe_callB call_isi hg hm (by decide +kernel) (pa_cons pp (pa_cons (pe_glob (v := .ref (He.ga X.K c)) hgC hmC rfl hd) pa_nil) n1) (by decide) (by decide) n1 rfl, fun σ H env U S r Q hp => q σ H env U S r _ ?_⟩
  have hp' : Po X.K W (zb b U S) H σ (rpZ X.K (zb b U S)) Q ((F env).bind fun d => fIsiC c d) := by
    have : nd (g1 (fIsiC c)) [F] env = (F env).bind fun d => fIsiC c d := by
      unfold nd seqF seqF
      cases F env <;> rfl
    rw [← this]
    exact hp
  refine Po.step hp' fun d v H1 _ e1 r1 h1 => ?_
  cases r1 with
  | @ins a dx c' fs ds ha hk rr =>
    simp only [fIsiC] at h1
    by_cases hc : c' = c
    · subst hc
      rw [if_pos rfl] at h1
      exact ⟨.ref a, .ref (He.ga X.K c'), _, _, true, rfl, .own _, .base (ty H1 a dx fs (of_some_vis ha)), by simp [PySem.W.kitOne], h1 _ H1 (Ex.refl H1) (.bl true)⟩
    · rw [if_neg hc] at h1; exact h1.elim
  | _ => exact h1.elim
end
end Rf

namespace Rf
open PySem PySem.Spec PyProof.Rows L2

/-! pure, new and owned -/
abbrev noZ (K : PySem.W.Frag) (H0 : Hp) : Hp → V → D → Prop := fun H v d => ∃ T : AS, Ow K H v d T ∧ ∀ a, T a → H0 a = none
def SPN (X : Cx) (M : List Nat) (W : WX) (b : Bool) (e : Expr) (F : Env → O D) : Prop :=
  ∃ t : TE, PE X e t ∧ ∀ σ H env U S, Rel X.K M U S H σ env → ∀ Q, Po X.K W (zb b U S) H σ (noZ X.K H) Q (F env) → t σ H Q
section
variable {X : Cx} {M : List Nat} {W : WX} {b : Bool} {k m : Nat} {x : Str} {dds : List D} {g : List D → C} {p pos : Pos} {e : Expr} {es : List Expr} {F : Env → O D}
theorem SPN.sp (h : SPN X M W b e F) : SP X M W b e F := by
  obtain ⟨t, p, q⟩ := h
  refine ⟨t, p, fun σ H env U S r Q hp => q σ H env U S r Q ?_⟩
  cases hF : F env with
  | ok d =>
    rw [hF] at hp
    rintro v H' ex ⟨T, ow, tf⟩
    exact hp v H' ex (ow.vis ((r.ntb b).new ex) fun a ta z => ((r.ntb b) a z).1 (tf a ta))
  | exc c d => rw [hF] at hp; exact hp
  | bad => rw [hF] at hp; exact hp
theorem SPN.so (h : SPN X M W true e F) : SO X M W e (lift F) := by
  obtain ⟨t, p, q⟩ := h
  refine ⟨t, p, fun σ H env U S r Q hp => q σ H env U S r Q ?_⟩
  unfold lift at hp
  cases hF : F env with
  | ok d =>
    rw [hF] at hp
    rintro v H' ex ⟨T, ow, tf⟩
    exact hp v H' S T (r.post ex) (r.hide ex tf ow.nt) ow (fun a ta z => (r.nt a (.inl z)).1 (tf a ta)) fun a ta => .inr (tf a ta)
  | exc c d =>
    rw [hF] at hp
    rw [zb_true]
    exact fun dx v H' ex nz x rr => hp dx v H' S (r.post ex) x nz rr
  | bad => rw [hF] at hp; exact hp
def ownL : O (List D) → O D
  | .ok ds => if immL ds then .ok (.lst ds) else .bad
  | .exc c d => .exc c d
  | .bad => .bad
theorem SPL.spn {F : Env → O (List D)} (h : SPL X M W b e F) : SPN X M W b e (fun env => ownL (F env)) := by
  obtain ⟨t, p, q⟩ := h
  refine ⟨t, p, fun σ H env U S r Q hp => q σ H env U S r Q ?_⟩
  dsimp only at hp
  cases hF : F env with
  | ok ds =>
    rw [hF] at hp
    simp only [ownL] at hp
    cases hi : immL ds with
    | false => rw [hi] at hp; exact (show False by simpa [Po] using hp).elim
    | true =>
      rw [hi] at hp
      rintro v H' ex ⟨p', vs, rfl, hn, hl, rp⟩
      exact hp _ H' ex ⟨fun a => a = p', .lst hl (immL_ow hi (rp.mono vis_ex)) (fun z => z) (fun b => by simp), fun a e => by rw [e]; exact hn⟩
  | exc c d => rw [hF] at hp; exact hp
  | bad => rw [hF] at hp; exact hp
theorem spn_call {Fs : List (Env → O D)} (G : Gd X W k) (c : CalX X k x m [] true dds g) (hg : Gl X x) (h : SPs X M W b (e :: es) Fs) (hs : noStar (e :: es) = true := by rfl) (hdb : (x == ("__debug__" : Str)) = false := by decide) :
    SPN X M W b (.Call (.Name x p) (e :: es) [] pos) (nd (gCall m dds g) Fs) := by
  obtain ⟨dvs, hd, n⟩ := node_call (p := p) (pos := pos) G c hg hs hdb
  obtain ⟨ts, ps, qs⟩ := sps_run h
  obtain ⟨t, pp, q⟩ := n ts ps
  refine ⟨t, pp, fun σ H env U S rl Q hp => q σ H Q (qs σ H env U S rl _ ?_)⟩
  have hp' : Po X.K W (zb b U S) H σ (noZ X.K H) Q ((seqF Fs env).bind (gCall m dds g)) := hp
  refine Po.step hp' fun ds vs H1 hF e1 r1 h1 => ?_
  unfold gCall at h1
  by_cases hm : ds.length = m
  · rw [if_pos hm] at h1
    have n1 := (rl.ntb b).new e1
    have rp' := r1.append (hd (vis H1 (zb b U S)))
    have hl := rp'.length
    refine ⟨by rw [hl, List.length_append, hm], ds ++ dds, zb b U S, fun _ _ => False, by rw [List.length_append, hm], rel_pure n1 rp', ?_⟩
    cases hgg : g (ds ++ dds) with
    | ok d o =>
      rw [hgg] at h1
      intro v H' S' po res
      have ex : Ex H1 H' := fun a o h => po.keep a o h fun _ f => f
      obtain ⟨T, ow, nz, gr⟩ := res
      refine h1 v H' ex ⟨T, ow, fun a ta => ?_⟩
      rcases gr a ta with ⟨_, f⟩ | w
      · exact f.elim
      · exact fresh_back e1 w
    | exc c d o =>
      rw [hgg] at h1
      intro dx v H' S' po x1 x2 x3
      have ex : Ex H1 H' := fun a o h => po.keep a o h fun _ f => f
      exact h1 dx v H' ex (fun z => x2 (.inl z)) x1 (x3.mono (vis_sub fun a z => .inl z))
    | bad => rw [hgg] at h1; exact h1.elim
  · rw [if_neg hm] at h1; exact h1.elim
/-- f(e), f changes what it is handed, e makes it -/
def eCallT (g : List D → C) (F : Env → O D) : Env → O D := fun env => (F env).bind fun d => ofC (g [d])
open Classical in
theorem sp_callT (G : Gd X W k) (c : CalX X k x 1 [0] false [] g) (hg : Gl X x) (h : SPN X M W b e F) (hs : noStar [e] = true := by rfl) (hdb : (x == ("__debug__" : Str)) = false := by decide) :
    SP X M W b (.Call (.Name x p) [e] [] pos) (eCallT g F) := by
  obtain ⟨f, fd, ps, dvs, dsV, h1, h2, h3, h4, h5, h6, h7⟩ := c.ex
  have hdv : dvs = [] := by
    have := (h7 (fun _ => none)).length
    simpa using this
  subst hdv
  obtain ⟨t, pe, q⟩ := h
  obtain ⟨n1, n2⟩ := noStar_head hs X.env
  refine ⟨_, pe_callSD h4 G.room hg h1 h2 h5 h6 (fun σ => passAt G.takes σ) (pa_cons pe pa_nil n1) hdb n1 (noStar_plain n2 pos X.env), fun σ H env U S r Q hp => q σ H env U S r _ ?_⟩
  unfold eCallT at hp
  refine Po.step hp fun d v H1 hF e1 ho hq => ?_
  obtain ⟨T, ow, tf⟩ := ho
  have n1 := (r.ntb b).new e1
  have rel0 : Rel X.K [0] (zb b U S) (fun j => if j = 0 then T else fun _ => False) H1 [some v] [some d] := by
    refine ⟨fun j d' hj he => ?_, fun j d' hj he => ?_, fun j j' a ne q1 q2 => ?_, fun j a q1 u => ?_, fun a z => ?_, rfl⟩
    · have : j = 0 := by simpa using hj
      subst this
      simp at he
      subst he
      exact ⟨v, rfl, by simpa using ow⟩
    · cases j with
      | zero => simp at hj
      | succ j => simp at he
    · by_cases hj : j = 0
      · by_cases hj' : j' = 0
        · exact ne (hj.trans hj'.symm)
        · simp only [hj', if_false] at q2
      · simp only [hj, if_false] at q1
    · by_cases hj : j = 0
      · simp only [hj, if_true] at q1
        exact ((r.ntb b) a u).1 (tf a q1)
      · simp only [hj, if_false] at q1
    · rcases z with z | ⟨j, z⟩
      · exact n1 a z
      · by_cases hj : j = 0
        · simp only [hj, if_true] at z; exact ow.nt a z
        · simp only [hj, if_false] at z
  have key : ∀ {H' : Hp} {o : Env} {S' : Nat → AS}, Post X.K [0] (zb b U S) (fun j => if j = 0 then T else fun _ => False) H1 [some v] S' H' o → ∀ a o, H a = some o → H' a = some o := fun po a o ha => po.keep a o (e1 a o ha) fun j z => by
    by_cases hj : j = 0
    · simp only [hj, if_true] at z
      rw [tf a z] at ha; cases ha
    · simp only [hj, if_false] at z
  refine ⟨rfl, [d], zb b U S, _, rfl, rel0, ?_⟩
  cases hgg : g [d] with
  | ok d' o =>
    rw [hF] at hp
    simp only [O.bind, hgg] at hp
    intro v' H' S' po res
    exact hp v' H' (key po) (res.mono (vis_sub fun a z => .inl z))
  | exc c d' o =>
    rw [hF] at hp
    simp only [O.bind, hgg] at hp
    intro dx v' H' S' po x1 x2 x3
    exact hp dx v' H' (key po) (fun z => x2 (.inl z)) x1 (x3.mono (vis_sub fun a z => .inl z))
  | bad => rw [hgg] at hq; exact hq.elim
end
end Rf

namespace Rf
open PySem PySem.Spec PyProof.Rows L2

/-! tuple(d.keys()) -/
section
variable {prog : Program} {w : World} {A : Around} {E : Value → Shared → Prop} {s : Shared} {T : String} {r d : Addr} {n : Nat} {P : Nat → Value → Prop} {OK : Heap → Prop}
theorem collect_kdl {Q : List Value → Shared → Prop} (K : PySem.W.KdlSrc prog w T r d n P OK) (hh : A.handled = none) (hok : OK s.heap) (hn : n ≤ sizeLine)
    (hQ : ∀ (h' : Heap) (tk : Nat) (acc : Array Value), (∀ b o, s.heap.get? b = some o → h'.get? b = some o) → ItemsOf P acc n → Q acc.toList { s with heap := h', toks := tk }) :
    wpAny (model prog w) A (collect (.ref r)) Q E s := by
  have ht := K.there _ hok
  unfold collect
  refine wpAny_bind (wpAny_runValue (codeAny_builtin F.entry_proto_collect ?_))
  rw [Around.under_plainId F.plain_proto_collect _]
  show wpAny _ A.in1 (newList [] >>= fun l => again (.builtin "list.__iadd__" ⟨[l, .ref r], []⟩)) _ _ s
  refine wpAny_bind (wpAny_newObj_type ?_)
  refine wpAny_pure ⟨plainId_quiet F.plain_list_iadd _, codeAny_builtin F.entry_list_iadd ?_⟩
  rw [Around.under_plainId F.plain_list_iadd _]
  show wpAny _ A.in1 (Builtin.List.listExtendWith (.ref s.heap.objs.size) (.ref r) (.ref s.heap.objs.size)) _ _ _
  have hS : (s.heap.push { cls := .type "list", data := .seq ([] : List Value).toArray }).get? s.heap.objs.size = some { cls := .type "list", data := .seq #[] 0 } := Heap.get?_push_size _ rfl
  have hok2 : OK (s.heap.push { cls := .type "list", data := .seq ([] : List Value).toArray }) := K.keep _ _ hok fun b _ o e => Heap.get?_push_of_some _ e
  refine wpAny_mono (PySem.W.kdl_extend (A := A) (R := fun rr s' => rr = .ok (.ret (.ref s.heap.objs.size)) ∧ ∃ (h' : Heap) (tk : Nat) (acc : Array Value) (c' : Nat), s' = { s with heap := h', toks := tk } ∧
      (∀ b o, s.heap.get? b = some o → h'.get? b = some o) ∧ h'.get? s.heap.objs.size = some { cls := .type "list", dict := none, data := .seq acc c', slots := #[] } ∧ ItemsOf P acc n)
    (s := { s with heap := s.heap.push { cls := .type "list", data := .seq ([] : List Value).toArray } }) K hh hok2 s.heap.objs.size (Nat.ne_of_gt ht.1) (Nat.ne_of_gt ht.2) _ 0 hS
    (fun h' tk acc c' hk e hi => ⟨rfl, h', tk, acc, c', rfl, fun b o q => hk b o (Nat.ne_of_lt (Heap.lt_size q)) (Heap.get?_push_of_some _ q), e, hi⟩) hn) (fun fin s' h => ?_) (fun e s' h => ?_)
  · cases fin with
    | done f =>
      obtain ⟨e, h', tk, acc, c', rfl, hk, hS', hi⟩ := h
      cases e
      show wpAny _ A (load s.heap.objs.size >>= _) _ _ _
      exact wpAny_bind (wpAny_load hS' (wpAny_pure (hQ h' tk acc hk hi)))
    | again c' =>
      refine ⟨h.1, codeAny_mono h.2 fun rr s'' hr' => ?_⟩
      obtain ⟨rfl, h', tk, acc, c', rfl, hk, hS', hi⟩ := hr'
      show wpAny _ A (load s.heap.objs.size >>= _) _ _ _
      exact wpAny_bind (wpAny_load hS' (wpAny_pure (hQ h' tk acc hk hi)))
  · exact absurd h.1 (by simp)
theorem code_tuple_kdl {Q₁ : Value → Shared → Prop} (K : PySem.W.KdlSrc prog w T r d n P OK) (hh : A.handled = none) (hok : OK s.heap) (hn : n ≤ sizeLine)
    (h : ∀ (h' : Heap) (tk : Nat) (acc : Array Value), (∀ b o, s.heap.get? b = some o → h'.get? b = some o) → ItemsOf P acc n →
      Q₁ (.ref h'.objs.size) { s with heap := h'.push { cls := .type "tuple", data := .seq acc }, toks := tk }) :
    codeAny (model prog w) A (.call (.builtin "tuple.__new__") ⟨[.type "tuple", .ref r], []⟩) (wants Q₁ E) s := by
  refine codeAny_of_tree ?_
  show wpAny _ A.in1 (do checkBuiltinCall "tuple.__new__" ⟨[.type "tuple", .ref r], []⟩; again (.builtin "tuple.__new__" ⟨[.type "tuple", .ref r], []⟩)) _ _ s
  refine wpAny_bind (wpAny_of_eq (F.newCall_tuple_1 _) (wpAny_pure ⟨plainId_quiet F.plain_tuple_new _, codeAny_builtin F.entry_tuple_new ?_⟩))
  rw [Around.under_plainId F.plain_tuple_new _]
  have hsub := sub_tuple_self
  have hinit := init_tuple_lookup
  have hmh := madeHere_tuple
  have hTI : s.TypeIs (.ref r) T := K.type s hok
  have hh1 : A.in1.handled = none := hh
  have hnt := K.notTuple
  wp_walk using wpAny_typeOf hTI, collect_kdl (A := A.in1) K hh1 hok hn
  intro h' tk acc hk hacc
  show wpAny _ _ (Builtin.Tuple.tupleExact acc.toList.toArray >>= fun v => ret v) _ _ _
  unfold Builtin.Tuple.tupleExact
  refine wpAny_bind (wpAny_newObj_type ?_ (by show acc.toList.toArray.size ≤ sizeLine; simp only [Array.toArray_toList]; rw [hacc.1]; exact hn))
  refine wpAny_pure ?_
  have e : acc.toList.toArray = acc := by simp
  rw [e]
  exact h h' tk acc hk hacc
theorem call_tuple_kdl {Q : Value → Shared → Prop} (K : PySem.W.KdlSrc prog w T r d n P OK) (hh : A.handled = none) (hok : OK s.heap) (hn : n ≤ sizeLine)
    (hQ : ∀ (h' : Heap) (tk : Nat) (acc : Array Value), (∀ b o, s.heap.get? b = some o → h'.get? b = some o) → ItemsOf P acc n →
      Q (.ref h'.objs.size) { s with heap := h'.push { cls := .type "tuple", data := .seq acc }, toks := tk }) :
    wpAny (model prog w) A (call (.type "tuple") [.ref r]) Q E s := by
  refine callType_codes (Q₁ := fun obj s₁ => s₁.TypeIs obj "tuple" ∧ Q obj s₁) F.called_tuple (F.typeCall_tuple_1 _) F.entry_object_init
    (code_tuple_kdl (A := A.in1) K hh hok hn fun h' tk acc hk hacc => ⟨⟨_, Heap.get?_push_size _ rfl, rfl⟩, hQ h' tk acc hk hacc⟩) fun obj s₁ h₁ => ?_
  exact ⟨h₁.1, F.args_object_init_2 obj _, object_init_meets F.called_tuple.init.lookup F.called_tuple.made (by decide) prog w A.in1 _ s₁ ⟨h₁.1, rfl, h₁.2⟩⟩
end

def tTupKeys (te : TE) : TE := fun σ H Q => te σ H fun x H1 => ∃ d kvs, x = .ref d ∧ Rd H1 d (.dK kvs) ∧ ∀ q, H1 q = none → Q (.ref q) (upd H1 q (.tup (kvs.map fun kv => kV kv.1)))
section
variable {X : Cx} {M : List Nat} {W : WX} {b : Bool} {e : Expr} {te : TE} {p apos cpos pos : Pos} {F : Env → O D}
theorem pe_tupKeys (hc : X.calm = true) (he : PE X e te) (hg : Gl X "tuple") (hm : X.mg "tuple" = none) (hbase : attributeBase e "keys" X.env (eval e X.env) = eval e X.env := by rfl) (hline : (apos.endLine == cpos.line) = true := by rfl)
    (hs : starEach [.Call (.Attribute e "keys" apos) [] [] cpos] X.env = (false, eval (.Call (.Attribute e "keys" apos) [] [] cpos) X.env) :: starEach [] X.env := by rfl) :
    PE X (.Call (.Name "tuple" p) [.Call (.Attribute e "keys" apos) [] [] cpos] [] pos) (tTupKeys te) := by
  refine ⟨fun pins s σ H Q I hq => ?_⟩
  refine wpAny_Call_Name_kw (ld_blt I hg hm boot_tuple ?_)
  refine PyProof.Rows.callWith_type1 ?_ hs rfl
  rw [hs]
  show wpAny _ _ (spliced ((false, eval (.Call (.Attribute e "keys" apos) [] [] cpos) X.env) :: backTo pos (starEach [] X.env))) _ _ s
  refine Calls.spliced_cons ?_
  refine wpAny_Call_method (T := "dict") (id := "dict.keys") hbase rfl hline PySem.F.plainAttrs_dict PySem.F.slot_dict_keys PySem.F.type_dict_keys (thn (he.run pins s σ H _ I hq) fun u s1 ⟨x, H1, I1, rx, d, kvs, ex, hd, q⟩ => ?_)
  subst ex
  obtain rfl : u = Value.ref d := rx
  obtain ⟨hz, hs0, vs, kv, hdo⟩ := hd.ok I1.hok
  obtain ⟨ep, hat⟩ := hdo.dictAt
  have hl : kvs.length = vs.length := Paired.length kv
  have I2 : Inv X pins σ H1 { s1 with heap := s1.heap.push { cls := .type "dict_keys", data := .fields #[.ref d] } } := I1.kept (t' := s1.toks) fun b ob q => Heap.get?_push_of_some _ q
  refine ⟨hdo.typeIs, hdo.mapOf.noDict, ?_⟩
  show wpAny _ _ (callWith cpos (.builtin "dict.keys") [.ref d] [] []) _ X.xe s1
  refine method_meetsIn PySem.F.slot_dict_keys PySem.F.entry_dict_keys rfl (PySem.evalArgs_none ⟨rfl, hdo.typeIs, PySem.F.args_dict_keys_1 _, _, PySem.W.kdl_meets_keys (mixKind X.prog X.w) d hs0, ⟨vs, hdo⟩, ?_⟩)
  refine Calls.spliced_nil ?_
  refine call_tuple_kdl (PySem.W.kdl_keys (knd := mixKind X.prog X.w) (kvs := vs) (ep := ep) (r := s1.heap.objs.size) (d := d)) (I1.ok.hd hc) ⟨⟨_, Heap.get?_push_size _ rfl, rfl, rfl⟩, hat.push _⟩ (by rw [← hl]; exact hz) fun h' tk acc hk hacc => ?_
  have hsz : s1.heap.objs.size < h'.objs.size := Heap.lt_size (hk _ _ (Heap.get?_push_size _ rfl))
  have hle : s1.heap.objs.size ≤ h'.objs.size := Nat.le_of_lt hsz
  refine ⟨.ref h'.objs.size, upd H1 h'.objs.size (.tup (kvs.map fun kv => kV kv.1)), I1.laid (t' := tk) (fun b o e => Heap.get?_push_of_some _ (hk b o (Heap.get?_push_of_some _ e))) hle ⟨?_, acc.toList, ?_, ⟨_, Heap.get?_push_size _ rfl, rfl, 0, by simp⟩⟩, rfl, q _ (I1.hok.fresh hle)⟩
  · rw [List.length_map]; exact hz
  · have el : acc.toList.length = acc.size := by simp
    refine vals_of_at (by rw [List.length_map, el, hacc.1, hl]) fun j x w h1 h2 => ?_
    obtain ⟨k, y, hky, hi⟩ := hacc.2 j w (by rw [← Array.getElem?_toList]; exact h2)
    have e1 : (kvs.map (·.1))[j]? = some k := by
      rw [KV.keys kv, List.getElem?_map, hky] <;> rfl
    have e2 : (kvs.map fun kv => kV kv.1)[j]? = some (kV k) := by
      have e3 : (kvs.map fun kv => kV kv.1) = (kvs.map (·.1)).map kV := by rw [List.map_map] <;> rfl
      rw [e3, List.getElem?_map, e1] <;> rfl
    rw [e2] at h1
    cases h1
    exact keyIs_rel hi
def kD : Key → D
  | .inl i => .int i
  | .inr z => .str z
def fKeys : D → O D
  | .dic ds => .ok (.tup (ds.map fun kv => kD kv.1))
  | _ => .bad
theorem keys_rp {K : PySem.W.Frag} {H : Hp} : ∀ {kvs : List (Key × V)} {ds : List (Key × D)}, kvs.map (·.1) = ds.map (·.1) → RpL K H (kvs.map fun kv => kV kv.1) (ds.map fun kv => kD kv.1)
  | [], [], _ => .nil
  | [], _ :: _, h => by simp at h
  | _ :: _, [], h => by simp at h
  | (a, v) :: kvs, (c, d) :: ds, h => by
    simp only [List.map_cons, List.cons.injEq] at h
    obtain ⟨rfl, h⟩ := h
    refine .cons ?_ (keys_rp h)
    cases a
    · exact .int _
    · exact .str _
theorem sp_tupKeys {k : Nat} (gd : Gd X W k) (h : SP X M W b e F) (hg : Gl X "tuple") (hm : X.mg "tuple" = none) (hbase : attributeBase e "keys" X.env (eval e X.env) = eval e X.env := by rfl) (hline : (apos.endLine == cpos.line) = true := by rfl) :
    SP X M W b (.Call (.Name "tuple" p) [.Call (.Attribute e "keys" apos) [] [] cpos] [] pos) (fun env => (F env).bind fKeys) := by
  obtain ⟨t, pp, q⟩ := h
  refine ⟨_, pe_tupKeys gd.calm pp hg hm hbase hline rfl, fun σ H env U S r Q hp => q σ H env U S r _ ?_⟩
  refine Po.step hp fun d v H1 _ e1 r1 h1 => ?_
  cases r1 with
  | @dic a kvs ds ha hk rr =>
    refine ⟨a, kvs, rfl, ex_rd vis_ex ha, fun q' hq => ?_⟩
    exact h1 _ _ (Ex.new hq) (.tup (SqT.of (vis_in upd_same fun z => ((r.ntb b).new e1 q' z).1 hq)) (keys_rp hk))
  | _ => exact h1.elim
end
end Rf

namespace Rf
open PySem PySem.Spec PyProof.Rows L2

/-! a comprehension over the pairs of a dict that is kept -/
section
variable {X : Cx} {M : List Nat} {W : WX} {b : Bool} {own : List (Str × Nat)} {tg iter elt : Expr} {ifs : List Expr} {scope : Scope} {I : Env → O (List D)} {g : D → Env → Option Env} {T : Env → O Bool} {E : Env → O D}
theorem lc_pure1 {wi : TI} {gt : TG} {tt : TT} {te : TE}
    (hg : ∀ σ H env U S v d env1, Rel X.K M U S H σ env → Rp X.K (vis H (zo U S)) v d → g d env = some env1 → ∀ Q : L2.St → Hp → Prop, (∀ σ1, Rel X.K M U S H σ1 env1 → wipe σ1 (own.map (·.2)) = wipe σ (own.map (·.2)) → Q σ1 H) → gt v σ H Q)
    (ht : ∀ σ H env U S, Rel X.K M U S H σ env → ∀ Q, Po X.K W0 (zb b U S) H σ eqZ Q (T env) → tt σ H Q)
    (he : ∀ σ H env U S, Rel X.K M U S H σ env → ∀ Q, Po X.K W0 (zb b U S) H σ (rpZ X.K (zb b U S)) Q (E env) → te σ H Q)
    (σ : L2.St) (H : Hp) (env : Env) (U : AS) (S : Nat → AS) (r : Rel X.K M U S H σ env) (hi : ∀ Q, Po X.K W (zb b U S) H σ (itZ X.K (zb b U S)) Q (I env) → wi σ H Q) (Q : VK) (hp : Po X.K W (zb b U S) H σ (nlZ X.K (zb b U S) H) Q (eComp b (own.map (·.2)) I g T E env)) :
    tLc wi gt tt te (own.map (·.2)) σ H Q := by
  have hp' : Po X.K W (zb b U S) H σ (nlZ X.K (zb b U S) H) Q ((I env).bind fun ds => if (b || immL ds) && decide (ds.length ≤ sizeLine) then compF (own.map (·.2)) g T E (wipeE env (own.map (·.2))) ds else .bad) := hp
  refine hi _ (Po.step hp' fun ds J H1 hI e1 it h1 => ?_)
  intro L hL
  generalize hvs : own.map (·.2) = vs at *
  have hcond : (b || immL ds) = true ∧ ds.length ≤ sizeLine := by
    by_cases hc : ((b || immL ds) && decide (ds.length ≤ sizeLine)) = true
    · simpa using hc
    · rw [if_neg hc] at h1; exact h1.elim
  have h2 : Po X.K W (zb b U S) H1 σ (nlZ X.K (zb b U S) H) Q (compF vs g T E (wipeE env vs) ds) := by
    have hc : ((b || immL ds) && decide (ds.length ≤ sizeLine)) = true := by simpa using hcond
    rw [if_pos hc] at h1; exact h1
  -- all of the turns
  obtain ⟨yss, hys⟩ : ∃ ys, compF vs g T E (wipeE env vs) ds = .ok ys := by
    cases hq : compF vs g T E (wipeE env vs) ds with
    | ok ys => exact ⟨ys, rfl⟩
    | bad => rw [hq] at h2; exact h2.elim
    | exc c d =>
      exfalso
      have : ∀ ds c d, compF vs g T E (wipeE env vs) ds ≠ .exc c d := by
        intro ds
        induction ds with
        | nil => intro c d h; cases h
        | cons x xs ih =>
          intro c d h
          unfold compF at h
          split at h
          · cases h
          · rename_i e1 _
            cases hT : T e1 with
            | ok k =>
              rw [hT] at h
              simp only [noX, O.bind] at h
              cases k with
              | false => exact ih c d h
              | true =>
                simp only at h
                cases hE : E e1 with
                | ok y =>
                  rw [hE] at h
                  simp only [noX] at h
                  cases hr : compF vs g T E (wipeE env vs) xs with
                  | ok ys => rw [hr] at h; cases h
                  | exc c' d' => exact ih c' d' hr
                  | bad => rw [hr] at h; cases h
                | exc _ _ => rw [hE] at h; cases h
                | bad => rw [hE] at h; cases h
            | exc _ _ => rw [hT] at h; cases h
            | bad => rw [hT] at h; cases h
      exact this ds c d hq
  rw [hys] at h2
  obtain ⟨G, Y, wk, hG, hY⟩ := it
  let TL : AS := fun a => a = L
  have hLH : H L = none := fresh_back e1 hL
  -- the heap at a turn: as at the start, but for the new list
  refine lc_it wk (Pv := fun i H' => i ≤ ds.length ∧ (∀ a o, H1 a = some o → H' a = some o) ∧ ∃ acc ys zs, H' L = some (.lst acc) ∧ RpL X.K (vis H' (un (zb b U S) TL)) acc ys ∧ acc.length ≤ i ∧ compF vs g T E (wipeE env vs) (ds.drop i) = .ok zs ∧ ys ++ zs = yss) ?_ ?_ ?_ ?_
  · exact ⟨Nat.zero_le _, Ex.new hL, [], [], yss, upd_same, .nil, Nat.le_refl _, by simpa using hys, rfl⟩
  · rintro i H' hi ⟨_, ex, _⟩
    exact hG H' fun a o h => ex a o (of_vis h).1
  · rintro i x H' H'' hi ⟨_, ex, acc, ys, zs, hl, ra, hal, hc, heq⟩ y
    -- what holds in the block, the new list hidden
    have rel1 : Rel X.K M (un U TL) S H' (wipe σ vs) (wipeE env vs) := by
      have q : Rel X.K M (un U TL) S H' σ env := (r.mono e1).hide ex (fun a e => by cases e; exact hL) fun a e => by
        cases e
        exact ⟨by rw [hl]; simp, fun xs z => by rcases z with z | ⟨o, z⟩ <;> rw [hl] at z <;> cases z⟩
      exact q.wipe vs
    have nt' : Nt H' (zb b (un U TL) S) := rel1.ntb b
    have hvv : Ex (vis H1 (zb b U S)) (vis H' (zb b (un U TL) S)) := fun a o h => by
      obtain ⟨h3, h4⟩ := of_vis h
      refine vis_in (ex a o h3) fun z => ?_
      rcases z with (z | z) | z
      · exact h4 (.inl z)
      · cases z; rw [hL] at h3; cases h3
      · exact h4 (.inr z)
    obtain ⟨ey, d, hd, rx⟩ := hY i H' x H'' _ nt' hvv y
    have rel2 := rel1.mono ey
    have rx2 : Rp X.K (vis H'' (zo (un U TL) S)) x d := by
      cases b with
      | true => rw [zb_true] at rx; exact rx
      | false =>
        have him : immL ds = true := by simpa using hcond.1
        exact imm_up rel2.nt (immL_get him hd) rx
    have hdrop : ds.drop i = d :: ds.drop (i + 1) := by
      obtain ⟨hlt, he⟩ := List.getElem?_eq_some_iff.mp hd
      rw [List.drop_eq_getElem_cons hlt, he]
    rw [hdrop] at hc
    unfold compF at hc
    cases hgd : g d (wipeE env vs) with
    | none => rw [hgd] at hc; cases hc
    | some e2 =>
      rw [hgd] at hc
      simp only at hc
      refine hg (wipe σ vs) H'' (wipeE env vs) (un U TL) S x d e2 rel2 rx2 hgd _ fun σ2 rel3 hw => ?_
      have hww : wipe σ2 vs = wipe σ vs := by
        rw [hw]
        have : ∀ (vs : List Nat) (σ : L2.St), wipe (wipe σ vs) vs = wipe σ vs := by
          intro vs σ
          apply List.ext_getElem?
          intro j
          by_cases hj : j ∈ vs
          · have h1 : ∀ τ : L2.St, τ.length = σ.length → (wipe τ vs)[j]? = if j < σ.length then some none else none := by
              intro τ hτ
              have hlen : (wipe τ vs).length = σ.length := by rw [wipe_length]; exact hτ
              by_cases hjl : j < σ.length
              · rw [if_pos hjl]
                cases hz : (wipe τ vs)[j]? with
                | none => rw [List.getElem?_eq_none_iff] at hz; omega
                | some o =>
                  cases o with
                  | none => rfl
                  | some v => exact absurd hj (wipe_some hz).2
              · rw [if_neg hjl]
                exact List.getElem?_eq_none (by omega)
            rw [h1 _ (wipe_length σ vs), h1 σ rfl]
          · rw [wipe_out hj]
        exact this vs σ
      refine ⟨hww, ?_⟩
      cases hT : T e2 with
      | exc _ _ => rw [hT] at hc; cases hc
      | bad => rw [hT] at hc; cases hc
      | ok k =>
        rw [hT] at hc
        simp only [noX, O.bind] at hc
        refine ht σ2 H'' e2 (un U TL) S rel3 _ ?_
        rw [hT]
        rintro k' H3 e3 rfl
        cases k' with
        | false =>
          simp only at hc
          refine ⟨hi, fun a o h => e3 a o (ey a o (ex a o h)), acc, ys, zs, e3 _ _ (ey _ _ hl), ra.mono ?_, by omega, hc, heq⟩
          exact vis_mono (ey.trans e3)
        | true =>
          simp only at hc
          cases hE : E e2 with
          | exc _ _ => rw [hE] at hc; cases hc
          | bad => rw [hE] at hc; cases hc
          | ok y1 =>
            rw [hE] at hc
            simp only [noX] at hc
            refine he σ2 H3 e2 (un U TL) S (rel3.mono e3) _ ?_
            rw [hE]
            intro v1 H4 e4 rv1
            cases hrec : compF vs g T E (wipeE env vs) (ds.drop (i + 1)) with
            | exc _ _ => rw [hrec] at hc; cases hc
            | bad => rw [hrec] at hc; cases hc
            | ok zs1 =>
              rw [hrec] at hc
              have hz : y1 :: zs1 = zs := by
                have := hc
                simp only [O.ok.injEq] at this
                exact this
              have e14 : Ex H' H4 := (ey.trans e3).trans e4
              have hl4 := e14 _ _ hl
              refine ⟨acc, hl4, by omega, hi, ?_, acc ++ [v1], ys ++ [y1], zs1, upd_same, ?_, by simp; omega, rfl, by rw [← heq, ← hz]; simp⟩
              · intro a o h
                have ne : a ≠ L := fun e => by subst e; rw [hL] at h; cases h
                rw [upd_ne ne]
                exact e14 a o (ex a o h)
              · have hsame : Ex (vis H4 (un (zb b U S) TL)) (vis (upd H4 L (.lst (acc ++ [v1]))) (un (zb b U S) TL)) := fun a o h => by
                  obtain ⟨h5, h6⟩ := of_vis h
                  have ne : a ≠ L := fun e => h6 (.inr e)
                  exact vis_in (by rw [upd_ne ne]; exact h5) h6
                refine RpL.append ((ra.mono (vis_mono e14)).mono hsame) (.cons ?_ .nil)
                have rv2 : Rp X.K (vis H4 (un (zb b U S) TL)) v1 y1 := by
                  have : zb b (un U TL) S = un (zb b U S) TL := by
                    funext a
                    apply propext
                    constructor
                    · rintro ((z | z) | z)
                      · exact .inl (.inl z)
                      · exact .inr z
                      · exact .inl (.inr z)
                    · rintro ((z | z) | z)
                      · exact .inl (.inl z)
                      · exact .inr z
                      · exact .inl (.inr z)
                  rw [← this]
                  exact rv1
                exact rv2.mono hsame
  · rintro H' ⟨_, ex, acc, ys, zs, hl, ra, hal, hc, heq⟩
    rw [List.drop_length] at hc
    cases hc
    rw [List.append_nil] at heq
    subst heq
    exact h2 _ H' ex ⟨L, acc, rfl, hLH, hl, ra.mono (vis_sub fun a z => .inl z)⟩
end
/-- the same, but that dicts are locked or let go -/
def FE (H H' : Hp) : Prop := ∀ b o, H b = some o → H' b = some o ∨ ∃ kvs, (o = .dK kvs ∨ ∃ od, o = .frz od (.dK kvs)) ∧ Rd H' b (.dK kvs)
section
variable {K : PySem.W.Frag} {H H' : Hp}
theorem fe_at {o : HO} {b : Addr} (e : FE H H') (h : H b = some o) (n : ∀ kvs, o ≠ .dK kvs) (n2 : ∀ od kvs, o ≠ .frz od (.dK kvs)) : H' b = some o := by
  rcases e b o h with q | ⟨kvs, q | ⟨od, q⟩, _⟩
  · exact q
  · exact absurd q (n kvs)
  · exact absurd q (n2 od kvs)
theorem fe_rd {u : HO} {b : Addr} (e : FE H H') (h : Rd H b u) (n : ∀ kvs, u ≠ .dK kvs) (n2 : ∀ od kvs, u ≠ .frz od (.dK kvs)) : Rd H' b u := by
  rcases h with h | ⟨o, h⟩
  · exact .inl (fe_at e h n n2)
  · exact .inr ⟨o, fe_at e h (fun _ q => by cases q) fun od kvs q => by cases q; exact n kvs rfl⟩
theorem fe_dic {kvs : List (Key × V)} {b : Addr} (e : FE H H') (h : Rd H b (.dK kvs)) : Rd H' b (.dK kvs) := by
  rcases h with h | ⟨o, h⟩
  · rcases e b _ h with q | ⟨kvs', q | ⟨od, q⟩, r⟩
    · exact .inl q
    · cases q; exact r
    · cases q
  · rcases e b _ h with q | ⟨kvs', q | ⟨od, q⟩, r⟩
    · exact .inr ⟨o, q⟩
    · cases q
    · cases q; exact r
mutual
theorem Rp.fe (e : FE H H') : ∀ {d : D} {v : V}, Rp K H v d → Rp K H' v d
  | _, _, .non => .non
  | _, _, .bl b => .bl b
  | _, _, .int i => .int i
  | _, _, .str x => .str x
  | _, _, .tup h r => .tup (h.imp (fun z => fe_rd e z (fun _ q => by cases q) fun _ _ q => by cases q) id) (RpL.fe e r)
  | _, _, .lst h r => .lst (fe_at e h (fun _ q => by cases q) fun _ _ q => by cases q) (RpL.fe e r)
  | _, _, .scr h => .scr (h.imp (fun z => fe_rd e z (fun _ q => by cases q) fun _ _ q => by cases q) id)
  | _, _, .dic h k r => .dic (fe_dic e h) k (RpL.fe e r)
  | _, _, .ins h k r => .ins (fe_at e h (fun _ q => by cases q) fun _ _ q => by cases q) k (RpL.fe e r)
  | _, _, .exc h k r => .exc (fe_at e h (fun _ q => by cases q) fun _ _ q => by cases q) (fe_at e k (fun _ q => by cases q) fun _ _ q => by cases q) (Rp.fe e r)
theorem RpL.fe (e : FE H H') : ∀ {ds : List D} {vs : List V}, RpL K H vs ds → RpL K H' vs ds
  | _, _, .nil => .nil
  | _, _, .cons r t => .cons (Rp.fe e r) (RpL.fe e t)
end
theorem fe_vis {Z : AS} (e : FE H H') : FE (vis H Z) (vis H' Z) := fun b o h => by
  obtain ⟨h1, h2⟩ := of_vis h
  rcases e b o h1 with q | ⟨kvs, q, r⟩
  · exact .inl (vis_in q h2)
  · refine .inr ⟨kvs, q, ?_⟩
    rcases r with r | ⟨od, r⟩
    · exact .inl (vis_in r h2)
    · exact .inr ⟨od, vis_in r h2⟩
/-- a dict outside of what the slots own is locked -/
theorem Rel.lock {M : List Nat} {U : AS} {S : Nat → AS} {σ : L2.St} {env : Env} {a : Addr} {kvs : List (Key × V)} {od : Obj} (r : Rel K M U S H σ env) (ha : H a = some (.dK kvs)) (nz : ¬ zo U S a) : Rel K M U S (upd H a (.frz od (.dK kvs))) σ env := by
  have fe : FE H (upd H a (.frz od (.dK kvs))) := fun b o h => by
    by_cases e : b = a
    · subst e; rw [ha] at h; cases h; exact .inr ⟨kvs, .inl rfl, .inr ⟨od, upd_same⟩⟩
    · exact .inl (by rw [upd_ne e]; exact h)
  have tp : ∀ b xs, Rd H b (.tup xs) → Rd (upd H a (.frz od (.dK kvs))) b (.tup xs) := fun b xs h => fe_rd fe h (fun _ q => by cases q) fun _ _ q => by cases q
  refine ⟨fun i d hi he => ?_, fun i d hi he => ?_, r.dis, r.out, fun b z => ?_, r.len⟩
  · obtain ⟨v, h1, h2⟩ := r.own i d hi he
    refine ⟨v, h1, h2.carry tp (fun b xs h => fe_at fe h (fun _ q => by cases q) fun _ _ q => by cases q) fun b o sb h => ?_⟩
    rw [upd_ne fun e => nz (.inr ⟨i, by rw [← e]; exact sb⟩)]
    exact h
  · obtain ⟨v, h1, h2⟩ := r.frz i d hi he
    exact ⟨v, h1, h2.fe (fe_vis fe)⟩
  · have ne : b ≠ a := fun e => nz (by rw [← e]; exact z)
    obtain ⟨h1, h2⟩ := r.nt b z
    refine ⟨by rw [upd_ne ne]; exact h1, fun xs q => h2 xs ?_⟩
    rcases q with q | ⟨o, q⟩
    · rw [upd_ne ne] at q; exact .inl q
    · rw [upd_ne ne] at q; exact .inr ⟨o, q⟩
end

def itemsD (ds : List (Key × D)) : List D := ds.map fun kv => .tup [kD kv.1, kv.2]
def itIt : O D → O (List D)
  | .ok (.dic ds) => .ok (itemsD ds)
  | _ => .bad
theorem kD_rp {K : PySem.W.Frag} {H : Hp} (k : Key) : Rp K H (kV k) (kD k) := by
  cases k
  · exact .int _
  · exact .str _
theorem items_get {K : PySem.W.Frag} {H : Hp} : ∀ {kvs : List (Key × V)} {ds : List (Key × D)} {i : Nat} {x y : V}, kvs.map (·.1) = ds.map (·.1) → RpL K H (kvs.map (·.2)) (ds.map (·.2)) → (kvs[i]?.map fun kv => kV kv.1) = some x → (kvs[i]?.map Prod.snd) = some y → ∃ d e, (itemsD ds)[i]? = some (.tup [d, e]) ∧ Rp K H x d ∧ Rp K H y e
  | [], _, i, _, _, _, _, h, _ => by simp at h
  | _ :: _, [], _, _, _, h, _, _, _ => by simp at h
  | (a, v) :: kvs, (c, d) :: ds, i, x, y, hk, r, h1, h2 => by
    simp only [List.map_cons, List.cons.injEq] at hk
    obtain ⟨rfl, hk⟩ := hk
    cases r with
    | cons r1 r2 =>
      cases i with
      | zero =>
        simp at h1 h2
        subst h1 h2
        exact ⟨_, _, rfl, kD_rp a, r1⟩
      | succ i =>
        obtain ⟨d', e', g1, g2, g3⟩ := items_get (i := i) hk r2 (by simpa using h1) (by simpa using h2)
        exact ⟨d', e', by simpa [itemsD] using g1, g2, g3⟩
theorem it_items {K : PySem.W.Frag} {Hv : Hp} {a : Addr} {od : Obj} {kvs : List (Key × V)} {ds : List (Key × D)} (h : Hv a = some (.frz od (.dK kvs))) (hk : kvs.map (·.1) = ds.map (·.1)) (r : RpL K Hv (kvs.map (·.2)) (ds.map (·.2))) : ItOk K (Iti a od kvs) Hv (itemsD ds) := by
  have hl : kvs.length = (itemsD ds).length := by
    have := congrArg List.length hk
    simpa [itemsD] using this
  have w := walk_items (d := a) (o := od) (kvs := kvs)
  rw [hl] at w
  refine ⟨_, _, w, fun H e => e a _ h, fun i H x H' Z n e y => ?_⟩
  obtain ⟨T, x1, y1, rfl, hT, hH, h1, h2⟩ := y
  obtain ⟨d, e', g1, g2, g3⟩ := items_get hk r h1 h2
  obtain ⟨k1, k2⟩ := pair_step hT hH n (g2.mono e) (g3.mono e)
  exact ⟨k1, _, g1, k2⟩
theorem compF_ne {vs : List Nat} {g : D → Env → Option Env} {T : Env → O Bool} {E : Env → O D} {env : Env} : ∀ (ds : List D) (c : Str) (d : D), compF vs g T E env ds ≠ .exc c d
  | [], c, d, h => by cases h
  | x :: xs, c, d, h => by
    unfold compF at h
    split at h
    · cases h
    · rename_i e1 _
      cases hT : T e1 with
      | ok k =>
        rw [hT] at h
        simp only [noX, O.bind] at h
        cases k with
        | false => exact compF_ne xs c d h
        | true =>
          simp only at h
          cases hE : E e1 with
          | ok y =>
            rw [hE] at h
            simp only [noX] at h
            cases hr : compF vs g T E env xs with
            | ok ys => rw [hr] at h; cases h
            | exc c' d' => exact compF_ne xs c' d' hr
            | bad => rw [hr] at h; cases h
          | exc _ _ => rw [hE] at h; cases h
          | bad => rw [hE] at h; cases h
      | exc _ _ => rw [hT] at h; cases h
      | bad => rw [hT] at h; cases h
section
variable {X : Cx} {M : List Nat} {W : WX} {own : List (Str × Nat)} {elts : List Expr} {kk : Nat} {tpos px apos cpos pos : Pos} {x : Str} {i : Nat} {elt : Expr} {ifs : List Expr} {scope : Scope} {g : D → Env → Option Env} {T : Tst} {E : Env → O D}
theorem spl_compItems {k : Nat} (G : Gd X W k) (hM : M.contains i = false) (hN : X.N[i]? = some x) (hv : Vis X.env.scope x) (ok : BlkOk X.N X.env.scope scope own)
    (htg : ∀ (s : Shared) (H : Hp) (C : Addr) (cl : List (Str × Addr)) (fp : List Addr), SG (Bk X scope s H C cl fp) M (own.map (·.2)) (.Tuple elts kk tpos) g)
    (hts : ∀ (s : Shared) (H : Hp) (C : Addr) (cl : List (Str × Addr)) (fp : List Addr), STs (Bk X scope s H C cl fp) M W0 true ifs T)
    (hel : ∀ (s : Shared) (H : Hp) (C : Addr) (cl : List (Str × Addr)) (fp : List Addr), SP (Bk X scope s H C cl fp) M W0 true elt E)
    (hd : (x == ("__debug__" : Str)) = false := by decide) (hcd : (x == ("__classdict__" : Str)) = false := by decide) (hline : (apos.endLine == cpos.line) = true := by rfl)
    (hbase : attributeBase (.Name x px) "items" X.env (eval (.Name x px) X.env) = eval (.Name x px) X.env := by rfl)
    (hs : ∀ y, foldedSetIterable (.Call (.Attribute (.Name x px) "items" apos) [] [] cpos) X.env y = pure y := by intro _; rfl) :
    SPL X M W true (.ListComp elt [⟨.Tuple elts kk tpos, .Call (.Attribute (.Name x px) "items" apos) [] [] cpos, ifs, 0⟩] scope pos) (eComp true (own.map (·.2)) (fun env => itIt (eVar i env)) g T.f E) := by
  have p := pe_lc (pos := pos) (g := cG X.K M (own.map (·.2)) g) (tt := tTst X.K M W0 true T) (te := cP X.K M W0 true E) G.calm G.nd (pi_items (elts := elts) (kk := kk) (tpos := tpos) (pe_var (pos := px) hN hv hd hcd) hbase hline) ok (fun s H C cl fp => (htg s H C cl fp).pg) (fun s H C cl fp => (hts s H C cl fp).pts) (fun s H C cl fp => (hel s H C cl fp).pe) hs
  have hM' : i ∉ M := by simpa using hM
  refine ⟨fun σ H Q => tLockE _ σ H Q ∨ _, ⟨fun pins s σ H Q I h => h.elim ((pe_lock p).run pins s σ H Q I) (p.run pins s σ H Q I)⟩, fun σ H env U S r Q hp => ?_⟩
  have run : ∀ (H0 : Hp) (Q0 : VK), Rel X.K M U S H0 σ env → (∀ Qi : It → Hp → Prop, Po X.K W (zb true U S) H0 σ (itZ X.K (zb true U S)) Qi (itIt (eVar i env)) → iItems (fun σ H Q => ∃ v, σ[i]? = some (some v) ∧ Q v H) σ H0 Qi) → Po X.K W (zb true U S) H0 σ (nlZ X.K (zb true U S) H0) Q0 (eComp true (own.map (·.2)) (fun env => itIt (eVar i env)) g T.f E env) →
      tLc (iItems (fun σ H Q => ∃ v, σ[i]? = some (some v) ∧ Q v H)) (cG X.K M (own.map (·.2)) g) (tTst X.K M W0 true T) (cP X.K M W0 true E) (own.map (·.2)) σ H0 Q0 := by
    intro H0 Q0 r0 hi hp0
    refine lc_pure1 (M := M) (W := W) (b := true) ?_ ?_ ?_ σ H0 env U S r0 hi Q0 hp0
    · exact fun σ H env U S v d env1 r rp hg Q k => ⟨env, U, S, d, env1, r, rp, hg, fun σ1 a b _ => k σ1 a b⟩
    · intro σ H env U S r Q hp
      exact tTst_run r hp
    · exact fun σ H env U S r Q hp => ⟨env, U, S, r, hp⟩
  cases he : eVar i env with
  | bad => simp only [eComp, he, itIt, O.bind] at hp; exact hp.elim
  | exc _ _ => simp only [eComp, he, itIt, O.bind] at hp; exact hp.elim
  | ok d =>
    have hen : env[i]? = some (some d) := by
      unfold eVar at he
      split at he
      · cases he; assumption
      · cases he
    obtain ⟨v, hσ, rp⟩ := r.frz i d hM' hen
    cases rp with
    | @dic a kvs ds ha hk rr =>
      rw [zb_true] at hp
      rcases ha with ha | ⟨od, ha⟩
      · obtain ⟨ha1, ha2⟩ := of_vis ha
        refine .inl ⟨a, .dK kvs, ha1, trivial, fun od => ?_⟩
        have fe : FE H (upd H a (.frz od (.dK kvs))) := fun b o h => by
          by_cases e : b = a
          · subst e; rw [ha1] at h; cases h; exact .inr ⟨kvs, .inl rfl, .inr ⟨od, upd_same⟩⟩
          · exact .inl (by rw [upd_ne e]; exact h)
        refine run _ _ (r.lock ha1 ha2) (fun Qi hq => ⟨.ref a, hσ, a, od, kvs, rfl, upd_same, ?_⟩) ?_
        · rw [he] at hq
          refine hq _ _ (Ex.refl _) ?_
          rw [itZ, zb_true]
          exact it_items (vis_in upd_same ha2) hk (rr.fe (fe_vis fe))
        · rw [zb_true]
          cases hC : eComp true (own.map (·.2)) (fun env => itIt (eVar i env)) g T.f E env with
          | bad => rw [hC] at hp; exact hp.elim
          | exc c' d' =>
            exfalso
            simp only [eComp, he, itIt, O.bind] at hC
            split at hC
            · exact compF_ne _ _ _ hC
            · cases hC
          | ok ys =>
            rw [hC] at hp
            rintro w H' ex ⟨p', vs', rfl, hn, hl, rl⟩
            have hat : H' a = some (.frz od (.dK kvs)) := ex a _ upd_same
            have np : p' ≠ a := fun e => by rw [e, upd_same] at hn; cases hn
            have hHp : H p' = none := by rw [upd_ne np] at hn; exact hn
            refine ⟨hat, hp _ (upd H' a (.dK kvs)) (fun b o hb => ?_) ⟨p', vs', rfl, hHp, by rw [upd_ne np]; exact hl, rl.fe (fe_vis fun b o hb => ?_)⟩⟩
            · by_cases e : b = a
              · subst e; rw [ha1] at hb; cases hb; exact upd_same
              · rw [upd_ne e]; exact ex b o (by rw [upd_ne e]; exact hb)
            · by_cases e : b = a
              · subst e; rw [hat] at hb; cases hb; exact .inr ⟨kvs, .inr ⟨od, rfl⟩, .inl upd_same⟩
              · exact .inl (by rw [upd_ne e]; exact hb)
      · obtain ⟨ha1, ha2⟩ := of_vis ha
        refine .inr (run _ _ r (fun Qi hq => ⟨.ref a, hσ, a, od, kvs, rfl, ha1, ?_⟩) (by rw [zb_true]; exact hp))
        rw [he] at hq
        refine hq _ _ (Ex.refl _) ?_
        rw [itZ, zb_true]
        exact it_items ha hk rr
    | _ => simp only [eComp, he, itIt, O.bind] at hp; exact hp.elim
end
end Rf

namespace Rf
open PySem PySem.Spec PyProof.Rows L2

/-! dict displays -/
section
variable {X : Cx} {M : List Nat} {W : WX} {b : Bool} {pos : Pos} {ke ve : Expr} {Fk Fv : Env → O D}
theorem spn_dict0 : SPN X M W b (.Dict [] [] pos) (eC (.dic [])) := by
  refine ⟨_, pe_dnewK, fun σ H env U S r Q hp p hn => hp _ _ (Ex.new hn) ⟨fun a => a = p, .dic (T := fun _ => False) upd_same rfl (.nil fun _ h => h) (fun h => h) (fun b => by simp), fun a e => by rw [e]; exact hn⟩⟩
/-- {k: v}, v immutable -/
def eDisp1 (Fk Fv : Env → O D) : Env → O D := fun env => match Fk env, Fv env with
  | .ok dk, .ok dv => match keyOf dk with
    | some k => if imm dv then .ok (.dic [(k, dv)]) else .bad
    | none => .bad
  | _, _ => .bad
theorem spn_disp1 (hk : SP X M W b ke Fk) (hv : SP X M W b ve Fv) : SPN X M W b (.Dict [some ke] [ve] pos) (eDisp1 Fk Fv) := by
  obtain ⟨tk, pk, qk⟩ := hk
  obtain ⟨tv, pv, qv⟩ := hv
  refine ⟨_, pe_disp (pps_cons pk pv pps_nil) rfl rfl (by simp) (show 1 ≤ 15 by decide), fun σ H env U S r Q hp p hn => ?_⟩
  unfold eDisp1 at hp
  have e0 : Ex H (upd H p (.dK [])) := Ex.new hn
  -- the new dict lies outside of what is seen
  have r0 : Rel X.K M (un U fun a => a = p) S (upd H p (.dK [])) σ env := r.hide e0 (fun a e => by rw [e]; exact hn) fun a e => by
    subst e
    exact ⟨by rw [upd_same]; simp, fun xs z => by rcases z with z | ⟨o, z⟩ <;> rw [upd_same] at z <;> cases z⟩
  refine qk σ _ env _ S r0 _ ?_
  cases hFk : Fk env with
  | bad => rw [hFk] at hp; exact hp.elim
  | exc _ _ => rw [hFk] at hp; exact hp.elim
  | ok dk =>
    rw [hFk] at hp
    intro vk H1 e1 rk
    refine qv σ H1 env _ S (r0.mono e1) _ ?_
    cases hFv : Fv env with
    | bad => rw [hFv] at hp; exact hp.elim
    | exc _ _ => rw [hFv] at hp; exact hp.elim
    | ok dv =>
      rw [hFv] at hp
      intro vv H2 e2 rv
      simp only at hp
      cases hkk : keyOf dk with
      | none => rw [hkk] at hp; exact hp.elim
      | some k =>
        rw [hkk] at hp
        simp only at hp
        cases hi : imm dv with
        | false => rw [hi] at hp; exact (show False by simpa [Po] using hp).elim
        | true =>
          rw [hi] at hp
          simp only [if_true] at hp
          have hp2 : H2 p = some (.dK []) := e2 _ _ (e1 _ _ upd_same)
          refine ⟨hp2, [(k, vv)], by rw [keyOf_V rk hkk]; rfl, show 1 ≤ 15 by decide, ?_⟩
          have hmk : mergeK [] [(k, vv)] = [(k, vv)] := rfl
          rw [hmk]
          have ex : Ex H (upd H2 p (.dK [(k, vv)])) := fun a o h => by
            have ne : a ≠ p := fun e => by rw [e, hn] at h; cases h
            rw [upd_ne ne]
            exact e2 a o (e1 a o (e0 a o h))
          have hup := ow_tup (K := X.K) (H := H2) (a := p) (o := .dK [(k, vv)]) (fun xs z => by rw [hp2] at z; cases z) (fun _ _ z => by rw [hp2] at z; cases z)
          refine hp _ _ ex ⟨fun a => a = p, .dic (T := fun _ => False) upd_same rfl (.cons (T := fun _ => False) (R := fun _ => False) (.leaf hi (Rp.imm hup.1 hi (rv.mono vis_ex)) fun _ h => h) (.nil fun _ h => h) (fun _ h => h.elim) fun b => by simp) (fun h => h) (fun b => by simp), fun a e => by rw [e]; exact hn⟩
/-! x == {} -/
def rEqE : R2 := fun x y H Q => ∃ a c kvs, x = .ref a ∧ y = .ref c ∧ Rd H a (.dK kvs) ∧ Rd H c (.dK []) ∧ Q (.bl (kvs.length == 0)) H
theorem op_eqE (hu : X.A.units < cLine) : OpR X (compareOp .Eq) rEqE := by
  intro pins s σ H x y v u Q I rx ry h
  obtain ⟨a, c, kvs, rfl, rfl, ha, hc, q⟩ := h
  obtain rfl : v = Value.ref a := rx
  obtain rfl : u = Value.ref c := ry
  obtain ⟨_, ya, va, ra, da⟩ := ha.ok I.hok
  obtain ⟨_, yb, vb, rb, db⟩ := hc.ok I.hok
  have l1 : kvs.length = va.length := Paired.length ra
  have l2 : vb.length = 0 := (Paired.length rb).symm
  show wpAny (model X.prog X.w) X.A (richCompare .Eq (.ref a) (.ref c)) (EP X pins σ Q) X.xe s
  refine PySem.W.rcP_dicts (knd := mixKind X.prog X.w) (r := true) ya yb da db hu (fun hl => ?_) _ _ ?_
  · have : va = [] := List.eq_nil_of_length_eq_zero (by omega)
    subst this
    exact .nil
  · refine ⟨.bl (kvs.length == 0), H, I, ?_, q⟩
    rw [l1, l2, Bool.and_true]
    rfl
def fEqE : D → D → O D
  | .dic ds, .dic [] => .ok (.bl (ds.length == 0))
  | _, _ => .bad
theorem v2_eqE {K : PySem.W.Frag} : V2 K W rEqE fEqE := by
  intro H Z σ x y d e Q n h1 h2 hp
  cases h1 with
  | @dic a kvs ds ha hk r =>
    cases h2 with
    | @dic c kvs' ds' ha' hk' r' =>
      cases ds' with
      | cons _ _ => exact hp.elim
      | nil =>
        have : kvs' = [] := by simpa using hk'
        subst this
        have hl : kvs.length = ds.length := by simpa using congrArg List.length hk
        refine ⟨a, c, kvs, rfl, rfl, ex_rd vis_ex ha, ex_rd vis_ex ha', ?_⟩
        rw [hl]
        exact hp _ H (Ex.refl H) (.bl _)
    | _ => exact hp.elim
  | _ => exact hp.elim
end
end Rf

namespace PySem
section
variable {prog : Program} {w : World} {K : Type} [DecidableEq K] {knd : KeyKind prog w K} {A : Around} {E : Value → Shared → Prop} {s : Shared}
theorem rf_dictPut {d : Addr} {kvs : List (K × Value)} {k : K} {key v : Value} {Q : Unit → Shared → Prop} (hkey : knd.is k key = true) (hm : s.heap.DictOf knd d kvs)
    (hQ : ∀ h', h'.DictOf knd d (stored kvs k v) → Heap.SameBut d s.heap h' → Q () { s with heap := h' })
    (hsz : kvs.length ≤ sizeLine) :
    wpAny (model prog w) A (dictPut d (knd.hash k) key v) Q E s := by
  obtain ⟨o, es, ep, ho, hc, hd, hk, hp, hn⟩ := hm
  have hes : es.size ≤ sizeLine := by
    have e1 := hp.length
    have e2 : es.toList.length = es.size := by simp
    omega
  unfold dictPut
  refine wpAny_bind (wpAny_dictFind_of hkey ho hd hk ?_)
  have hidx : (es.findIdx? fun e => knd.is k e.key) = kvs.findIdx? fun kv => decide (kv.1 = k) := by
    rw [← hp.findIdx k]; obtain ⟨l⟩ := es; simp
  cases hi : es.findIdx? fun e => knd.is k e.key with
  | some i =>
    refine wpAny_updateDict ho hd (hQ _ ⟨_, _, ep, Heap.get?_update_self _ ho (Obj.isFreed_of_dict (Obj.data_mapDict hd _)),
      hc.mapDict _, Obj.data_mapDict hd _, hk.modify _ _, ?_, ?_⟩ (Heap.SameBut.update ..))
    · rw [stored, if_pos (any_of_findIdx_some (hidx ▸ hi))]
      have hl : (es.toList.findIdx? fun e => knd.is k e.key) = some i := by rw [← hi]; obtain ⟨l⟩ := es; simp
      have := hp.modify hn hl v
      obtain ⟨l⟩ := es
      simpa using this
    · rw [stored, if_pos (any_of_findIdx_some (hidx ▸ hi)), keys_map_store]; exact hn
  | none =>
    have hnot : k ∉ kvs.map (·.1) := not_mem_of_findIdx_none (hidx ▸ hi)
    have hany : ¬ (kvs.any fun kv => decide (kv.1 = k)) = true := by
      rw [List.any_eq_true]; rintro ⟨kv, hkv, he⟩
      exact hnot (List.mem_map.mpr ⟨kv, hkv, of_decide_eq_true he⟩)
    refine wpAny_updateDictKeys (hz := hes) ho hd (hQ _ ⟨_, _, ep + 1, Heap.get?_update_self _ ho (Obj.isFreed_of_dict (Obj.data_mapDictKeys hd _)),
      hc.mapDictKeys _, Obj.data_mapDictKeys hd _, hk.push hkey _, ?_, ?_⟩ (Heap.SameBut.update ..))
    · rw [stored, if_neg hany]
      have := hp.append hkey (knd.hash k) v
      obtain ⟨l⟩ := es
      simpa using this
    · rw [stored, if_neg hany, List.map_append, List.nodup_append]
      refine ⟨hn, by simp, ?_⟩
      intro a ha b hb
      simp only [List.map_cons, List.map_nil, List.mem_singleton] at hb
      subst hb
      exact fun e => hnot (e ▸ ha)
theorem rf_merge {d o : Addr} {kvs more : List (K × Value)} {Q : Unit → Shared → Prop} (hdo : d ≠ o) (hoS : (o == sysModules) = false) (hkn : ∀ k v, knd.is k v = true → ∀ a, v ≠ .ref a)
    (hd : s.heap.DictOf knd d kvs) (ho : s.heap.DictOf knd o more)
    (hQ : ∀ h', h'.DictOf knd d (merged kvs more) → h'.DictOf knd o more → Heap.SameBut d s.heap h' → Q () { s with heap := h' })
    (hsz : kvs.length + more.length ≤ sizeLine) :
    wpAny (model prog w) A (mergeMapping d (.ref o) false) Q E s := by
  obtain ⟨od, esd, epd, hod, hcd, hdd, hkd, hpd, hnd⟩ := id hd
  obtain ⟨oo, eso, epo, hoo, hco, hdo', hko, hpo, hno⟩ := id ho
  have hlen : more.length = eso.size := by rw [← hpo.length]; simp
  unfold mergeMapping
  refine wpAny_bind (wpAny_isInstance (T := "dict") ho.typeIs PySem.F.sub_dict_dict ?_)
  simp only [if_true]
  refine wpAny_bind (wpAny_specialOf ho.typeIs PySem.F.slot_dict_iter.lookup (wpAny_bind (wpAny_pure ?_)))
  simp only [beq_self_eq_true, hoS, Bool.false_eq_true, if_false]
  have loop : wpAny (model prog w) A (do
      let l ← dictEntries o
      let epoch ← dictEpoch o
      forIn (List.range l.size) PUnit.unit fun i (_ : PUnit) => (do
          let l' ← dictEntries o
          match l'[i]? with
            | some e => do
              holding [e.key, e.val] (dictPut d e.hash e.key e.val)
              let ep' ← dictEpoch o
              if (ep' != epoch) = true then do
                  (unsupported "dict.changed-during-merge" : Sem PUnit)
                  pure (ForInStep.yield PUnit.unit)
                else pure (ForInStep.yield PUnit.unit)
            | _ => do
              (unsupported "dict.changed-during-merge" : Sem PUnit)
              pure (ForInStep.yield PUnit.unit) : Sem (ForInStep PUnit))
      pure ()) Q E s := by
    refine wpAny_bind (wpAny_dictEntries hoo hdo' ?_)
    refine wpAny_bind (wpAny_dictEpoch hoo hdo' ?_)
    refine wpAny_bind ?_
    rw [List.range_eq_range']
    refine wpAny_forIn_list _
      (fun rest _ s' => ∃ h' i, s' = { s with heap := h' } ∧ rest = List.range' i (eso.size - i) ∧ i ≤ eso.size ∧ h'.DictOf knd d (merged kvs (more.take i)) ∧ h'.get? o = some oo ∧ Heap.SameBut d s.heap h')
      _ ?_ ?_ _ _ ⟨s.heap, 0, rfl, by simp, Nat.zero_le _, by simpa [merged] using hd, hoo, Heap.SameBut.refl _ _⟩
    · rintro x rest b s' ⟨h', i, rfl, hr, hi, hd', hoo', hs'⟩
      have hlt : i < eso.size := by
        rcases Nat.lt_or_ge i eso.size with h | h
        · exact h
        · rw [Nat.sub_eq_zero_of_le h] at hr; simp at hr
      obtain ⟨rfl, hrest⟩ : x = i ∧ rest = List.range' (i + 1) (eso.size - (i + 1)) := by
        have e : eso.size - i = (eso.size - (i + 1)) + 1 := by omega
        rw [e, List.range'_succ] at hr
        injection hr with h1 h2
        exact ⟨h1, h2⟩
      refine wpAny_bind (wpAny_dictEntries hoo' hdo' ?_)
      rw [Array.getElem?_eq_getElem hlt]
      obtain ⟨kv, hkv⟩ : ∃ kv, more[x]? = some kv := ⟨more[x]'(by rw [hlen]; exact hlt), List.getElem?_eq_getElem _⟩
      obtain ⟨k, v⟩ := kv
      obtain ⟨hkey, hval⟩ := hpo.get? (e := eso[x]) (by simp [hlt]) hkv
      obtain ⟨k', hkey', hhash⟩ := hko eso[x] (Array.getElem_mem hlt)
      obtain rfl : k' = k := knd.inj _ _ _ hkey' hkey
      show wpAny _ _ (holding [eso[x].key, eso[x].val] (dictPut d eso[x].hash eso[x].key eso[x].val) >>= _) _ _ _
      rw [hhash, hval]
      have hmx : (merged kvs (more.take x)).length ≤ sizeLine := by
        have e1 := merged_length_le kvs (more.take x)
        have e2 : (more.take x).length ≤ more.length := by rw [List.length_take]; omega
        omega
      refine wpAny_bind (wpAny_holding (rf_dictPut (hsz := hmx) hkey hd' fun h'' hd'' hs'' => ?_))
      have hoo'' : h''.get? o = some oo := (hs''.2 o (Ne.symm hdo)).trans hoo'
      refine wpAny_bind (wpAny_dictEpoch hoo'' hdo' ?_)
      rw [if_neg (by simp)]
      exact wpAny_pure ⟨h'', x + 1, rfl, hrest, hlt, by rw [merged_take_succ kvs more x (k', v) hkv]; exact hd'', hoo'', hs'.trans hs''⟩
    · rintro b s' ⟨h', i, rfl, hr, hi, hd', hoo', hs'⟩
      have hin : i = eso.size := by
        rcases Nat.lt_or_ge i eso.size with h | h
        · have e : eso.size - i = (eso.size - (i + 1)) + 1 := by omega
          rw [e, List.range'_succ] at hr; exact nomatch hr
        · exact Nat.le_antisymm hi h
      refine wpAny_pure (hQ h' ?_ ⟨oo, eso, epo, hoo', hco, hdo', hko, hpo, hno⟩ hs')
      rw [hin, ← hlen, List.take_length] at hd'; exact hd'
  refine wpAny_bind (wpAny_dictEntries hod hdd ?_)
  split
  · refine wpAny_bind (wpAny_dictEntries hoo hdo' ?_)
    refine wpAny_bind ?_
    refine wpAny_mono (Q := fun _ s' => s' = s) ?_ (fun _ s' e => by subst e; exact loop) (fun _ _ e => e)
    rw [← Array.forIn_toList]
    refine wpAny_forIn_list _ (fun rest _ s' => s' = s ∧ ∀ e ∈ rest, e ∈ eso) _ ?_ ?_ _ _ ⟨rfl, fun e he => by simpa using he⟩
    · rintro x rest b s' ⟨rfl, hm⟩
      obtain ⟨k', hkey', _⟩ := hko x (hm x List.mem_cons_self)
      have hnr := hkn _ _ hkey'
      split
      · rename_i a ha; exact absurd ha (hnr a)
      · exact wpAny_pure ⟨rfl, fun e he => hm e (List.mem_cons_of_mem _ he)⟩
    · rintro b s' ⟨rfl, _⟩
      rfl
  · exact loop
end
end PySem

namespace PySem
section
variable {prog : Program} {w : World} {K : Type} [DecidableEq K] {knd : KeyKind prog w K} {A : Around} {E : Value → Shared → Prop} {s : Shared}
theorem rf_display (x k v : Sem Value) : dictDisplay [(none, x), (some k, v)] = (do
    let d ← alloc { cls := .type "dict", data := .dict #[] }
    let m ← holding [.ref d] x
    (((holding [.ref d, m] (mergeMapping d m false)).onRaise fun x => do let _ ← holding [.ref d, m, x] (runValue (.builtin "proto.let_go" {}))).tryCatch fun e => do
        if ← isInstance e (.type "AttributeError") then
          rule "dict.display.not-a-mapping"; raiseError "TypeError" s!"'{← typeNameOf m}' object is not a mapping"
        throw e).onRaise fun x => do let _ ← holding [.ref d, x] (runValue (.builtin "proto.let_go" {}))
    let sub ← holding [.ref d] (subDict [(k, v)])
    (holding [.ref d, .ref sub] (mergeMapping d (.ref sub) false)).onRaise fun x => do let _ ← holding [.ref d, x] (runValue (.builtin "proto.let_go" {}))
    pure (.ref d)) := by
  unfold dictDisplay
  simp [List.forIn_cons, List.forIn_nil]
end
end PySem
namespace Rf
open PySem PySem.Spec PyProof.Rows L2
theorem mix_noref {P : Program} {w : World} : ∀ k v, (mixKind P w).is k v = true → ∀ a, v ≠ .ref a := by
  intro k v h a e
  rcases keyIs_shape (show keyIs k v = true from h) with ⟨i, t, _, e2⟩ | ⟨x, t, _, e2⟩
  · rw [e2] at e; cases e
  · rw [e2] at e; cases e
/-- {**d, k: v} -/
def tDStar (te tk tv : TE) : TE := fun σ H Q => ∀ p, H p = none → te σ (upd H p (.dK [])) fun x H1 => ∃ a kvs, x = .ref a ∧ Rd H1 a (.dK kvs) ∧ a ≠ p ∧ H1 p = some (.dK []) ∧ kvs.length < sizeLine ∧
  ∀ q, upd H1 p (.dK (mergeK [] kvs)) q = none → tk σ (upd (upd H1 p (.dK (mergeK [] kvs))) q (.dK [])) fun kx H2 => tv σ H2 fun vx H3 => ∃ k : Key, kx = kV k ∧ H3 q = some (.dK []) ∧ H3 p = some (.dK (mergeK [] kvs)) ∧
    Q (.ref p) (upd (upd H3 q (.dK [(k, vx)])) p (.dK (mergeK (mergeK [] kvs) [(k, vx)])))
section
variable {X : Cx} {dE kE vE : Expr} {te tk tv : TE} {pos : Pos}
theorem pe_dstar (he : PE X dE te) (hk : PE X kE tk) (hv : PE X vE tv) : PE X (.Dict [none, some kE] [dE, vE] pos) (tDStar te tk tv) := by
  refine ⟨fun pins s σ H Q I hq => ?_⟩
  rw [arm_eval_Dict]
  refine wpAny_bind (wpAny_standAt ?_)
  show wpAny _ _ (dictDisplay [(none, do let x ← eval dE X.env; standAt pos; pure x), (some (eval kE X.env), do let x ← eval vE X.env; standAt pos; pure x)]) _ _ _
  rw [rf_display]
  have hn := I.hok.fresh (Nat.le_refl s.heap.objs.size)
  have I1 := I.laid (a := s.heap.objs.size) (o := .dK []) (h' := s.heap.push { cls := .type "dict", data := .dict #[] }) (t' := s.toks) (fun _ _ q => Heap.get?_push_of_some _ q) (Nat.le_refl _) (dk_empty s.heap I.big)
  refine wpAny_bind (wpAny_alloc ?_)
  refine wpAny_bind (wpAny_holding (wpAny_bind (thn (he.run pins _ σ _ _ I1 (hq _ hn)) fun u s1 ⟨x, H1, I2, rx, a, kvs, ex, ha, nap, hp, hl, q1⟩ => wpAny_bind (wpAny_standAt (wpAny_pure ?_)))))
  subst ex
  obtain rfl : u = Value.ref a := rx
  generalize s.heap.objs.size = p at *
  obtain ⟨za, hda, va, ra, da⟩ := ha.ok I2.hok
  obtain ⟨zp, hdp, vp, rp, dp⟩ := dk_of I2.hok hp
  cases rp
  have hla : kvs.length = va.length := Paired.length ra
  refine wpAny_bind (wpAny_onRaise (wpAny_tryCatch (wpAny_onRaise (wpAny_holding (rf_merge (knd := mixKind X.prog X.w) (Ne.symm nap) hda mix_noref dp da (fun h' dp' da' hs => ?_) (by simp; omega))))))
  have hz1 : (mergeK [] kvs).length ≤ sizeLine := by
    have h1 := length_mergeK kvs []
    rw [List.length_nil] at h1
    omega
  have I3 : Inv X pins σ (upd H1 p (.dK (mergeK [] kvs))) { s1 with heap := h' } :=
    d_write (t' := s1.toks) I2 (by rw [hp]; exact True.intro) hs (let ⟨q, _, _, hq, _⟩ := dp'; ⟨q, hq⟩) (dk_new hz1 hdp (ra.merge .nil) dp')
  have hnq := I3.hok.fresh (Nat.le_refl h'.objs.size)
  have I4 := I3.laid (a := h'.objs.size) (o := .dK []) (h' := h'.push { cls := .type "dict", data := .dict #[] }) (t' := s1.toks) (fun _ _ q => Heap.get?_push_of_some _ q) (Nat.le_refl _) (dk_empty h' I3.big)
  refine wpAny_bind (wpAny_holding (wpAny_subDict (knd := mixKind X.prog X.w) (show 1 ≤ 15 by decide) ?_))
  show wpAny _ _ (evalPairs [(eval kE X.env, do let x ← eval vE X.env; standAt pos; pure x)]) _ _ _
  refine evalPairs_cons (thn (hk.run pins _ σ _ _ I4 (q1 _ hnq)) fun ku s2 ⟨kx, H2, I5, rk, q2⟩ => wpAny_bind (thn (hv.run pins s2 σ H2 _ I5 q2) fun vu s3 ⟨vx, H3, I6, rv, k, ek, hq3, hp3, q3⟩ => wpAny_bind (wpAny_standAt (wpAny_pure ?_))))
  refine evalPairs_nil ?_
  subst ek
  generalize h'.objs.size = q at *
  obtain ⟨_, hdq, vq, rq, dq⟩ := dk_of I6.hok hq3
  cases rq
  refine ⟨[(k, vu)], ⟨kV_is rk, rfl, True.intro⟩, dq, fun h2 dq2 hs2 => ?_⟩
  have hm1 : merged ([] : List (Key × Value)) [(k, vu)] = [(k, vu)] := rfl
  rw [hm1] at dq2
  have hpq : p ≠ q := fun e => by
    rw [e, hq3] at hp3
    cases hh : mergeK [] kvs with
    | nil => 
      rw [e] at hnq
      rw [upd_same] at hnq
      cases hnq
    | cons _ _ => rw [hh] at hp3; cases hp3
  have I7 : Inv X pins σ (upd H3 q (.dK [(k, vx)])) { s3 with heap := h2, toks := s3.toks + 1 } :=
    d_write (t' := s3.toks + 1) I6 (by rw [hq3]; exact True.intro) hs2 (let ⟨o, _, _, ho, _⟩ := dq2; ⟨o, ho⟩) (dk_new (show 1 ≤ sizeLine by decide) hdq (.cons ⟨rfl, rv⟩ .nil) dq2)
  have hp7 : upd H3 q (.dK [(k, vx)]) p = some (.dK (mergeK [] kvs)) := by rw [upd_ne hpq]; exact hp3
  obtain ⟨_, _, vp7, rp7, dp7⟩ := dk_of I7.hok hp7
  obtain ⟨_, _, vq7, rq7, dq7⟩ := dk_of I7.hok (show upd H3 q (.dK [(k, vx)]) q = some (.dK [(k, vx)]) from upd_same)
  have l7 : (mergeK [] kvs).length = vp7.length := Paired.length rp7
  have lq7 : vq7.length = 1 := (Paired.length rq7).symm
  have hz7 : (mergeK [] kvs).length ≤ kvs.length := by
    have h1 := length_mergeK kvs []
    rw [List.length_nil] at h1
    omega
  refine wpAny_bind (wpAny_onRaise (wpAny_holding (rf_merge (knd := mixKind X.prog X.w) hpq hdq mix_noref dp7 dq7 (fun h8 dp8 dq8 hs8 => wpAny_pure ?_) (by omega))))
  have hz8 : (mergeK (mergeK [] kvs) [(k, vx)]).length ≤ sizeLine := by
    have h1 := length_mergeK [(k, vx)] (mergeK [] kvs)
    simp at h1
    omega
  exact ⟨.ref p, _, d_write (t' := s3.toks + 1) I7 (by rw [hp7]; exact True.intro) hs8 (let ⟨o, _, _, ho, _⟩ := dp8; ⟨o, ho⟩) (dk_new hz8 hdp (rq7.merge rp7) dp8), rfl, q3⟩
end
end Rf

namespace Rf
open PySem PySem.Spec PyProof.Rows L2

section
variable {K : PySem.W.Frag} {H : Hp}
theorem rpl_put {κ : Type} [DecidableEq κ] [Qk κ] {k : κ} {v : V} {d : D} (o : Rp K H v d) : ∀ {kvs : List (κ × V)} {ds : List (κ × D)}, kvs.map (·.1) = ds.map (·.1) → RpL K H (kvs.map (·.2)) (ds.map (·.2)) →
    (putV k v kvs).map (·.1) = (putD k d ds).map (·.1) ∧ RpL K H ((putV k v kvs).map (·.2)) ((putD k d ds).map (·.2))
  | [], [], _, _ => ⟨rfl, .cons o .nil⟩
  | [], _ :: _, h, _ => by simp at h
  | _ :: _, [], h, _ => by simp at h
  | (a, x) :: kvs, (a', y) :: ds, h, r => by
    simp only [List.map_cons, List.cons.injEq] at h
    obtain ⟨rfl, h⟩ := h
    cases r with
    | cons r1 r2 =>
      unfold putV putD
      by_cases e : a = k
      · simp only [e, if_true, List.map_cons]
        exact ⟨by rw [h], .cons o r2⟩
      · simp only [e, if_false, List.map_cons]
        obtain ⟨h1, h2⟩ := rpl_put o h r2
        exact ⟨by rw [h1], .cons r1 h2⟩
theorem ndK_nodup {κ : Type} [Qk κ] : ∀ {ds : List (κ × D)}, ndK ds = true → (ds.map (·.1)).Nodup
  | [], _ => List.nodup_nil
  | (k, d) :: ds, h => by
    simp only [ndK, Bool.and_eq_true, List.all_eq_true, Bool.not_eq_true', decide_eq_false_iff_not] at h
    rw [List.map_cons, List.nodup_cons]
    refine ⟨fun m => ?_, ndK_nodup h.2⟩
    obtain ⟨q, hq, e⟩ := List.mem_map.mp m
    exact h.1 q hq e
theorem merge_fresh : ∀ (more acc : List (Key × V)), ((acc ++ more).map (·.1)).Nodup → mergeK acc more = acc ++ more
  | [], acc, _ => by simp [mergeK]
  | (k, v) :: more, acc, hn => by
    have hfresh : ¬ (acc.any fun x => decide (x.1 = k)) = true := by
      rw [List.any_eq_true]
      rintro ⟨x, hx, he⟩
      rw [List.map_append, List.map_cons, List.nodup_append] at hn
      exact hn.2.2 x.1 (List.mem_map.mpr ⟨x, hx, rfl⟩) k List.mem_cons_self (of_decide_eq_true he)
    have : mergeK acc ((k, v) :: more) = mergeK (acc ++ [(k, v)]) more := by
      simp only [mergeK, List.foldl_cons, putK, if_neg hfresh]
    rw [this, merge_fresh more (acc ++ [(k, v)]) (by simpa using hn)]
    simp
/-- what is hidden outside may be changed -/
theorem Rel.chgU {M : List Nat} {U : AS} {S : Nat → AS} {σ : L2.St} {env : Env} {p : Addr} {x y : List (Key × V)} (r : Rel K M U S H σ env) (hU : U p) (hp : H p = some (.dK x)) : Rel K M U S (upd H p (.dK y)) σ env := by
  have hup := ow_tup (K := K) (H := H) (a := p) (o := .dK y) (fun xs z => by rw [hp] at z; cases z) (fun _ _ z => by rw [hp] at z; cases z)
  refine ⟨fun i d hi he => ?_, fun i d hi he => ?_, r.dis, r.out, fun a z => ?_, r.len⟩
  · obtain ⟨v, h1, h2⟩ := r.own i d hi he
    refine ⟨v, h1, h2.carry hup.1 hup.2 fun a o sa h => ?_⟩
    rw [upd_ne fun e => r.out i a sa (by rw [e]; exact hU)]
    exact h
  · obtain ⟨v, h1, h2⟩ := r.frz i d hi he
    refine ⟨v, h1, h2.mono fun a o h => ?_⟩
    obtain ⟨w1, w2⟩ := of_vis h
    exact vis_in (by rw [upd_ne fun e => w2 (.inl (by rw [e]; exact hU))]; exact w1) w2
  · by_cases e : a = p
    · subst e
      exact ⟨by rw [upd_same]; simp, fun xs z => by rcases z with z | ⟨o, z⟩ <;> rw [upd_same] at z <;> cases z⟩
    · obtain ⟨h1, h2⟩ := r.nt a z
      refine ⟨by rw [upd_ne e]; exact h1, fun xs q => h2 xs ?_⟩
      rcases q with q | ⟨o, q⟩
      · rw [upd_ne e] at q; exact .inl q
      · rw [upd_ne e] at q; exact .inr ⟨o, q⟩
end
section
variable {X : Cx} {M : List Nat} {W : WX} {b : Bool} {pos : Pos} {dE kE vE : Expr} {Fd Fk Fv : Env → O D}
def eDStar (Fd Fk Fv : Env → O D) : Env → O D := fun env => match Fd env with
  | .ok (.dic ds) => if ndK ds && decide (ds.length < sizeLine) then match Fk env, Fv env with
    | .ok dk, .ok dv => match keyOf dk with
      | some k => .ok (.dic (putD k dv ds))
      | none => .bad
    | _, _ => .bad else .bad
  | _ => .bad
theorem hide_dict {K : PySem.W.Frag} {M : List Nat} {U : AS} {S : Nat → AS} {H : Hp} {σ : L2.St} {env : Env} {p : Addr} (r : Rel K M U S H σ env) (hn : H p = none) : Rel K M (un U fun a => a = p) S (upd H p (.dK [])) σ env :=
  r.hide (Ex.new hn) (fun a e => by rw [e]; exact hn) fun a e => by
    subst e
    exact ⟨by rw [upd_same]; simp, fun xs z => by rcases z with z | ⟨o, z⟩ <;> rw [upd_same] at z <;> cases z⟩
theorem sp_dstar (h1 : SP X M W b dE Fd) (h2 : SP X M W b kE Fk) (h3 : SP X M W b vE Fv) : SP X M W b (.Dict [none, some kE] [dE, vE] pos) (eDStar Fd Fk Fv) := by
  obtain ⟨td, pd, qd⟩ := h1
  obtain ⟨tk, pk, qk⟩ := h2
  obtain ⟨tv, pv, qv⟩ := h3
  refine ⟨_, pe_dstar pd pk pv, fun σ H env U S r Q hp p hn => ?_⟩
  unfold eDStar at hp
  have r1 := hide_dict r hn
  refine qd σ _ env _ S r1 _ ?_
  cases hFd : Fd env with
  | bad => rw [hFd] at hp; exact hp.elim
  | exc _ _ => rw [hFd] at hp; exact hp.elim
  | ok d =>
    rw [hFd] at hp
    intro vd H1 e1 rd
    cases rd with
    | @dic a kvs ds ha hk rr =>
      simp only at hp
      cases hc : (ndK ds && decide (ds.length < sizeLine)) with
      | false => rw [hc] at hp; exact (show False by simpa [Po] using hp).elim
      | true =>
        rw [hc] at hp
        simp only [if_true] at hp
        simp only [Bool.and_eq_true, decide_eq_true_eq] at hc
        have hl : kvs.length = ds.length := by simpa using congrArg List.length hk
        have hmk : mergeK [] kvs = kvs := by
          have := merge_fresh kvs [] (by rw [List.nil_append, hk]; exact ndK_nodup hc.1)
          simpa using this
        have hp1 : H1 p = some (.dK []) := e1 _ _ upd_same
        have nap : a ≠ p := fun e => by
          rcases ha with ha | ⟨o, ha⟩
          · exact (of_vis ha).2 (.inl (.inr e))
          · exact (of_vis ha).2 (.inl (.inr e))
        refine ⟨a, kvs, rfl, ex_rd vis_ex ha, nap, hp1, by omega, fun q hq => ?_⟩
        rw [hmk] at hq ⊢
        have hqp : q ≠ p := fun e => by rw [e, upd_same] at hq; cases hq
        have hq1 : H1 q = none := by rw [upd_ne hqp] at hq; exact hq
        have r2 : Rel X.K M (un U fun a => a = p) S (upd H1 p (.dK kvs)) σ env := (r1.mono e1).chgU (.inr rfl) hp1
        have r3 := hide_dict r2 hq
        refine qk σ _ env _ S r3 _ ?_
        cases hFk : Fk env with
        | bad => rw [hFk] at hp; exact hp.elim
        | exc _ _ => rw [hFk] at hp; exact hp.elim
        | ok dk =>
          rw [hFk] at hp
          intro vk H2 e2 rk
          refine qv σ H2 env _ S (r3.mono e2) _ ?_
          cases hFv : Fv env with
          | bad => rw [hFv] at hp; exact hp.elim
          | exc _ _ => rw [hFv] at hp; exact hp.elim
          | ok dv =>
            rw [hFv] at hp
            simp only at hp
            cases hkk : keyOf dk with
            | none => rw [hkk] at hp; exact fun _ _ _ _ => hp.elim
            | some k =>
              rw [hkk] at hp
              simp only at hp
              intro vv H3 e3 rv
              have e23 : Ex (upd (upd H1 p (.dK kvs)) q (.dK [])) H3 := e2.trans e3
              have hq3 : H3 q = some (.dK []) := e23 _ _ upd_same
              have hp3 : H3 p = some (.dK kvs) := e23 _ _ (by rw [upd_ne (Ne.symm hqp)]; exact upd_same)
              refine ⟨k, keyOf_V rk hkk, hq3, hp3, ?_⟩
              have hmk2 : mergeK kvs [(k, vv)] = putV k vv kvs := by
                rw [putV_putK k vv hk hc.1]; rfl
              rw [hmk2]
              have step : ∀ {b' : Addr} {o : HO}, H3 b' = some o → b' ≠ p → b' ≠ q → upd (upd H3 q (.dK [(k, vv)])) p (.dK (putV k vv kvs)) b' = some o := fun h n1 n2 => by
                rw [upd_ne n1, upd_ne n2]; exact h
              have ex : Ex H (upd (upd H3 q (.dK [(k, vv)])) p (.dK (putV k vv kvs))) := fun b' o hb => by
                have n1 : b' ≠ p := fun e => by rw [e, hn] at hb; cases hb
                have hb1 : H1 b' = some o := e1 _ _ (by rw [upd_ne n1]; exact hb)
                have n2 : b' ≠ q := fun e => by rw [e, hq1] at hb1; cases hb1
                exact step (e23 _ _ (by rw [upd_ne n2, upd_ne n1]; exact hb1)) n1 n2
              have seen1 : Ex (vis H1 (zb b (un U fun a => a = p) S)) (vis (upd (upd H3 q (.dK [(k, vv)])) p (.dK (putV k vv kvs))) (zb b U S)) := fun b' o hb => by
                obtain ⟨w1, w2⟩ := of_vis hb
                have n1 : b' ≠ p := fun e => w2 (.inl (.inr e))
                have n2 : b' ≠ q := fun e => by rw [e, hq1] at w1; cases w1
                exact vis_in (step (e23 _ _ (by rw [upd_ne n2, upd_ne n1]; exact w1)) n1 n2) fun z => w2 (z.elim (fun z => .inl (.inl z)) .inr)
              have seen2 : Ex (vis H3 (zb b (un (un U fun a => a = p) fun a => a = q) S)) (vis (upd (upd H3 q (.dK [(k, vv)])) p (.dK (putV k vv kvs))) (zb b U S)) := fun b' o hb => by
                obtain ⟨w1, w2⟩ := of_vis hb
                exact vis_in (step w1 (fun e => w2 (.inl (.inl (.inr e)))) fun e => w2 (.inl (.inr e))) fun z => w2 (z.elim (fun z => .inl (.inl (.inl z))) .inr)
              obtain ⟨g1, g2⟩ := rpl_put (k := k) (rv.mono seen2) hk (rr.mono seen1)
              exact hp _ _ ex (.dic (.inl (vis_in upd_same fun z => ((r.ntb b) p z).1 hn)) g1 g2)
    | _ => exact hp.elim
end
end Rf

namespace Rf
open PySem PySem.Spec PyProof.Rows L2
theorem gd_of {P : Program} {w : World} {K : PySem.W.Frag} {mg : Str → Option Value} {base : Heap} {N : List Str} {qual : Str} {scope : Scope} {f : Addr} {cdv : Value} {A : Around} {outer : List PySem.Env} {s : Shared} {H : Hp} {E : XK} {k : Nat} (hN : N.Nodup) (hr : Room k (A.deeper (envOfC qual scope s.heap.objs.size f cdv))) :
    Gd (cxOf (L2.CX P w) P w K mg base N qual scope f cdv A outer s H E) (fun c d _ H => E c d H) k :=
  ⟨rfl, hr, takes_of rfl rfl rfl rfl, hN, passes_of rfl⟩
theorem Gd.blk {X : Cx} {W : WX} {k : Nat} {scope : Scope} {s : Shared} {H : Hp} {C : Addr} {cl : List (Str × Addr)} {fp : List Addr} (g : Gd X W k) : Gd (Bk X scope s H C cl fp) W0 k :=
  ⟨g.calm, g.room, fun _ _ ⟨_, _, _, _, _, _, _, _, _, _, _, _, _, _, _, _, w⟩ => w.elim, g.nd, PassesOwn.never⟩
section
variable {X : Cx} {M : List Nat} {W : WX} {b : Bool} {pos p tpos : Pos} {tg e : Expr} {elts : List Expr} {kk : Nat} {F : Env → O D}
/-- a slot that owns nothing, looked at or kept -/
theorem sp_v {i : Nat} {x : Str} (hM : M.contains i = false) (hN : X.N[i]? = some x) (hv : Vis X.env.scope x) (hd : (x == ("__debug__" : Str)) = false := by decide) (hcd : (x == ("__classdict__" : Str)) = false := by decide) : SP X M W b (.Name x pos) (eVar i) := by
  refine ⟨_, pe_var hN hv hd hcd, fun σ H env U S r Q hp => ?_⟩
  have hM' : i ∉ M := by simpa using hM
  unfold eVar at hp
  split at hp
  · rename_i d he
    obtain ⟨v, h1, h2⟩ := r.frz i d hM' he
    exact ⟨v, h1, hp v H (Ex.refl H) (h2.mono (vis_sub fun a z => zb_zo z))⟩
  · exact hp.elim
/-- the items of a list, a tuple, a text -/
def itA : O D → O (List D)
  | .ok (.lst ds) => .ok ds
  | .ok (.scr ns) => .ok (ns.map .int)
  | .ok (.tup ds) => .ok ds
  | .ok (.str z) => .ok (signsD z)
  | .ok _ => .bad
  | .exc c d => .exc c d
  | .bad => .bad
theorem si_any (h : SP X M W b e F) : SI X M W b tg e (fun env => itA (F env)) := by
  obtain ⟨w1, p1, q1⟩ := si_list (tg := tg) h
  obtain ⟨w2, p2, q2⟩ := si_tup (tg := tg) h
  obtain ⟨w3, p3, q3⟩ := si_str (tg := tg) h
  refine ⟨fun σ H Q => w1 σ H Q ∨ w2 σ H Q ∨ w3 σ H Q, ⟨fun pins s σ H R I hw => ?_⟩, fun σ H env U S r Q hp => ?_⟩
  · rcases hw with hw | hw | hw
    · exact p1.run pins s σ H R I hw
    · exact p2.run pins s σ H R I hw
    · exact p3.run pins s σ H R I hw
  · dsimp only at hp q1 q2 q3
    cases hF : F env with
    | bad => rw [hF] at hp; exact hp.elim
    | exc c d => rw [hF] at hp; exact .inl (q1 σ H env U S r Q (by rw [hF]; exact hp))
    | ok d =>
      rw [hF] at hp
      cases d with
      | lst ds => exact .inl (q1 σ H env U S r Q (by rw [hF]; exact hp))
      | scr ns => exact .inl (q1 σ H env U S r Q (by rw [hF]; exact hp))
      | tup ds => exact .inr (.inl (q2 σ H env U S r Q (by rw [hF]; exact hp)))
      | str z => exact .inr (.inr (q3 σ H env U S r Q (by rw [hF]; exact hp)))
      | _ => exact hp.elim
def itEn : O D → O (List D)
  | .ok (.lst ds) => .ok (enumD ds)
  | .ok (.tup ds) => .ok (enumD ds)
  | .ok _ => .bad
  | .exc c d => .exc c d
  | .bad => .bad
theorem si_enum (hg : Gl X "enumerate") (hm : X.mg "enumerate" = none) (h : SP X M W b e F) (hs : noStar [e] = true := by rfl) : SI X M W b (.Tuple elts kk tpos) (.Call (.Name "enumerate" p) [e] [] pos) (fun env => itEn (F env)) := by
  obtain ⟨w1, p1, q1⟩ := si_enumL (elts := elts) (kk := kk) (tpos := tpos) (p := p) (pos := pos) hg hm h hs
  obtain ⟨w2, p2, q2⟩ := si_enumT (elts := elts) (kk := kk) (tpos := tpos) (p := p) (pos := pos) hg hm h hs
  refine ⟨fun σ H Q => w1 σ H Q ∨ w2 σ H Q, ⟨fun pins s σ H R I hw => ?_⟩, fun σ H env U S r Q hp => ?_⟩
  · rcases hw with hw | hw
    · exact p1.run pins s σ H R I hw
    · exact p2.run pins s σ H R I hw
  · dsimp only at hp q1 q2
    cases hF : F env with
    | bad => rw [hF] at hp; exact hp.elim
    | exc c d => rw [hF] at hp; exact .inl (q1 σ H env U S r Q (by rw [hF]; exact hp))
    | ok d =>
      rw [hF] at hp
      cases d with
      | lst ds => exact .inl (q1 σ H env U S r Q (by rw [hF]; exact hp))
      | tup ds => exact .inr (q2 σ H env U S r Q (by rw [hF]; exact hp))
      | _ => exact hp.elim
/-! d[k] -/
def getK (k : Key) : List (Key × D) → Option D
  | [] => none
  | (j, d) :: r => @ite _ (j = k) (Qk.dec j k) (some d) (getK k r)
theorem getK_rp {K : PySem.W.Frag} {H : Hp} {k : Key} : ∀ {kvs : List (Key × V)} {ds : List (Key × D)} {d : D}, kvs.map (·.1) = ds.map (·.1) → RpL K H (kvs.map (·.2)) (ds.map (·.2)) → getK k ds = some d → ∃ v, valV kvs k = some v ∧ Rp K H v d
  | [], [], _, _, _, h => by simp [getK] at h
  | [], _ :: _, _, h, _, _ => by simp at h
  | _ :: _, [], _, h, _, _ => by simp at h
  | (a, v) :: kvs, (c, x) :: ds, d, hk, r, h => by
    simp only [List.map_cons, List.cons.injEq] at hk
    obtain ⟨rfl, hk⟩ := hk
    cases r with
    | cons r1 r2 =>
      unfold getK at h
      by_cases e : a = k
      · rw [if_pos e] at h
        cases h
        exact ⟨v, valV_pos (p := (a, v)) e, r1⟩
      · rw [if_neg e] at h
        obtain ⟨w, h1, h2⟩ := getK_rp hk r2 h
        exact ⟨w, by rw [valV_neg (p := (a, v)) e]; exact h1, h2⟩
def fDget : D → D → O D
  | .dic ds, dk => match keyOf dk with
    | some k => match getK k ds with
      | some d => .ok d
      | none => .bad
    | none => .bad
  | _, _ => .bad
theorem sp_dget {k : Nat} {o i : Expr} {Fo Fi : Env → O D} (gd : Gd X W k) (h1 : SP X M W b o Fo) (h2 : SP X M W b i Fi) (hs : NoSl i := by exact fun _ _ => rfl) : SP X M W b (.Subscript o i pos) (nd (g2 fDget) [Fo, Fi]) := by
  obtain ⟨ts, ps, qs⟩ := sps_run (SPs.cons h1 (SPs.cons h2 SPs.nil))
  cases ps with | cons p1 ps => cases ps with | cons p2 ps => cases ps with | nil =>
  refine ⟨_, pe_dget gd.hu1 p1 p2 hs, fun σ H env U S r Q hp => ?_⟩
  have hp' : Po X.K W (zb b U S) H σ (rpZ X.K (zb b U S)) Q ((seqF [Fo, Fi] env).bind (g2 fDget)) := hp
  have := qs σ H env U S r (fun vs H1 => match vs with
    | [x, y] => ∃ a v, x = .ref a ∧ DGet H1 a y (some v) ∧ Q v H1
    | _ => False) (Po.step hp' fun ds vs H1 hF e1 r1 h1 => by
    cases r1 with
    | nil => exact h1.elim
    | cons q1 r1 => cases r1 with
      | nil => exact h1.elim
      | cons q2 r1 => cases r1 with
        | cons _ _ => exact h1.elim
        | nil =>
          cases q1 with
          | @dic a kvs ds ha hk rr =>
            simp only [g2, fDget] at h1
            split at h1
            · rename_i k hkk
              split at h1
              · rename_i d hd
                obtain ⟨v, g1, g2⟩ := getK_rp hk rr hd
                exact ⟨a, v, rfl, .inl ⟨kvs, k, ex_rd vis_ex ha, keyOf_V q2 hkk, g1.symm⟩, h1 v H1 (Ex.refl H1) g2⟩
              · exact h1.elim
            · exact h1.elim
          | _ => exact h1.elim)
  exact this
end
end Rf

namespace Rf
open PySem PySem.Spec PyProof.Rows L2
/-! tests that change what the slots own -/
def asBR : R D → R Bool
  | .ok (.bl b) e => .ok b e
  | .ok _ _ => .bad
  | .exc c d e => .exc c d e
  | .bad => .bad
def notR : R Bool → R Bool
  | .ok b e => .ok (!b) e
  | .exc c d e => .exc c d e
  | .bad => .bad
section
variable {X : Cx} {M : List Nat} {W : WX} {e a : Expr} {pos : Pos}
theorem ste_val {F : Env → R D} (h : SE X M W e F) (he : ∀ whole, isTrue e X.env whole = (do let v ← whole; standAt e.pos; holding [v] (truthy v)) := by intro _; rfl) : STe X M W e (fun env => asBR (F env)) := by
  obtain ⟨t, p, q⟩ := h
  refine ⟨_, pt_val p he, fun σ H env U S r Q hp => q σ H env U S r _ ?_⟩
  dsimp only at hp
  cases hF : F env with
  | ok d e' =>
    rw [hF] at hp
    intro v H' S' po rp
    cases rp with
    | bl k => exact ⟨k, rfl, hp k H' S' po rfl⟩
    | _ => exact hp.elim
  | exc c d e' => rw [hF] at hp; exact hp
  | bad => rw [hF] at hp; exact hp.elim
theorem ste_not {F : Env → R Bool} (h : STe X M W a F) : STe X M W (.UnaryOp .Not a pos) (fun env => notR (F env)) := by
  obtain ⟨t, p, q⟩ := h
  refine ⟨_, pt_not p, fun σ H env U S r Q hp => q σ H env U S r _ ?_⟩
  dsimp only at hp
  cases hF : F env with
  | ok k e' =>
    rw [hF] at hp
    rintro v H' S' po rfl
    exact hp (!v) H' S' po rfl
  | exc c d e' => rw [hF] at hp; exact hp
  | bad => rw [hF] at hp; exact hp.elim
/-- a and e: a looked at, e changes what the slots own -/
def eAndR (Fa : Env → O D) (F : Env → R D) : Env → R D := fun env => match Fa env with
  | .ok (.bl true) => F env
  | .ok (.bl false) => .ok (.bl false) env
  | _ => .bad
theorem se_and {Fa : Env → O D} {F : Env → R D} (ha : SP X M W false a Fa) (h : SE X M W e F) : SE X M W (.BoolOp .And [a, e] pos) (eAndR Fa F) := by
  obtain ⟨ta, pa, qa⟩ := ha
  obtain ⟨t, p, q⟩ := h
  refine ⟨_, pe_and pa (pe_one p), fun σ H env U S r Q hp => qa σ H env U S r _ ?_⟩
  unfold eAndR at hp
  cases hFa : Fa env with
  | bad => rw [hFa] at hp; exact hp.elim
  | exc _ _ => rw [hFa] at hp; exact hp.elim
  | ok d =>
    rw [hFa] at hp
    intro v H' ex rp
    cases rp with
    | bl k =>
      refine ⟨k, rfl, ?_⟩
      cases k with
      | true =>
        simp only [if_true]
        exact q σ H' env U S (r.mono ex) Q (PoE.up (r.post ex) hp)
      | false => exact hp _ H' S (r.post ex) (.bl false)
    | _ => exact hp.elim
end
end Rf

namespace Rf
open PySem PySem.Spec PyProof.Rows L2

section
variable {P : Program} {w : World} {K : PySem.W.Frag} {mg : Str → Option Value} {base : Heap} {j k : Nat} {x c m : Str} {n : Nat} {io : List Nat} {ro : Bool} {dds : List D} {g : List D → C} {ks : List Str} {pi : List Nat}
theorem Mth.mono (h : Mth P w K mg base j c m n io ro dds g) (hk : j ≤ k) : Mth P w K mg base k c m n io ro dds g := by
  obtain ⟨f, fd, ps, dvs, dsV, h1, h2, h3, h4, h5⟩ := h.ex
  exact ⟨f, fd, ps, dvs, dsV, h1, h2, h3, h4.mono hk, h5⟩
theorem Prp.mono (h : Prp P w K mg base j c m ro g) (hk : j ≤ k) : Prp P w K mg base k c m ro g := by
  obtain ⟨p, f, fd, ps, h1, h2, h3, h4, h5⟩ := h.ex
  exact ⟨p, f, fd, ps, h1, h2, h3, h4.mono hk, h5⟩
theorem Mkr.mono (h : Mkr P w K mg base j c n g) (hk : j ≤ k) : Mkr P w K mg base k c n g := by
  obtain ⟨f, fd, ps, h1, h2, h3, h4, h5⟩ := h.ex
  exact ⟨f, fd, ps, h1, h2, h3, h4.mono hk, h5⟩
theorem Spl.mono (h : Spl P w K mg base j c m ro g) (hk : j ≤ k) : Spl P w K mg base k c m ro g := by
  obtain ⟨f, fd, ps, h1, h2, h3, h4, h5⟩ := h.ex
  exact ⟨f, fd, ps, h1, h2, h3, h4.mono hk, h5⟩
theorem CalK.mono (h : CalK P w K mg base j x ks pi ro g) (hk : j ≤ k) : CalK P w K mg base k x ks pi ro g := by
  obtain ⟨f, fd, ps, h1, h2, h3, h4⟩ := h.ex
  exact ⟨f, fd, ps, h1, h2, h3.mono hk, h4⟩
theorem MthK.mono (h : MthK P w K mg base j c m ks pi ro g) (hk : j ≤ k) : MthK P w K mg base k c m ks pi ro g := by
  obtain ⟨f, fd, ps, h1, h2, h3, h4⟩ := h.ex
  exact ⟨f, fd, ps, h1, h2, h3.mono hk, h4⟩
theorem MkrK.mono (h : MkrK P w K mg base j c ks pi g) (hk : j ≤ k) : MkrK P w K mg base k c ks pi g := by
  obtain ⟨f, fd, ps, h1, h2, h3, h4⟩ := h.ex
  exact ⟨f, fd, ps, h1, h2, h3.mono hk, h4⟩
/-! from what stands behind the head -/
variable {qual : Str} {params : Arguments} {body : List Stmt} {scope : Scope} {dvs : List V} {f : Addr} {fd : FuncData} {ps : List Str}
theorem perm_vals : ∀ (pi : List Nat) {vs : List V} {us : List Value}, Vals vs us → Vals (permL pi vs) (permL pi us)
  | [], _, _, _ => .nil
  | i :: pi, vs, us, r => by
    unfold permL
    rw [List.filterMap_cons, List.filterMap_cons]
    cases hv : vs[i]? with
    | none =>
      have : us[i]? = none := by
        rw [List.getElem?_eq_none_iff] at hv ⊢
        rw [← r.length]; exact hv
      rw [this]
      exact perm_vals pi r
    | some v =>
      obtain ⟨u, h1, h2⟩ := r.get hv
      rw [h1]
      exact .cons h2 (perm_vals pi r)
/-- keywords alone, behind n values; no defaults -/
theorem kb_of (F : FunD K x qual params body scope [] [] f fd) (n : Nat) (ks : List Str) (pi : List Nat)
    (h : ∀ (kV doc pm : Value) (an : Option Addr) (cdv ct : Value) (us ws : List Value), us.length = n → ws.length = ks.length → bindArgs (PySem.W.fnOf x qual params body scope .none kV doc pm an cdv ct) ⟨us, ks.zip ws⟩ = pure (ps.zip (us ++ permL pi ws))) :
    KBn K fd ps n ks (fun us ws => us ++ permL pi ws) (fun vs zs => vs ++ permL pi zs) := by
  obtain ⟨oc, od, dV, kV, doc, pm, an, cdv, ct, osl, rfl, lk, hcd, hD, hK⟩ := F.ex
  rcases hD with ⟨_, rfl⟩ | ⟨e, _⟩
  · exact ⟨fun s us ws X l1 l2 => .of_eq (h kV doc pm an cdv ct us ws l1 l2), fun r1 r2 => r1.append (perm_vals pi r2)⟩
  · exact absurd rfl e
theorem kb0_of (F : FunD K x qual params body scope [] [] f fd) (ks : List Str) (pi : List Nat)
    (h : ∀ (kV doc pm : Value) (an : Option Addr) (cdv ct : Value) (ws : List Value), ws.length = ks.length → bindArgs (PySem.W.fnOf x qual params body scope .none kV doc pm an cdv ct) ⟨[], ks.zip ws⟩ = pure (ps.zip (permL pi ws))) :
    KBn K fd ps 0 ks (fun _ ws => permL pi ws) (fun _ zs => permL pi zs) := by
  obtain ⟨oc, od, dV, kV, doc, pm, an, cdv, ct, osl, rfl, lk, hcd, hD, hK⟩ := F.ex
  rcases hD with ⟨_, rfl⟩ | ⟨e, _⟩
  · refine ⟨fun s us ws X l1 l2 => ?_, fun r1 r2 => perm_vals pi r2⟩
    have : us = [] := List.eq_nil_of_length_eq_zero l1
    subst this
    exact .of_eq (h kV doc pm an cdv ct ws l2)
  · exact absurd rfl e
theorem cal_of (hm : mg x = some (.ref f)) (hk : PySem.W.keepIn K (.ref f) = true) (hl : ps.length = n) (F : FnOk P w K mg base (L2.CX P w) k f fd ps (spC K n io ro g)) (b : Binds K fd ps []) : Cal P w K mg base k x n io ro [] g :=
  ⟨f, fd, ps, [], [], hm, hk, by simpa using hl, by simpa using F, b, .nil, fun _ => .nil⟩
theorem mth_of (cl : Cls K (He.ga K c)) (mt : Meth K (He.ga K c) m f) (hl : ps.length = n) (F : FnOk P w K mg base (L2.CX P w) k f fd ps (spC K n io ro g)) (b : Binds K fd ps []) : Mth P w K mg base k c m n io ro [] g :=
  ⟨f, fd, ps, [], [], cl, mt, by simpa using hl, by simpa using F, b, .nil, fun _ => .nil⟩
theorem cal_ofD {dds : List D} {dws : List V} (hm : mg x = some (.ref f)) (hk : PySem.W.keepIn K (.ref f) = true) (hl : ps.length = n + dds.length) (F : FnOk P w K mg base (L2.CX P w) k f fd ps (spC K (n + dds.length) io ro g)) (b : ∃ ds, Vals dws ds ∧ Binds K fd ps ds) (r : ∀ H, RpL K H dws dds) : Cal P w K mg base k x n io ro dds g := by
  obtain ⟨ds, h1, h2⟩ := b
  exact ⟨f, fd, ps, dws, ds, hm, hk, hl, F, h2, h1, r⟩
end
end Rf

namespace Rf
open PySem PySem.Spec PyProof.Rows L2

/-! defs worked out ahead: the slots are gone -/
/-- one name walks -/
def compP (T : D → O Bool) (E : D → O D) : List D → O (List D)
  | [] => .ok []
  | d :: ds => match T d with
    | .ok true => (match E d with
      | .ok y => (match compP T E ds with
        | .ok ys => .ok (y :: ys)
        | .exc c x => .exc c x
        | .bad => .bad)
      | _ => .bad)
    | .ok false => compP T E ds
    | _ => .bad
theorem compF_gN (vs : List Nat) (i : Nat) (T : Env → O Bool) (E : Env → O D) (env : Env) (ds : List D) : compF vs (gN i) T E env ds = compP (fun d => T (env.set i (some d))) (fun d => E (env.set i (some d))) ds := by
  induction ds with
  | nil => rfl
  | cons d ds ih =>
    simp only [compF, gN, compP, ih]
    cases T (env.set i (some d)) with
    | ok k =>
      cases k
      · rfl
      · cases E (env.set i (some d)) with
        | ok y => simp only [noX, O.bind]; cases compP (fun d => T (env.set i (some d))) (fun d => E (env.set i (some d))) ds <;> rfl
        | exc c x => rfl
        | bad => rfl
    | exc c x => rfl
    | bad => rfl
/-- two names walk, pairs -/
def pairOf : D → Option (D × D)
  | .tup [x, y] => some (x, y)
  | _ => none
def compP2 (T : D → D → O Bool) (E : D → D → O D) : List D → O (List D)
  | [] => .ok []
  | d :: ds => match pairOf d with
    | none => .bad
    | some (x, y) => match T x y with
      | .ok true => (match E x y with
        | .ok z => (match compP2 T E ds with
          | .ok ys => .ok (z :: ys)
          | .exc c x => .exc c x
          | .bad => .bad)
        | _ => .bad)
      | .ok false => compP2 T E ds
      | _ => .bad
theorem gT_pair (i j : Nat) (d : D) (env : Env) : gT 2 (gsC (gN i) (gsC (gN j) gsN)) d env = (pairOf d).map fun p => (env.set i (some p.1)).set j (some p.2) := by
  unfold gT pairOf
  cases d with
  | tup ds =>
    match ds with
    | [] => rfl
    | [_] => rfl
    | [x, y] => rfl
    | _ :: _ :: _ :: _ => simp
  | _ => rfl
theorem compF_gT (vs : List Nat) (i j : Nat) (T : Env → O Bool) (E : Env → O D) (env : Env) (ds : List D) : compF vs (gT 2 (gsC (gN i) (gsC (gN j) gsN))) T E env ds =
    compP2 (fun x y => T ((env.set i (some x)).set j (some y))) (fun x y => E ((env.set i (some x)).set j (some y))) ds := by
  induction ds with
  | nil => rfl
  | cons d ds ih =>
    simp only [compF, gT_pair, compP2, ih]
    cases pairOf d with
    | none => rfl
    | some p =>
      obtain ⟨x, y⟩ := p
      simp only [Option.map_some]
      cases T ((env.set i (some x)).set j (some y)) with
      | ok k =>
        cases k
        · rfl
        · cases E ((env.set i (some x)).set j (some y)) with
          | ok z => simp only [noX, O.bind]; cases compP2 (fun x y => T ((env.set i (some x)).set j (some y))) (fun x y => E ((env.set i (some x)).set j (some y))) ds <;> rfl
          | exc c x => rfl
          | bad => rfl
      | exc c x => rfl
      | bad => rfl
section
variable {α : Type} (F : Env → O D) (T : Env → O Bool) (A B Rt : Env → Fl) (env : Env)
theorem w_ret (G : Env → R D) : seqB (sRet G) Rt env = sRet G env := by
  unfold seqB sRet
  cases G env <;> rfl
theorem w_nil : seqB sNil Rt env = Rt env := rfl
theorem w_bad : seqB sBad Rt env = .bad := rfl
theorem w_seq (A1 A2 : Env → Fl) : seqB (seqB A1 A2) Rt env = seqB A1 (seqB A2 Rt) env := by
  unfold seqB
  cases A1 env <;> rfl
theorem w_ifL : seqB (sIf (liftB T) A B) Rt env = match T env with
    | .ok true => seqB A Rt env
    | .ok false => seqB B Rt env
    | .exc c d => .exc c d env
    | .bad => .bad := by
  unfold seqB sIf liftB O.at
  cases T env with
  | ok k => cases k <;> rfl
  | exc c d => rfl
  | bad => rfl
theorem w_if : sIf (liftB T) A B env = match T env with
    | .ok true => A env
    | .ok false => B env
    | .exc c d => .exc c d env
    | .bad => .bad := by
  unfold sIf liftB O.at
  cases T env with
  | ok k => cases k <;> rfl
  | exc c d => rfl
  | bad => rfl
theorem w_setL (i : Nat) : seqB (sSet i (lift F)) Rt env = match F env with
    | .ok d => Rt (env.set i (some d))
    | .exc c d => .exc c d env
    | .bad => .bad := by
  unfold seqB sSet lift O.at
  cases F env <;> rfl
theorem w_setLL (i : Nat) (G : Env → O (List D)) : seqB (sSet i (liftL G)) Rt env = match G env with
    | .ok ds => if immL ds then Rt (env.set i (some (.lst ds))) else .bad
    | .exc _ _ => .bad
    | .bad => .bad := by
  unfold seqB sSet liftL
  cases G env with
  | ok ds =>
    dsimp only
    cases immL ds <;> rfl
  | exc c d => rfl
  | bad => rfl
theorem w_dropL : seqB (sDrop (lift F)) Rt env = match F env with
    | .ok _ => Rt env
    | .exc c d => .exc c d env
    | .bad => .bad := by
  unfold seqB sDrop lift O.at
  cases F env <;> rfl
theorem w_retL : sRet (lift F) env = match F env with
    | .ok d => .rt d env
    | .exc c d => .exc c d env
    | .bad => .bad := by
  unfold sRet lift O.at
  cases F env <;> rfl
theorem w_retLL (G : Env → O (List D)) : sRet (liftL G) env = match G env with
    | .ok ds => if immL ds then .rt (.lst ds) env else .bad
    | .exc _ _ => .bad
    | .bad => .bad := by
  unfold sRet liftL
  cases G env with
  | ok ds =>
    dsimp only
    cases immL ds <;> rfl
  | exc c d => rfl
  | bad => rfl
theorem w_nd0 (g : List D → O α) : nd g [] env = g [] := rfl
theorem w_nd1 (g : List D → O α) : nd g [F] env = match F env with
    | .ok a => g [a]
    | .exc c d => .exc c d
    | .bad => .bad := by
  unfold nd seqF O.bind
  cases F env <;> rfl
theorem w_nd2 (g : List D → O α) (G : Env → O D) : nd g [F, G] env = match F env with
    | .ok a => (match G env with
      | .ok b => g [a, b]
      | .exc c d => .exc c d
      | .bad => .bad)
    | .exc c d => .exc c d
    | .bad => .bad := by
  simp only [nd, seqF, O.bind]
  cases F env with
  | ok a => cases G env <;> rfl
  | exc c d => rfl
  | bad => rfl
theorem w_nd3 (g : List D → O α) (G G2 : Env → O D) : nd g [F, G, G2] env = match F env with
    | .ok a => (match G env with
      | .ok b => (match G2 env with
        | .ok c => g [a, b, c]
        | .exc c d => .exc c d
        | .bad => .bad)
      | .exc c d => .exc c d
      | .bad => .bad)
    | .exc c d => .exc c d
    | .bad => .bad := by
  simp only [nd, seqF, O.bind]
  cases F env with
  | ok a =>
    cases G env with
    | ok b => cases G2 env <;> rfl
    | exc c d => rfl
    | bad => rfl
  | exc c d => rfl
  | bad => rfl
end
/-! contracts with what was worked out -/
theorem spC_cong {K : PySem.W.Frag} {n : Nat} {io : List Nat} {ro : Bool} {g g' : List D → C} (h : ∀ ds, ds.length = n → g ds = g' ds) : spC K n io ro g = spC K n io ro g' := by
  funext vs H Q E
  apply propext
  constructor
  · rintro ⟨h1, ds, U, S, h2, h3, h4⟩
    exact ⟨h1, ds, U, S, h2, h3, by rw [← h ds h2]; exact h4⟩
  · rintro ⟨h1, ds, U, S, h2, h3, h4⟩
    exact ⟨h1, ds, U, S, h2, h3, by rw [h ds h2]; exact h4⟩
structure Pe1 (c : List D → C) where
  f : D → C
  ok : ∀ a, c [a] = f a
structure Pe2 (c : List D → C) where
  f : D → D → C
  ok : ∀ a b, c [a, b] = f a b
structure Pe3 (c : List D → C) where
  f : D → D → D → C
  ok : ∀ a b d, c [a, b, d] = f a b d
structure Pe4 (c : List D → C) where
  f : D → D → D → D → C
  ok : ∀ a b d e, c [a, b, d, e] = f a b d e
def Pe1.c {g : List D → C} (p : Pe1 g) : List D → C
  | [a] => p.f a
  | _ => .bad
def Pe2.c {g : List D → C} (p : Pe2 g) : List D → C
  | [a, b] => p.f a b
  | _ => .bad
def Pe3.c {g : List D → C} (p : Pe3 g) : List D → C
  | [a, b, d] => p.f a b d
  | _ => .bad
def Pe4.c {g : List D → C} (p : Pe4 g) : List D → C
  | [a, b, d, e] => p.f a b d e
  | _ => .bad
theorem Pe1.eq {g : List D → C} (p : Pe1 g) (ds : List D) (h : ds.length = 1) : g ds = p.c ds := match ds, h with
  | [a], _ => p.ok a
theorem Pe2.eq {g : List D → C} (p : Pe2 g) (ds : List D) (h : ds.length = 2) : g ds = p.c ds := match ds, h with
  | [a, b], _ => p.ok a b
theorem Pe3.eq {g : List D → C} (p : Pe3 g) (ds : List D) (h : ds.length = 3) : g ds = p.c ds := match ds, h with
  | [a, b, d], _ => p.ok a b d
theorem Pe4.eq {g : List D → C} (p : Pe4 g) (ds : List D) (h : ds.length = 4) : g ds = p.c ds := match ds, h with
  | [a, b, d, e], _ => p.ok a b d e
end Rf

namespace K16
open PySem PySem.Spec PyProof.Rows L2 Rf
def fAddI : D → D → O D := fI (fun _ _ => true) fun i j => .int (i + j)
def v_LINES : List D := [(.str "rights"), (.str "role"), (.str "above"), (.str "duty"), (.str "rule")]
def v_POWERS : List D := [(.int 1), (.int 2), (.int 4), (.int 8), (.int 16), (.int 32)]
structure Fc (K : PySem.W.Frag) (mg : Str → Option Value) : Prop where
  n_len : mg "len" = none
  n_abs : mg "abs" = none
  n_all : mg "all" = none
  n_any : mg "any" = none
  n_sum : mg "sum" = none
  n_int : mg "int" = none
  n_str : mg "str" = none
  n_tuple : mg "tuple" = none
  n_list : mg "list" = none
  n_sorted : mg "sorted" = none
  n_min : mg "min" = none
  n_max : mg "max" = none
  n_range : mg "range" = none
  n_enumerate : mg "enumerate" = none
  n_zip : mg "zip" = none
  n_isinstance : mg "isinstance" = none
  n_bool : mg "bool" = none
  g_MOST_SIGNS : ∃ t, mg "MOST_SIGNS" = some (.int 8 t)
  g_FEWEST_RIGHTS : ∃ t, mg "FEWEST_RIGHTS" = some (.int 2 t)
  g_MOST_RIGHTS : ∃ t, mg "MOST_RIGHTS" = some (.int 6 t)
  g_MOST_ROLES : ∃ t, mg "MOST_ROLES" = some (.int 6 t)
  g_MOST_ABOVE : ∃ t, mg "MOST_ABOVE" = some (.int 8 t)
  g_LEAST_NUMBER : ∃ t, mg "LEAST_NUMBER" = some (.int 2 t)
  g_MOST_NUMBER : ∃ t, mg "MOST_NUMBER" = some (.int 5 t)
  g_MOST_DUTIES : ∃ t, mg "MOST_DUTIES" = some (.int 3 t)
  g_MOST_RULES : ∃ t, mg "MOST_RULES" = some (.int 8 t)
  g_PAIR : ∃ t, mg "PAIR" = some (.int 2 t)
  g_MOST_PEOPLE : ∃ t, mg "MOST_PEOPLE" = some (.int 8 t)
  g_BLANK : ∃ t, mg "BLANK" = some (.str " " t)
  g_FEED : ∃ t, mg "FEED" = some (.str "\n" t)
  g_MINUS : ∃ t, mg "MINUS" = some (.str "-" t)
  g_SIGNS : ∃ t, mg "SIGNS" = some (.str "abcdefghijklmnopqrstuvwxyz" t)
  g_FIGURES : ∃ t, mg "FIGURES" = some (.str "0123456789" t)
  g_LET : ∃ t, mg "LET" = some (.str "let" t)
  g_BARRED : ∃ t, mg "BARRED" = some (.str "barred" t)
  g_RIGHTS : ∃ t, mg "RIGHTS" = some (.str "rights" t)
  g_ROLE : ∃ t, mg "ROLE" = some (.str "role" t)
  g_ABOVE : ∃ t, mg "ABOVE" = some (.str "above" t)
  g_DUTY : ∃ t, mg "DUTY" = some (.str "duty" t)
  g_RULE : ∃ t, mg "RULE" = some (.str "rule" t)
  g_PEOPLE : ∃ t, mg "PEOPLE" = some (.str "people" t)
  g_NOBODY : ∃ t, mg "NOBODY" = some (.str "nobody" t)
  g_LINES : mg "LINES" = some (.ref (He.ga K "LINES"))
  r_LINES : ∀ H, Rp K H (.ref (He.ga K "LINES")) (.tup v_LINES)
  l_LINES : ∃ o, K.lookup (He.ga K "LINES") = some o ∧ o.cls = .type "tuple" ∧ o.dict = none
  g_POWERS : mg "POWERS" = some (.ref (He.ga K "POWERS"))
  r_POWERS : ∀ H, Rp K H (.ref (He.ga K "POWERS")) (.tup v_POWERS)
  l_POWERS : ∃ o, K.lookup (He.ga K "POWERS") = some o ∧ o.cls = .type "tuple" ∧ o.dict = none
  g_Reading : mg "Reading" = some (.ref (He.ga K "Reading"))
  cl_Reading : Cls K (He.ga K "Reading")
  ty_Reading : ∀ H a dx fs, H a = some (.ins (He.ga K "Reading") dx fs) → TyOf K H (.ref a) (.ref (He.ga K "Reading"))
  g_Book : mg "Book" = some (.ref (He.ga K "Book"))
  cl_Book : Cls K (He.ga K "Book")
  ty_Book : ∀ H a dx fs, H a = some (.ins (He.ga K "Book") dx fs) → TyOf K H (.ref a) (.ref (He.ga K "Book"))
  na_Reading_told_rights : NoAttr K (He.ga K "Reading") "told_rights"
  na_Reading_told_roles : NoAttr K (He.ga K "Reading") "told_roles"
  na_Reading_told_above : NoAttr K (He.ga K "Reading") "told_above"
  na_Reading_told_duties : NoAttr K (He.ga K "Reading") "told_duties"
  na_Reading_told_rules : NoAttr K (He.ga K "Reading") "told_rules"
  na_Reading_own_stage : NoAttr K (He.ga K "Reading") "own_stage"
  na_Book_own_reading : NoAttr K (He.ga K "Book") "own_reading"
  na_Book_own_text : NoAttr K (He.ga K "Book") "own_text"
section
variable {P : Program} {w : World} {K : PySem.W.Frag} {mg : Str → Option Value} {base : Heap} {f : Addr} {fd : FuncData}
def b_is_integer : Rf.Env → Fl := (seqB (sIf (liftB (bOr (bNot (fun env => asB ((nd (g1 (fIsi "int")) [(eVar 0)]) env))) (fun env => asB ((nd (g1 (fIsi "bool")) [(eVar 0)]) env)))) (sRet (lift (eC (.bl false)))) sNil)
  (sRet (lift (vAnd (vOr (nd (g2 (fIs false)) [(eVar 1), (eC .non)]) (nd (g2 fGe) [(eVar 0), (eVar 1)])) (vOr (nd (g2 (fIs false)) [(eVar 2), (eC .non)]) (nd (g2 fLe) [(eVar 0), (eVar 2)]))))))
def c0_is_integer : List D → C := runB 3 3 [] b_is_integer
def p_is_integer : Pe3 c0_is_integer where
  f := _
  ok := fun a b d => by
    simp only [c0_is_integer, b_is_integer, runB, env0, outs, w_ret, w_nil, w_bad, w_seq, w_ifL, w_if, w_setL, w_setLL, w_dropL, w_retL, w_retLL, w_nd0, w_nd1, w_nd2, w_nd3, g1, g2, eVar, eC, eComp, compF_gN, compF_gT, Tst.f, wipeE, mkL, O.bind, bAnd, bOr, bNot, vAnd, vOr, vNot, vIf, eChain, eSl, eSlL, oNone, oSome, eTupS, eLstS, seqSt, eBm, eMeth, gMeth, ePrp, gCall, keepI, noX, seqF, List.length_cons, List.length_nil, List.map_cons, List.map_nil, List.cons_append, List.nil_append, List.set_cons_zero, List.set_cons_succ, List.getElem?_cons_zero, List.getElem?_cons_succ, List.replicate_succ, List.replicate_zero, Nat.reduceAdd, Nat.reduceSub, Bool.true_or, Bool.false_or, Bool.true_and]
    rfl
def c_is_integer : List D → C := p_is_integer.c
abbrev N_is_integer : List Str := ["value", "low", "high"]
theorem sc_is_integer : FnScope N_is_integer ["value", "low", "high"] (defScope (top 19)) := ⟨rfl, rfl, rfl, by decide +kernel, rfl, by decide +kernel, by decide +kernel⟩
theorem d_is_integer {cdv : Value} {A : Around} {outer : List PySem.Env} {s : Shared} {H : Hp} {E : XK} {k : Nat} (h : Fc K mg)  (gd : Gd (cxOf (L2.CX P w) P w K mg base N_is_integer "is_integer" (defScope (top 19)) f cdv A outer s H E) (fun c d _ H => E c d H) (k + 1)) :
    SSs (cxOf (L2.CX P w) P w K mg base N_is_integer "is_integer" (defScope (top 19)) f cdv A outer s H E) ⟨[], [], false⟩ (fun c d _ H => E c d H) (defBody (top 19)) b_is_integer :=
  (ss_cons (s_if (STp.ste (SW.st (sw_or (st_not (st_val (sp_isi rfl h.n_isinstance rfl h.n_int (by decide +kernel) (by decide) (sp_v rfl rfl (by first | exact .inl rfl | exact .inr (.inl rfl) | exact .inr (.inr rfl)))))) (sw_or1 (st_val (sp_isi rfl h.n_isinstance rfl h.n_bool (by decide +kernel) (by decide) (sp_v rfl rfl (by first | exact .inl rfl | exact .inr (.inl rfl) | exact .inr (.inr rfl))))))))) (ss_one (s_ret rfl (SP.se sp_bl))) ss_nil)
  (ss_one (s_ret rfl (SP.se (sp_and (sp_or (sp_cmp op_isN v2_is (sp_v rfl rfl (by first | exact .inl rfl | exact .inr (.inl rfl) | exact .inr (.inr rfl))) sp_non) (sp_one (sp_cmp op_ge v2_ge (sp_v rfl rfl (by first | exact .inl rfl | exact .inr (.inl rfl) | exact .inr (.inr rfl))) (sp_v rfl rfl (by first | exact .inl rfl | exact .inr (.inl rfl) | exact .inr (.inr rfl)))))) (sp_one (sp_or (sp_cmp op_isN v2_is (sp_v rfl rfl (by first | exact .inl rfl | exact .inr (.inl rfl) | exact .inr (.inr rfl))) sp_non) (sp_one (sp_cmp op_le v2_le (sp_v rfl rfl (by first | exact .inl rfl | exact .inr (.inl rfl) | exact .inr (.inr rfl))) (sp_v rfl rfl (by first | exact .inl rfl | exact .inr (.inl rfl) | exact .inr (.inr rfl))))))))))))
theorem f_is_integer {k : Nat} (h : Fc K mg)  (F : FunD K "is_integer" "is_integer" (defArgs (top 19)) (defBody (top 19)) (defScope (top 19)) [.non, .non] [] f fd) : FnOk P w K mg base (L2.CX P w) (k + 2) f fd ["value", "low", "high"] (spC K 3 [] false c_is_integer) :=
  spC_cong p_is_integer.eq ▸ fn_mk F sc_is_integer rfl (by decide) fun cdv A outer s H E hr => d_is_integer h  (gd_of sc_is_integer.nd hr)
def b_is_word : Rf.Env → Fl := (sRet (lift (vAnd (nd (g1 (fIsi "str")) [(eVar 0)]) (nd (g2 (fIn false)) [(eVar 0), (eVar 1)]))))
def c0_is_word : List D → C := runB 2 2 [] b_is_word
def p_is_word : Pe2 c0_is_word where
  f := _
  ok := fun a b => by
    simp only [c0_is_word, b_is_word, runB, env0, outs, w_ret, w_nil, w_bad, w_seq, w_ifL, w_if, w_setL, w_setLL, w_dropL, w_retL, w_retLL, w_nd0, w_nd1, w_nd2, w_nd3, g1, g2, eVar, eC, eComp, compF_gN, compF_gT, Tst.f, wipeE, mkL, O.bind, bAnd, bOr, bNot, vAnd, vOr, vNot, vIf, eChain, eSl, eSlL, oNone, oSome, eTupS, eLstS, seqSt, eBm, eMeth, gMeth, ePrp, gCall, keepI, noX, seqF, List.length_cons, List.length_nil, List.map_cons, List.map_nil, List.cons_append, List.nil_append, List.set_cons_zero, List.set_cons_succ, List.getElem?_cons_zero, List.getElem?_cons_succ, List.replicate_succ, List.replicate_zero, Nat.reduceAdd, Nat.reduceSub, Bool.true_or, Bool.false_or, Bool.true_and]
    rfl
def c_is_word : List D → C := p_is_word.c
abbrev N_is_word : List Str := ["value", "words"]
theorem sc_is_word : FnScope N_is_word ["value", "words"] (defScope (top 21)) := ⟨rfl, rfl, rfl, by decide +kernel, rfl, by decide +kernel, by decide +kernel⟩
theorem d_is_word {cdv : Value} {A : Around} {outer : List PySem.Env} {s : Shared} {H : Hp} {E : XK} {k : Nat} (h : Fc K mg)  (gd : Gd (cxOf (L2.CX P w) P w K mg base N_is_word "is_word" (defScope (top 21)) f cdv A outer s H E) (fun c d _ H => E c d H) (k + 1)) :
    SSs (cxOf (L2.CX P w) P w K mg base N_is_word "is_word" (defScope (top 21)) f cdv A outer s H E) ⟨[], [], false⟩ (fun c d _ H => E c d H) (defBody (top 21)) b_is_word :=
  (ss_one (s_ret rfl (SP.se (sp_and (sp_isi rfl h.n_isinstance rfl h.n_str (by decide +kernel) (by decide) (sp_v rfl rfl (by first | exact .inl rfl | exact .inr (.inl rfl) | exact .inr (.inr rfl)))) (sp_one (sp_cmp (op_inAll gd.hu) (v2_in false) (sp_v rfl rfl (by first | exact .inl rfl | exact .inr (.inl rfl) | exact .inr (.inr rfl))) (sp_v rfl rfl (by first | exact .inl rfl | exact .inr (.inl rfl) | exact .inr (.inr rfl)))))))))
theorem f_is_word {k : Nat} (h : Fc K mg)  (F : FunD K "is_word" "is_word" (defArgs (top 21)) (defBody (top 21)) (defScope (top 21)) [] [] f fd) : FnOk P w K mg base (L2.CX P w) (k + 2) f fd ["value", "words"] (spC K 2 [] false c_is_word) :=
  spC_cong p_is_word.eq ▸ fn_mk F sc_is_word rfl (by decide) fun cdv A outer s H E hr => d_is_word h  (gd_of sc_is_word.nd hr)
def b_is_tuple : Rf.Env → Fl := (sRet (lift (vAnd (nd (g1 (fIsi "tuple")) [(eVar 0)]) (vAnd (nd (g2 fGe) [(nd (g1 fLenX) [(eVar 0)]), (eVar 1)]) (vOr (nd (g2 (fIs false)) [(eVar 2), (eC .non)]) (nd (g2 fLe) [(nd (g1 fLenX) [(eVar 0)]), (eVar 2)]))))))
def c0_is_tuple : List D → C := runB 3 3 [] b_is_tuple
def p_is_tuple : Pe3 c0_is_tuple where
  f := _
  ok := fun a b d => by
    simp only [c0_is_tuple, b_is_tuple, runB, env0, outs, w_ret, w_nil, w_bad, w_seq, w_ifL, w_if, w_setL, w_setLL, w_dropL, w_retL, w_retLL, w_nd0, w_nd1, w_nd2, w_nd3, g1, g2, eVar, eC, eComp, compF_gN, compF_gT, Tst.f, wipeE, mkL, O.bind, bAnd, bOr, bNot, vAnd, vOr, vNot, vIf, eChain, eSl, eSlL, oNone, oSome, eTupS, eLstS, seqSt, eBm, eMeth, gMeth, ePrp, gCall, keepI, noX, seqF, List.length_cons, List.length_nil, List.map_cons, List.map_nil, List.cons_append, List.nil_append, List.set_cons_zero, List.set_cons_succ, List.getElem?_cons_zero, List.getElem?_cons_succ, List.replicate_succ, List.replicate_zero, Nat.reduceAdd, Nat.reduceSub, Bool.true_or, Bool.false_or, Bool.true_and]
    rfl
def c_is_tuple : List D → C := p_is_tuple.c
abbrev N_is_tuple : List Str := ["value", "least", "most"]
theorem sc_is_tuple : FnScope N_is_tuple ["value", "least", "most"] (defScope (top 20)) := ⟨rfl, rfl, rfl, by decide +kernel, rfl, by decide +kernel, by decide +kernel⟩
theorem d_is_tuple {cdv : Value} {A : Around} {outer : List PySem.Env} {s : Shared} {H : Hp} {E : XK} {k : Nat} (h : Fc K mg)  (gd : Gd (cxOf (L2.CX P w) P w K mg base N_is_tuple "is_tuple" (defScope (top 20)) f cdv A outer s H E) (fun c d _ H => E c d H) (k + 1)) :
    SSs (cxOf (L2.CX P w) P w K mg base N_is_tuple "is_tuple" (defScope (top 20)) f cdv A outer s H E) ⟨[], [], false⟩ (fun c d _ H => E c d H) (defBody (top 20)) b_is_tuple :=
  (ss_one (s_ret rfl (SP.se (sp_and (sp_isi rfl h.n_isinstance rfl h.n_tuple (by decide +kernel) (by decide) (sp_v rfl rfl (by first | exact .inl rfl | exact .inr (.inl rfl) | exact .inr (.inr rfl)))) (sp_and (sp_cmp op_ge v2_ge (sp_b1 call_lenX vc_lenX rfl h.n_len boot_len (sp_v rfl rfl (by first | exact .inl rfl | exact .inr (.inl rfl) | exact .inr (.inr rfl)))) (sp_v rfl rfl (by first | exact .inl rfl | exact .inr (.inl rfl) | exact .inr (.inr rfl)))) (sp_one (sp_or (sp_cmp op_isN v2_is (sp_v rfl rfl (by first | exact .inl rfl | exact .inr (.inl rfl) | exact .inr (.inr rfl))) sp_non) (sp_one (sp_cmp op_le v2_le (sp_b1 call_lenX vc_lenX rfl h.n_len boot_len (sp_v rfl rfl (by first | exact .inl rfl | exact .inr (.inl rfl) | exact .inr (.inr rfl)))) (sp_v rfl rfl (by first | exact .inl rfl | exact .inr (.inl rfl) | exact .inr (.inr rfl))))))))))))
theorem f_is_tuple {k : Nat} (h : Fc K mg)  (F : FunD K "is_tuple" "is_tuple" (defArgs (top 20)) (defBody (top 20)) (defScope (top 20)) [.int 0, .non] [] f fd) : FnOk P w K mg base (L2.CX P w) (k + 2) f fd ["value", "least", "most"] (spC K 3 [] false c_is_tuple) :=
  spC_cong p_is_tuple.eq ▸ fn_mk F sc_is_tuple rfl (by decide) fun cdv A outer s H E hr => d_is_tuple h  (gd_of sc_is_tuple.nd hr)
def b_lot_of : Rf.Env → Fl := (sRet (lift (nd (g1 fTuple) [(fun env => mkL ((eComp true [2] (fun env => itA ((eVar 0) env)) (gN 2) (Tst.f (Tst.one (fun env => asB ((nd (g2 (fIn false)) [(eVar 2), (eVar 1)]) env)))) (eVar 2)) env))])))
def c0_lot_of : List D → C := runB 3 2 [] b_lot_of
def p_lot_of : Pe2 c0_lot_of where
  f := _
  ok := fun a b => by
    simp only [c0_lot_of, b_lot_of, runB, env0, outs, w_ret, w_nil, w_bad, w_seq, w_ifL, w_if, w_setL, w_setLL, w_dropL, w_retL, w_retLL, w_nd0, w_nd1, w_nd2, w_nd3, g1, g2, eVar, eC, eComp, compF_gN, compF_gT, Tst.f, wipeE, mkL, O.bind, bAnd, bOr, bNot, vAnd, vOr, vNot, vIf, eChain, eSl, eSlL, oNone, oSome, eTupS, eLstS, seqSt, eBm, eMeth, gMeth, ePrp, gCall, keepI, noX, seqF, List.length_cons, List.length_nil, List.map_cons, List.map_nil, List.cons_append, List.nil_append, List.set_cons_zero, List.set_cons_succ, List.getElem?_cons_zero, List.getElem?_cons_succ, List.replicate_succ, List.replicate_zero, Nat.reduceAdd, Nat.reduceSub, Bool.true_or, Bool.false_or, Bool.true_and]
    rfl
def c_lot_of : List D → C := p_lot_of.c
abbrev N_lot_of : List Str := ["whole", "some", "name"]
theorem sc_lot_of : FnScope N_lot_of ["whole", "some"] (defScope (top 25)) := ⟨rfl, rfl, rfl, by decide +kernel, rfl, by decide +kernel, by decide +kernel⟩
theorem d_lot_of {cdv : Value} {A : Around} {outer : List PySem.Env} {s : Shared} {H : Hp} {E : XK} {k : Nat} (h : Fc K mg)  (gd : Gd (cxOf (L2.CX P w) P w K mg base N_lot_of "lot_of" (defScope (top 25)) f cdv A outer s H E) (fun c d _ H => E c d H) (k + 1)) :
    SSs (cxOf (L2.CX P w) P w K mg base N_lot_of "lot_of" (defScope (top 25)) f cdv A outer s H E) ⟨[], [], false⟩ (fun c d _ H => E c d H) (defBody (top 25)) b_lot_of :=
  (ss_one (s_ret rfl (SP.se (sp_t1 call_tuple_of vc_tuple rfl h.n_tuple boot_tuple (SPL.sp (spl_comp (own := [("name", 2)]) (T := (Tst.one (fun env => asB ((nd (g2 (fIn false)) [(eVar 2), (eVar 1)]) env)))) gd ⟨(si_any (sp_v rfl rfl (by first | exact .inl rfl | exact .inr (.inl rfl) | exact .inr (.inr rfl)))), (blkOk_by (N := N_lot_of) (sc := (defScope (top 25))) (own := [("name", 2)]) (by decide +kernel)), fun _ _ _ _ _ => (sg_name rfl rfl gd.blk.nd rfl (by first | exact .inl rfl | exact .inr rfl)), fun _ _ _ _ _ => (st_cmp (op_inAll gd.hu) (v2_in false) (sp_v rfl rfl (by first | exact .inl rfl | exact .inr (.inl rfl) | exact .inr (.inr rfl))) (sp_v rfl rfl (by first | exact .inl rfl | exact .inr (.inl rfl) | exact .inr (.inr rfl)))), fun _ _ _ _ _ => (sp_v rfl rfl (by first | exact .inl rfl | exact .inr (.inl rfl) | exact .inr (.inr rfl)))⟩))))))
theorem f_lot_of {k : Nat} (h : Fc K mg)  (F : FunD K "lot_of" "lot_of" (defArgs (top 25)) (defBody (top 25)) (defScope (top 25)) [] [] f fd) : FnOk P w K mg base (L2.CX P w) (k + 2) f fd ["whole", "some"] (spC K 2 [] false c_lot_of) :=
  spC_cong p_lot_of.eq ▸ fn_mk F sc_lot_of rfl (by decide) fun cdv A outer s H E hr => d_lot_of h  (gd_of sc_lot_of.nd hr)
def b_is_lot : Rf.Env → Fl := (seqB (sIf (liftB (bOr (bNot (fun env => asB ((nd (g1 (fIsi "tuple")) [(eVar 1)]) env))) (bNot (fun env => asB ((nd (g1 fAll) [(fun env => mkL ((eComp true [2] (fun env => itA ((eVar 1) env)) (gN 2) (Tst.f Tst.no) (nd (gCall 2 [] c_is_word) [(eVar 2), (eVar 0)])) env))]) env))))) (sRet (lift (eC (.bl false)))) sNil)
  (sRet (lift (nd (g2 (fEq false)) [(eVar 1), (nd (gCall 2 [] c_lot_of) [(eVar 0), (eVar 1)])]))))
def c0_is_lot : List D → C := runB 3 2 [] b_is_lot
def p_is_lot : Pe2 c0_is_lot where
  f := _
  ok := fun a b => by
    simp only [c0_is_lot, b_is_lot, runB, env0, outs, w_ret, w_nil, w_bad, w_seq, w_ifL, w_if, w_setL, w_setLL, w_dropL, w_retL, w_retLL, w_nd0, w_nd1, w_nd2, w_nd3, g1, g2, eVar, eC, eComp, compF_gN, compF_gT, Tst.f, wipeE, mkL, O.bind, bAnd, bOr, bNot, vAnd, vOr, vNot, vIf, eChain, eSl, eSlL, oNone, oSome, eTupS, eLstS, seqSt, eBm, eMeth, gMeth, ePrp, gCall, keepI, noX, seqF, List.length_cons, List.length_nil, List.map_cons, List.map_nil, List.cons_append, List.nil_append, List.set_cons_zero, List.set_cons_succ, List.getElem?_cons_zero, List.getElem?_cons_succ, List.replicate_succ, List.replicate_zero, Nat.reduceAdd, Nat.reduceSub, Bool.true_or, Bool.false_or, Bool.true_and]
    rfl
def c_is_lot : List D → C := p_is_lot.c
abbrev N_is_lot : List Str := ["whole", "value", "name"]
theorem sc_is_lot : FnScope N_is_lot ["whole", "value"] (defScope (top 26)) := ⟨rfl, rfl, rfl, by decide +kernel, rfl, by decide +kernel, by decide +kernel⟩
theorem d_is_lot {cdv : Value} {A : Around} {outer : List PySem.Env} {s : Shared} {H : Hp} {E : XK} {k : Nat} (h : Fc K mg) (k_is_word : Cal P w K mg base (k + 1) "is_word" 2 [] false [] c_is_word) (k_lot_of : Cal P w K mg base (k + 1) "lot_of" 2 [] false [] c_lot_of) (gd : Gd (cxOf (L2.CX P w) P w K mg base N_is_lot "is_lot" (defScope (top 26)) f cdv A outer s H E) (fun c d _ H => E c d H) (k + 1)) :
    SSs (cxOf (L2.CX P w) P w K mg base N_is_lot "is_lot" (defScope (top 26)) f cdv A outer s H E) ⟨[], [], false⟩ (fun c d _ H => E c d H) (defBody (top 26)) b_is_lot :=
  (ss_cons (s_if (STp.ste (SW.st (sw_or (st_not (st_val (sp_isi rfl h.n_isinstance rfl h.n_tuple (by decide +kernel) (by decide) (sp_v rfl rfl (by first | exact .inl rfl | exact .inr (.inl rfl) | exact .inr (.inr rfl)))))) (sw_or1 (st_not (st_val (sp_b1 (cr_all gd.calm) vc_all rfl h.n_all boot_all (SPL.sp (spl_comp (own := [("name", 2)]) (T := Tst.no) gd ⟨(si_any (sp_v rfl rfl (by first | exact .inl rfl | exact .inr (.inl rfl) | exact .inr (.inr rfl)))), (blkOk_by (N := N_is_lot) (sc := (defScope (top 26))) (own := [("name", 2)]) (by decide +kernel)), fun _ _ _ _ _ => (sg_name rfl rfl gd.blk.nd rfl (by first | exact .inl rfl | exact .inr rfl)), fun _ _ _ _ _ => trivial, fun _ _ _ _ _ => (sp_call gd.blk k_is_word rfl (SPs.cons (sp_v rfl rfl (by first | exact .inl rfl | exact .inr (.inl rfl) | exact .inr (.inr rfl))) (SPs.cons (sp_v rfl rfl (by first | exact .inl rfl | exact .inr (.inl rfl) | exact .inr (.inr rfl))) SPs.nil)))⟩))))))))) (ss_one (s_ret rfl (SP.se sp_bl))) ss_nil)
  (ss_one (s_ret rfl (SP.se (sp_cmp (op_eqD gd.hu64) v2_eq (sp_v rfl rfl (by first | exact .inl rfl | exact .inr (.inl rfl) | exact .inr (.inr rfl))) (sp_call gd k_lot_of rfl (SPs.cons (sp_v rfl rfl (by first | exact .inl rfl | exact .inr (.inl rfl) | exact .inr (.inr rfl))) (SPs.cons (sp_v rfl rfl (by first | exact .inl rfl | exact .inr (.inl rfl) | exact .inr (.inr rfl))) SPs.nil))))))))
theorem f_is_lot {k : Nat} (h : Fc K mg) (k_is_word : Cal P w K mg base (k + 1) "is_word" 2 [] false [] c_is_word) (k_lot_of : Cal P w K mg base (k + 1) "lot_of" 2 [] false [] c_lot_of) (F : FunD K "is_lot" "is_lot" (defArgs (top 26)) (defBody (top 26)) (defScope (top 26)) [] [] f fd) : FnOk P w K mg base (L2.CX P w) (k + 2) f fd ["whole", "value"] (spC K 2 [] false c_is_lot) :=
  spC_cong p_is_lot.eq ▸ fn_mk F sc_is_lot rfl (by decide) fun cdv A outer s H E hr => d_is_lot h k_is_word k_lot_of (gd_of sc_is_lot.nd hr)
def b_has_all : Rf.Env → Fl := (sRet (lift (nd (g1 fAll) [(fun env => mkL ((eComp true [2] (fun env => itA ((eVar 1) env)) (gN 2) (Tst.f Tst.no) (nd (g2 (fIn false)) [(eVar 2), (eVar 0)])) env))])))
def c0_has_all : List D → C := runB 3 2 [] b_has_all
def p_has_all : Pe2 c0_has_all where
  f := _
  ok := fun a b => by
    simp only [c0_has_all, b_has_all, runB, env0, outs, w_ret, w_nil, w_bad, w_seq, w_ifL, w_if, w_setL, w_setLL, w_dropL, w_retL, w_retLL, w_nd0, w_nd1, w_nd2, w_nd3, g1, g2, eVar, eC, eComp, compF_gN, compF_gT, Tst.f, wipeE, mkL, O.bind, bAnd, bOr, bNot, vAnd, vOr, vNot, vIf, eChain, eSl, eSlL, oNone, oSome, eTupS, eLstS, seqSt, eBm, eMeth, gMeth, ePrp, gCall, keepI, noX, seqF, List.length_cons, List.length_nil, List.map_cons, List.map_nil, List.cons_append, List.nil_append, List.set_cons_zero, List.set_cons_succ, List.getElem?_cons_zero, List.getElem?_cons_succ, List.replicate_succ, List.replicate_zero, Nat.reduceAdd, Nat.reduceSub, Bool.true_or, Bool.false_or, Bool.true_and]
    rfl
def c_has_all : List D → C := p_has_all.c
abbrev N_has_all : List Str := ["some", "others", "one"]
theorem sc_has_all : FnScope N_has_all ["some", "others"] (defScope (top 27)) := ⟨rfl, rfl, rfl, by decide +kernel, rfl, by decide +kernel, by decide +kernel⟩
theorem d_has_all {cdv : Value} {A : Around} {outer : List PySem.Env} {s : Shared} {H : Hp} {E : XK} {k : Nat} (h : Fc K mg)  (gd : Gd (cxOf (L2.CX P w) P w K mg base N_has_all "has_all" (defScope (top 27)) f cdv A outer s H E) (fun c d _ H => E c d H) (k + 1)) :
    SSs (cxOf (L2.CX P w) P w K mg base N_has_all "has_all" (defScope (top 27)) f cdv A outer s H E) ⟨[], [], false⟩ (fun c d _ H => E c d H) (defBody (top 27)) b_has_all :=
  (ss_one (s_ret rfl (SP.se (sp_b1 (cr_all gd.calm) vc_all rfl h.n_all boot_all (SPL.sp (spl_comp (own := [("one", 2)]) (T := Tst.no) gd ⟨(si_any (sp_v rfl rfl (by first | exact .inl rfl | exact .inr (.inl rfl) | exact .inr (.inr rfl)))), (blkOk_by (N := N_has_all) (sc := (defScope (top 27))) (own := [("one", 2)]) (by decide +kernel)), fun _ _ _ _ _ => (sg_name rfl rfl gd.blk.nd rfl (by first | exact .inl rfl | exact .inr rfl)), fun _ _ _ _ _ => trivial, fun _ _ _ _ _ => (sp_cmp (op_inAll gd.hu) (v2_in false) (sp_v rfl rfl (by first | exact .inl rfl | exact .inr (.inl rfl) | exact .inr (.inr rfl))) (sp_v rfl rfl (by first | exact .inl rfl | exact .inr (.inl rfl) | exact .inr (.inr rfl))))⟩))))))
theorem f_has_all {k : Nat} (h : Fc K mg)  (F : FunD K "has_all" "has_all" (defArgs (top 27)) (defBody (top 27)) (defScope (top 27)) [] [] f fd) : FnOk P w K mg base (L2.CX P w) (k + 2) f fd ["some", "others"] (spC K 2 [] false c_has_all) :=
  spC_cong p_has_all.eq ▸ fn_mk F sc_has_all rfl (by decide) fun cdv A outer s H E hr => d_has_all h  (gd_of sc_has_all.nd hr)
def b_lots_of : Rf.Env → Fl := (seqB (sSet 1 (liftL (nd gLstD [(nd gTupD [])])))
  (seqB (sFor (fun env => ((fun env => itA ((eVar 0) env)) env).at env) (gN 2) (sMut 1 (liftL (eComp false [3] (fun env => itA ((eVar 1) env)) (gN 3) (Tst.f Tst.no) (eTupS [(true, (eVar 3)), (false, (eVar 2))]))) fExt))
  (sRet (eMove 1))))
def c0_lots_of : List D → C := runB 4 1 [] b_lots_of
def p_lots_of : Pe1 c0_lots_of where
  f := _
  ok := fun a => by
    simp only [c0_lots_of, b_lots_of, runB, env0, outs, w_ret, w_nil, w_bad, w_seq, w_ifL, w_if, w_setL, w_setLL, w_dropL, w_retL, w_retLL, w_nd0, w_nd1, w_nd2, w_nd3, g1, g2, eVar, eC, eComp, compF_gN, compF_gT, Tst.f, wipeE, mkL, O.bind, bAnd, bOr, bNot, vAnd, vOr, vNot, vIf, eChain, eSl, eSlL, oNone, oSome, eTupS, eLstS, seqSt, eBm, eMeth, gMeth, ePrp, gCall, keepI, noX, seqF, List.length_cons, List.length_nil, List.map_cons, List.map_nil, List.cons_append, List.nil_append, List.set_cons_zero, List.set_cons_succ, List.getElem?_cons_zero, List.getElem?_cons_succ, List.replicate_succ, List.replicate_zero, Nat.reduceAdd, Nat.reduceSub, Bool.true_or, Bool.false_or, Bool.true_and]
    rfl
def c_lots_of : List D → C := p_lots_of.c
abbrev N_lots_of : List Str := ["whole", "found", "name", "lot"]
theorem sc_lots_of : FnScope N_lots_of ["whole"] (defScope (top 28)) := ⟨rfl, rfl, rfl, by decide +kernel, rfl, by decide +kernel, by decide +kernel⟩
theorem d_lots_of {cdv : Value} {A : Around} {outer : List PySem.Env} {s : Shared} {H : Hp} {E : XK} {k : Nat} (h : Fc K mg)  (gd : Gd (cxOf (L2.CX P w) P w K mg base N_lots_of "lots_of" (defScope (top 28)) f cdv A outer s H E) (fun c d _ H => E c d H) (k + 1)) :
    SSs (cxOf (L2.CX P w) P w K mg base N_lots_of "lots_of" (defScope (top 28)) f cdv A outer s H E) ⟨[1], [], false⟩ (fun c d _ H => E c d H) (defBody (top 28)) b_lots_of :=
  (ss_cons (s_setO rfl rfl (asgO gd.nd rfl (by first | exact .inl rfl | exact .inr rfl) (SPL.so (b := true) (spl_lst (SPs.cons (sp_tup SPs.nil) SPs.nil)))))
  (ss_cons (s_for (vs := [2]) gd (SI.sie (si_any (sp_v rfl rfl (by first | exact .inl rfl | exact .inr (.inl rfl) | exact .inr (.inr rfl))))) (sg_name rfl rfl gd.nd rfl (by first | exact .inl rfl | exact .inr rfl)) rfl (ss_one (s_extend rfl rfl (by first | exact .inl rfl | exact .inr (.inl rfl) | exact .inr (.inr rfl)) (SO.se (SPL.so (b := false) (spl_comp (own := [("lot", 3)]) (T := Tst.no) gd ⟨(si_any (sp_own rfl rfl (by first | exact .inl rfl | exact .inr (.inl rfl) | exact .inr (.inr rfl)))), (blkOk_by (N := N_lots_of) (sc := (defScope (top 28))) (own := [("lot", 3)]) (by decide +kernel)), fun _ _ _ _ _ => (sg_name rfl rfl gd.blk.nd rfl (by first | exact .inl rfl | exact .inr rfl)), fun _ _ _ _ _ => trivial, fun _ _ _ _ _ => (sp_tupS (SSt.st (sp_v rfl rfl (by first | exact .inl rfl | exact .inr (.inl rfl) | exact .inr (.inr rfl))) (SSt.pl (sp_v rfl rfl (by first | exact .inl rfl | exact .inr (.inl rfl) | exact .inr (.inr rfl))) rfl SSt.nil)))⟩))))))
  (ss_one (s_ret rfl (SO.se (so_move rfl rfl (by first | exact .inl rfl | exact .inr (.inl rfl) | exact .inr (.inr rfl))))))))
theorem f_lots_of {k : Nat} (h : Fc K mg)  (F : FunD K "lots_of" "lots_of" (defArgs (top 28)) (defBody (top 28)) (defScope (top 28)) [] [] f fd) : FnOk P w K mg base (L2.CX P w) (k + 2) f fd ["whole"] (spC K 1 [] false c_lots_of) :=
  spC_cong p_lots_of.eq ▸ fn_mk F sc_lots_of rfl (by decide) fun cdv A outer s H E hr => d_lots_of h  (gd_of sc_lots_of.nd hr)
def b_least_of : Rf.Env → Fl := (sRet (lift (fun env => mkL ((eComp true [1] (fun env => itA ((eVar 0) env)) (gN 1) (Tst.f (Tst.one (bNot (fun env => asB ((nd (g1 fAny) [(fun env => mkL ((eComp true [2] (fun env => itA ((eVar 0) env)) (gN 2) (Tst.f Tst.no) (vAnd (nd (g2 (fEq true)) [(eVar 2), (eVar 1)]) (nd (gCall 2 [] c_has_all) [(eVar 1), (eVar 2)]))) env))]) env))))) (eVar 1)) env))))
def c0_least_of : List D → C := runB 3 1 [] b_least_of
def p_least_of : Pe1 c0_least_of where
  f := _
  ok := fun a => by
    simp only [c0_least_of, b_least_of, runB, env0, outs, w_ret, w_nil, w_bad, w_seq, w_ifL, w_if, w_setL, w_setLL, w_dropL, w_retL, w_retLL, w_nd0, w_nd1, w_nd2, w_nd3, g1, g2, eVar, eC, eComp, compF_gN, compF_gT, Tst.f, wipeE, mkL, O.bind, bAnd, bOr, bNot, vAnd, vOr, vNot, vIf, eChain, eSl, eSlL, oNone, oSome, eTupS, eLstS, seqSt, eBm, eMeth, gMeth, ePrp, gCall, keepI, noX, seqF, List.length_cons, List.length_nil, List.map_cons, List.map_nil, List.cons_append, List.nil_append, List.set_cons_zero, List.set_cons_succ, List.getElem?_cons_zero, List.getElem?_cons_succ, List.replicate_succ, List.replicate_zero, Nat.reduceAdd, Nat.reduceSub, Bool.true_or, Bool.false_or, Bool.true_and]
    rfl
def c_least_of : List D → C := p_least_of.c
abbrev N_least_of : List Str := ["lots", "lot", "other"]
theorem sc_least_of : FnScope N_least_of ["lots"] (defScope (top 29)) := ⟨rfl, rfl, rfl, by decide +kernel, rfl, by decide +kernel, by decide +kernel⟩
theorem d_least_of {cdv : Value} {A : Around} {outer : List PySem.Env} {s : Shared} {H : Hp} {E : XK} {k : Nat} (h : Fc K mg) (k_has_all : Cal P w K mg base (k + 1) "has_all" 2 [] false [] c_has_all) (gd : Gd (cxOf (L2.CX P w) P w K mg base N_least_of "least_of" (defScope (top 29)) f cdv A outer s H E) (fun c d _ H => E c d H) (k + 1)) :
    SSs (cxOf (L2.CX P w) P w K mg base N_least_of "least_of" (defScope (top 29)) f cdv A outer s H E) ⟨[], [], false⟩ (fun c d _ H => E c d H) (defBody (top 29)) b_least_of :=
  (ss_one (s_ret rfl (SP.se (SPL.sp (spl_comp (own := [("lot", 1)]) (T := (Tst.one (bNot (fun env => asB ((nd (g1 fAny) [(fun env => mkL ((eComp true [2] (fun env => itA ((eVar 0) env)) (gN 2) (Tst.f Tst.no) (vAnd (nd (g2 (fEq true)) [(eVar 2), (eVar 1)]) (nd (gCall 2 [] c_has_all) [(eVar 1), (eVar 2)]))) env))]) env))))) gd ⟨(si_any (sp_v rfl rfl (by first | exact .inl rfl | exact .inr (.inl rfl) | exact .inr (.inr rfl)))), (blkOk_by (N := N_least_of) (sc := (defScope (top 29))) (own := [("lot", 1)]) (by decide +kernel)), fun _ _ _ _ _ => (sg_name rfl rfl gd.blk.nd rfl (by first | exact .inl rfl | exact .inr rfl)), fun _ _ _ _ _ => (st_not (st_val (sp_b1 (cr_any gd.blk.calm) vc_any rfl h.n_any boot_any (SPL.sp (spl_comp (own := [("other", 2)]) (T := Tst.no) gd.blk ⟨(si_any (sp_v rfl rfl (by first | exact .inl rfl | exact .inr (.inl rfl) | exact .inr (.inr rfl)))), (blkOk_by (N := N_least_of) (sc := (relS _ (defScope (top 29)))) (own := [("other", 2)]) (by decide +kernel)), fun _ _ _ _ _ => (sg_name rfl rfl gd.blk.blk.nd rfl (by first | exact .inl rfl | exact .inr rfl)), fun _ _ _ _ _ => trivial, fun _ _ _ _ _ => (sp_and (sp_cmp (op_neD gd.hu64) v2_ne (sp_v rfl rfl (by first | exact .inl rfl | exact .inr (.inl rfl) | exact .inr (.inr rfl))) (sp_v rfl rfl (by first | exact .inl rfl | exact .inr (.inl rfl) | exact .inr (.inr rfl)))) (sp_one (sp_call gd.blk.blk k_has_all rfl (SPs.cons (sp_v rfl rfl (by first | exact .inl rfl | exact .inr (.inl rfl) | exact .inr (.inr rfl))) (SPs.cons (sp_v rfl rfl (by first | exact .inl rfl | exact .inr (.inl rfl) | exact .inr (.inr rfl))) SPs.nil)))))⟩))))), fun _ _ _ _ _ => (sp_v rfl rfl (by first | exact .inl rfl | exact .inr (.inl rfl) | exact .inr (.inr rfl)))⟩)))))
theorem f_least_of {k : Nat} (h : Fc K mg) (k_has_all : Cal P w K mg base (k + 1) "has_all" 2 [] false [] c_has_all) (F : FunD K "least_of" "least_of" (defArgs (top 29)) (defBody (top 29)) (defScope (top 29)) [] [] f fd) : FnOk P w K mg base (L2.CX P w) (k + 2) f fd ["lots"] (spC K 1 [] false c_least_of) :=
  spC_cong p_least_of.eq ▸ fn_mk F sc_least_of rfl (by decide) fun cdv A outer s H E hr => d_least_of h k_has_all (gd_of sc_least_of.nd hr)
def b_greatest_of : Rf.Env → Fl := (sRet (lift (fun env => mkL ((eComp true [1] (fun env => itA ((eVar 0) env)) (gN 1) (Tst.f (Tst.one (bNot (fun env => asB ((nd (g1 fAny) [(fun env => mkL ((eComp true [2] (fun env => itA ((eVar 0) env)) (gN 2) (Tst.f Tst.no) (vAnd (nd (g2 (fEq true)) [(eVar 2), (eVar 1)]) (nd (gCall 2 [] c_has_all) [(eVar 2), (eVar 1)]))) env))]) env))))) (eVar 1)) env))))
def c0_greatest_of : List D → C := runB 3 1 [] b_greatest_of
def p_greatest_of : Pe1 c0_greatest_of where
  f := _
  ok := fun a => by
    simp only [c0_greatest_of, b_greatest_of, runB, env0, outs, w_ret, w_nil, w_bad, w_seq, w_ifL, w_if, w_setL, w_setLL, w_dropL, w_retL, w_retLL, w_nd0, w_nd1, w_nd2, w_nd3, g1, g2, eVar, eC, eComp, compF_gN, compF_gT, Tst.f, wipeE, mkL, O.bind, bAnd, bOr, bNot, vAnd, vOr, vNot, vIf, eChain, eSl, eSlL, oNone, oSome, eTupS, eLstS, seqSt, eBm, eMeth, gMeth, ePrp, gCall, keepI, noX, seqF, List.length_cons, List.length_nil, List.map_cons, List.map_nil, List.cons_append, List.nil_append, List.set_cons_zero, List.set_cons_succ, List.getElem?_cons_zero, List.getElem?_cons_succ, List.replicate_succ, List.replicate_zero, Nat.reduceAdd, Nat.reduceSub, Bool.true_or, Bool.false_or, Bool.true_and]
    rfl
def c_greatest_of : List D → C := p_greatest_of.c
abbrev N_greatest_of : List Str := ["lots", "lot", "other"]
theorem sc_greatest_of : FnScope N_greatest_of ["lots"] (defScope (top 30)) := ⟨rfl, rfl, rfl, by decide +kernel, rfl, by decide +kernel, by decide +kernel⟩
theorem d_greatest_of {cdv : Value} {A : Around} {outer : List PySem.Env} {s : Shared} {H : Hp} {E : XK} {k : Nat} (h : Fc K mg) (k_has_all : Cal P w K mg base (k + 1) "has_all" 2 [] false [] c_has_all) (gd : Gd (cxOf (L2.CX P w) P w K mg base N_greatest_of "greatest_of" (defScope (top 30)) f cdv A outer s H E) (fun c d _ H => E c d H) (k + 1)) :
    SSs (cxOf (L2.CX P w) P w K mg base N_greatest_of "greatest_of" (defScope (top 30)) f cdv A outer s H E) ⟨[], [], false⟩ (fun c d _ H => E c d H) (defBody (top 30)) b_greatest_of :=
  (ss_one (s_ret rfl (SP.se (SPL.sp (spl_comp (own := [("lot", 1)]) (T := (Tst.one (bNot (fun env => asB ((nd (g1 fAny) [(fun env => mkL ((eComp true [2] (fun env => itA ((eVar 0) env)) (gN 2) (Tst.f Tst.no) (vAnd (nd (g2 (fEq true)) [(eVar 2), (eVar 1)]) (nd (gCall 2 [] c_has_all) [(eVar 2), (eVar 1)]))) env))]) env))))) gd ⟨(si_any (sp_v rfl rfl (by first | exact .inl rfl | exact .inr (.inl rfl) | exact .inr (.inr rfl)))), (blkOk_by (N := N_greatest_of) (sc := (defScope (top 30))) (own := [("lot", 1)]) (by decide +kernel)), fun _ _ _ _ _ => (sg_name rfl rfl gd.blk.nd rfl (by first | exact .inl rfl | exact .inr rfl)), fun _ _ _ _ _ => (st_not (st_val (sp_b1 (cr_any gd.blk.calm) vc_any rfl h.n_any boot_any (SPL.sp (spl_comp (own := [("other", 2)]) (T := Tst.no) gd.blk ⟨(si_any (sp_v rfl rfl (by first | exact .inl rfl | exact .inr (.inl rfl) | exact .inr (.inr rfl)))), (blkOk_by (N := N_greatest_of) (sc := (relS _ (defScope (top 30)))) (own := [("other", 2)]) (by decide +kernel)), fun _ _ _ _ _ => (sg_name rfl rfl gd.blk.blk.nd rfl (by first | exact .inl rfl | exact .inr rfl)), fun _ _ _ _ _ => trivial, fun _ _ _ _ _ => (sp_and (sp_cmp (op_neD gd.hu64) v2_ne (sp_v rfl rfl (by first | exact .inl rfl | exact .inr (.inl rfl) | exact .inr (.inr rfl))) (sp_v rfl rfl (by first | exact .inl rfl | exact .inr (.inl rfl) | exact .inr (.inr rfl)))) (sp_one (sp_call gd.blk.blk k_has_all rfl (SPs.cons (sp_v rfl rfl (by first | exact .inl rfl | exact .inr (.inl rfl) | exact .inr (.inr rfl))) (SPs.cons (sp_v rfl rfl (by first | exact .inl rfl | exact .inr (.inl rfl) | exact .inr (.inr rfl))) SPs.nil)))))⟩))))), fun _ _ _ _ _ => (sp_v rfl rfl (by first | exact .inl rfl | exact .inr (.inl rfl) | exact .inr (.inr rfl)))⟩)))))
theorem f_greatest_of {k : Nat} (h : Fc K mg) (k_has_all : Cal P w K mg base (k + 1) "has_all" 2 [] false [] c_has_all) (F : FunD K "greatest_of" "greatest_of" (defArgs (top 30)) (defBody (top 30)) (defScope (top 30)) [] [] f fd) : FnOk P w K mg base (L2.CX P w) (k + 2) f fd ["lots"] (spC K 1 [] false c_greatest_of) :=
  spC_cong p_greatest_of.eq ▸ fn_mk F sc_greatest_of rfl (by decide) fun cdv A outer s H E hr => d_greatest_of h k_has_all (gd_of sc_greatest_of.nd hr)
def b_number_in : Rf.Env → Fl := (seqB (sSet 1 (lift (vIf (fun env => asB ((nd (g2 (fEq false)) [(eSl (eVar 0) oNone (oSome (eC (.int 1)))), (eC (.str "-"))]) env)) (eSl (eVar 0) (oSome (eC (.int 1))) oNone) (eVar 0))))
  (seqB (sIf (liftB (bOr (fun env => asB ((nd (g2 (fEq false)) [(eVar 1), (eC (.str ""))]) env)) (bNot (fun env => asB ((nd (g1 fAll) [(fun env => mkL ((eComp true [2] (fun env => itA ((eVar 1) env)) (gN 2) (Tst.f Tst.no) (nd (g2 (fIn false)) [(eVar 2), (eC (.str "0123456789"))])) env))]) env))))) (sRet (lift (eC .non))) sNil)
  (seqB (sIf (liftB (bAnd (fun env => asB ((nd (g2 (fEq false)) [(nd (g2 fIx) [(eVar 1), (eC (.int 0))]), (eC (.str "0"))]) env)) (fun env => asB ((nd (g2 (fEq true)) [(eVar 0), (eC (.str "0"))]) env)))) (sRet (lift (eC .non))) sNil)
  (sRet (lift (nd (g1 fInt) [(eVar 0)]))))))
def c0_number_in : List D → C := runB 3 1 [] b_number_in
def p_number_in : Pe1 c0_number_in where
  f := _
  ok := fun a => by
    simp only [c0_number_in, b_number_in, runB, env0, outs, w_ret, w_nil, w_bad, w_seq, w_ifL, w_if, w_setL, w_setLL, w_dropL, w_retL, w_retLL, w_nd0, w_nd1, w_nd2, w_nd3, g1, g2, eVar, eC, eComp, compF_gN, compF_gT, Tst.f, wipeE, mkL, O.bind, bAnd, bOr, bNot, vAnd, vOr, vNot, vIf, eChain, eSl, eSlL, oNone, oSome, eTupS, eLstS, seqSt, eBm, eMeth, gMeth, ePrp, gCall, keepI, noX, seqF, List.length_cons, List.length_nil, List.map_cons, List.map_nil, List.cons_append, List.nil_append, List.set_cons_zero, List.set_cons_succ, List.getElem?_cons_zero, List.getElem?_cons_succ, List.replicate_succ, List.replicate_zero, Nat.reduceAdd, Nat.reduceSub, Bool.true_or, Bool.false_or, Bool.true_and]
    rfl
def c_number_in : List D → C := p_number_in.c
abbrev N_number_in : List Str := ["word", "figures", "sign"]
theorem sc_number_in : FnScope N_number_in ["word"] (defScope (top 23)) := ⟨rfl, rfl, rfl, by decide +kernel, rfl, by decide +kernel, by decide +kernel⟩
theorem d_number_in {cdv : Value} {A : Around} {outer : List PySem.Env} {s : Shared} {H : Hp} {E : XK} {k : Nat} (h : Fc K mg)  (gd : Gd (cxOf (L2.CX P w) P w K mg base N_number_in "number_in" (defScope (top 23)) f cdv A outer s H E) (fun c d _ H => E c d H) (k + 1)) :
    SSs (cxOf (L2.CX P w) P w K mg base N_number_in "number_in" (defScope (top 23)) f cdv A outer s H E) ⟨[], [], false⟩ (fun c d _ H => E c d H) (defBody (top 23)) b_number_in :=
  (ss_cons (s_set rfl rfl (asgE gd.nd rfl (by first | exact .inl rfl | exact .inr rfl) (SP.se (sp_if (st_cmp (op_eqD gd.hu64) v2_eq (sp_sl (sp_v rfl rfl (by first | exact .inl rfl | exact .inr (.inl rfl) | exact .inr (.inr rfl))) spo_none (spo_some sp_int)) (sp_gstr rfl h.g_MINUS)) (sp_sl (sp_v rfl rfl (by first | exact .inl rfl | exact .inr (.inl rfl) | exact .inr (.inr rfl))) (spo_some sp_int) spo_none) (sp_v rfl rfl (by first | exact .inl rfl | exact .inr (.inl rfl) | exact .inr (.inr rfl)))))))
  (ss_cons (s_if (STp.ste (SW.st (sw_or (st_cmp (op_eqD gd.hu64) v2_eq (sp_v rfl rfl (by first | exact .inl rfl | exact .inr (.inl rfl) | exact .inr (.inr rfl))) sp_str) (sw_or1 (st_not (st_val (sp_b1 (cr_all gd.calm) vc_all rfl h.n_all boot_all (SPL.sp (spl_comp (own := [("sign", 2)]) (T := Tst.no) gd ⟨(si_any (sp_v rfl rfl (by first | exact .inl rfl | exact .inr (.inl rfl) | exact .inr (.inr rfl)))), (blkOk_by (N := N_number_in) (sc := (defScope (top 23))) (own := [("sign", 2)]) (by decide +kernel)), fun _ _ _ _ _ => (sg_name rfl rfl gd.blk.nd rfl (by first | exact .inl rfl | exact .inr rfl)), fun _ _ _ _ _ => trivial, fun _ _ _ _ _ => (sp_cmp (op_inAll gd.hu) (v2_in false) (sp_v rfl rfl (by first | exact .inl rfl | exact .inr (.inl rfl) | exact .inr (.inr rfl))) (sp_gstr rfl h.g_FIGURES))⟩))))))))) (ss_one (s_ret rfl (SP.se sp_non))) ss_nil)
  (ss_cons (s_if (STp.ste (SW.st (sw_and (st_cmp (op_eqD gd.hu64) v2_eq (sp_ix (sp_v rfl rfl (by first | exact .inl rfl | exact .inr (.inl rfl) | exact .inr (.inr rfl))) sp_int) sp_str) (sw_and1 (st_cmp (op_neD gd.hu64) v2_ne (sp_v rfl rfl (by first | exact .inl rfl | exact .inr (.inl rfl) | exact .inr (.inr rfl))) sp_str))))) (ss_one (s_ret rfl (SP.se sp_non))) ss_nil)
  (ss_one (s_ret rfl (SP.se (sp_t1 call_intAll vc_int rfl h.n_int boot_int (sp_v rfl rfl (by first | exact .inl rfl | exact .inr (.inl rfl) | exact .inr (.inr rfl))))))))))
theorem f_number_in {k : Nat} (h : Fc K mg)  (F : FunD K "number_in" "number_in" (defArgs (top 23)) (defBody (top 23)) (defScope (top 23)) [] [] f fd) : FnOk P w K mg base (L2.CX P w) (k + 2) f fd ["word"] (spC K 1 [] false c_number_in) :=
  spC_cong p_number_in.eq ▸ fn_mk F sc_number_in rfl (by decide) fun cdv A outer s H E hr => d_number_in h  (gd_of sc_number_in.nd hr)
def b_are_unlike : Rf.Env → Fl := (sRet (lift (nd (g1 fAll) [(fun env => mkL ((eComp true [1, 2] (fun env => itEn ((eVar 0) env)) (gT 2 (gsC (gN 1) (gsC (gN 2) gsN))) (Tst.f Tst.no) (nd (g2 (fIn true)) [(eVar 2), (eSl (eVar 0) oNone (oSome (eVar 1)))])) env))])))
def c0_are_unlike : List D → C := runB 3 1 [] b_are_unlike
def p_are_unlike : Pe1 c0_are_unlike where
  f := _
  ok := fun a => by
    simp only [c0_are_unlike, b_are_unlike, runB, env0, outs, w_ret, w_nil, w_bad, w_seq, w_ifL, w_if, w_setL, w_setLL, w_dropL, w_retL, w_retLL, w_nd0, w_nd1, w_nd2, w_nd3, g1, g2, eVar, eC, eComp, compF_gN, compF_gT, Tst.f, wipeE, mkL, O.bind, bAnd, bOr, bNot, vAnd, vOr, vNot, vIf, eChain, eSl, eSlL, oNone, oSome, eTupS, eLstS, seqSt, eBm, eMeth, gMeth, ePrp, gCall, keepI, noX, seqF, List.length_cons, List.length_nil, List.map_cons, List.map_nil, List.cons_append, List.nil_append, List.set_cons_zero, List.set_cons_succ, List.getElem?_cons_zero, List.getElem?_cons_succ, List.replicate_succ, List.replicate_zero, Nat.reduceAdd, Nat.reduceSub, Bool.true_or, Bool.false_or, Bool.true_and]
    rfl
def c_are_unlike : List D → C := p_are_unlike.c
abbrev N_are_unlike : List Str := ["some", "at", "one"]
theorem sc_are_unlike : FnScope N_are_unlike ["some"] (defScope (top 24)) := ⟨rfl, rfl, rfl, by decide +kernel, rfl, by decide +kernel, by decide +kernel⟩
theorem d_are_unlike {cdv : Value} {A : Around} {outer : List PySem.Env} {s : Shared} {H : Hp} {E : XK} {k : Nat} (h : Fc K mg)  (gd : Gd (cxOf (L2.CX P w) P w K mg base N_are_unlike "are_unlike" (defScope (top 24)) f cdv A outer s H E) (fun c d _ H => E c d H) (k + 1)) :
    SSs (cxOf (L2.CX P w) P w K mg base N_are_unlike "are_unlike" (defScope (top 24)) f cdv A outer s H E) ⟨[], [], false⟩ (fun c d _ H => E c d H) (defBody (top 24)) b_are_unlike :=
  (ss_one (s_ret rfl (SP.se (sp_b1 (cr_all gd.calm) vc_all rfl h.n_all boot_all (SPL.sp (spl_comp (own := [("at", 1), ("one", 2)]) (T := Tst.no) gd ⟨(si_enum rfl h.n_enumerate (sp_v rfl rfl (by first | exact .inl rfl | exact .inr (.inl rfl) | exact .inr (.inr rfl)))), (blkOk_by (N := N_are_unlike) (sc := (defScope (top 24))) (own := [("at", 1), ("one", 2)]) (by decide +kernel)), fun _ _ _ _ _ => (sg_tup (sgs_cons (sg_name rfl rfl gd.blk.nd rfl (by first | exact .inl rfl | exact .inr rfl)) (sgs_cons (sg_name rfl rfl gd.blk.nd rfl (by first | exact .inl rfl | exact .inr rfl)) sgs_nil)) fun t h => pg_tup gd.blk.calm h), fun _ _ _ _ _ => trivial, fun _ _ _ _ _ => (sp_cmp (op_notInAll gd.hu) (v2_in true) (sp_v rfl rfl (by first | exact .inl rfl | exact .inr (.inl rfl) | exact .inr (.inr rfl))) (sp_sl (sp_v rfl rfl (by first | exact .inl rfl | exact .inr (.inl rfl) | exact .inr (.inr rfl))) spo_none (spo_some (sp_v rfl rfl (by first | exact .inl rfl | exact .inr (.inl rfl) | exact .inr (.inr rfl))))))⟩))))))
theorem f_are_unlike {k : Nat} (h : Fc K mg)  (F : FunD K "are_unlike" "are_unlike" (defArgs (top 24)) (defBody (top 24)) (defScope (top 24)) [] [] f fd) : FnOk P w K mg base (L2.CX P w) (k + 2) f fd ["some"] (spC K 1 [] false c_are_unlike) :=
  spC_cong p_are_unlike.eq ▸ fn_mk F sc_are_unlike rfl (by decide) fun cdv A outer s H E hr => d_are_unlike h  (gd_of sc_are_unlike.nd hr)
def b_is_name : Rf.Env → Fl := (sRet (lift (vAnd (nd (g1 (fIsi "str")) [(eVar 0)]) (vAnd (eChain fLe fLe (eC (.int 1)) (nd (g1 fLenX) [(eVar 0)]) (eC (.int 8))) (nd (g1 fAll) [(fun env => mkL ((eComp true [1] (fun env => itA ((eVar 0) env)) (gN 1) (Tst.f Tst.no) (nd (g2 (fIn false)) [(eVar 1), (eC (.str "abcdefghijklmnopqrstuvwxyz"))])) env))])))))
def c0_is_name : List D → C := runB 2 1 [] b_is_name
def p_is_name : Pe1 c0_is_name where
  f := _
  ok := fun a => by
    simp only [c0_is_name, b_is_name, runB, env0, outs, w_ret, w_nil, w_bad, w_seq, w_ifL, w_if, w_setL, w_setLL, w_dropL, w_retL, w_retLL, w_nd0, w_nd1, w_nd2, w_nd3, g1, g2, eVar, eC, eComp, compF_gN, compF_gT, Tst.f, wipeE, mkL, O.bind, bAnd, bOr, bNot, vAnd, vOr, vNot, vIf, eChain, eSl, eSlL, oNone, oSome, eTupS, eLstS, seqSt, eBm, eMeth, gMeth, ePrp, gCall, keepI, noX, seqF, List.length_cons, List.length_nil, List.map_cons, List.map_nil, List.cons_append, List.nil_append, List.set_cons_zero, List.set_cons_succ, List.getElem?_cons_zero, List.getElem?_cons_succ, List.replicate_succ, List.replicate_zero, Nat.reduceAdd, Nat.reduceSub, Bool.true_or, Bool.false_or, Bool.true_and]
    rfl
def c_is_name : List D → C := p_is_name.c
abbrev N_is_name : List Str := ["value", "sign"]
theorem sc_is_name : FnScope N_is_name ["value"] (defScope (top 22)) := ⟨rfl, rfl, rfl, by decide +kernel, rfl, by decide +kernel, by decide +kernel⟩
theorem d_is_name {cdv : Value} {A : Around} {outer : List PySem.Env} {s : Shared} {H : Hp} {E : XK} {k : Nat} (h : Fc K mg)  (gd : Gd (cxOf (L2.CX P w) P w K mg base N_is_name "is_name" (defScope (top 22)) f cdv A outer s H E) (fun c d _ H => E c d H) (k + 1)) :
    SSs (cxOf (L2.CX P w) P w K mg base N_is_name "is_name" (defScope (top 22)) f cdv A outer s H E) ⟨[], [], false⟩ (fun c d _ H => E c d H) (defBody (top 22)) b_is_name :=
  (ss_one (s_ret rfl (SP.se (sp_and (sp_isi rfl h.n_isinstance rfl h.n_str (by decide +kernel) (by decide) (sp_v rfl rfl (by first | exact .inl rfl | exact .inr (.inl rfl) | exact .inr (.inr rfl)))) (sp_and (sp_chain op_le op_le v2_le v2_le sp_int (sp_b1 call_lenX vc_lenX rfl h.n_len boot_len (sp_v rfl rfl (by first | exact .inl rfl | exact .inr (.inl rfl) | exact .inr (.inr rfl)))) (sp_gint rfl h.g_MOST_SIGNS)) (sp_one (sp_b1 (cr_all gd.calm) vc_all rfl h.n_all boot_all (SPL.sp (spl_comp (own := [("sign", 1)]) (T := Tst.no) gd ⟨(si_any (sp_v rfl rfl (by first | exact .inl rfl | exact .inr (.inl rfl) | exact .inr (.inr rfl)))), (blkOk_by (N := N_is_name) (sc := (defScope (top 22))) (own := [("sign", 1)]) (by decide +kernel)), fun _ _ _ _ _ => (sg_name rfl rfl gd.blk.nd rfl (by first | exact .inl rfl | exact .inr rfl)), fun _ _ _ _ _ => trivial, fun _ _ _ _ _ => (sp_cmp (op_inAll gd.hu) (v2_in false) (sp_v rfl rfl (by first | exact .inl rfl | exact .inr (.inl rfl) | exact .inr (.inr rfl))) (sp_gstr rfl h.g_SIGNS))⟩)))))))))
theorem f_is_name {k : Nat} (h : Fc K mg)  (F : FunD K "is_name" "is_name" (defArgs (top 22)) (defBody (top 22)) (defScope (top 22)) [] [] f fd) : FnOk P w K mg base (L2.CX P w) (k + 2) f fd ["value"] (spC K 1 [] false c_is_name) :=
  spC_cong p_is_name.eq ▸ fn_mk F sc_is_name rfl (by decide) fun cdv A outer s H E hr => d_is_name h  (gd_of sc_is_name.nd hr)
def b_below_of : Rf.Env → Fl := (seqB (sPar [2, 3] [(liftL (nd gLstD [(eVar 1)])), (lift (eC (.int 0)))])
  (seqB (whileN (liftB (fun env => noX ((fun env => asB ((nd (g2 fLt) [(eVar 3), (nd (g1 fLenX) [(eVar 2)])]) env)) env))) (seqB (sMut 2 (liftL (eComp false [4, 5] (fun env => itA ((eVar 0) env)) (gT 2 (gsC (gN 4) (gsC (gN 5) gsN))) (Tst.f (Tst.one (bAnd (fun env => asB ((nd (g2 (fEq false)) [(eVar 4), (nd (g2 fIx) [(eVar 2), (eVar 3)])]) env)) (fun env => asB ((nd (g2 (fIn true)) [(eVar 5), (eVar 2)]) env))))) (eVar 5))) fExt)
  (sAug 3 fAddI (lift (eC (.int 1))))) 32)
  (sRet (liftL (eSlL (eVar 2) (oSome (eC (.int 1))) oNone)))))
def c0_below_of : List D → C := runB 6 2 [] b_below_of
def p_below_of : Pe2 c0_below_of where
  f := _
  ok := fun a b => by
    simp only [c0_below_of, b_below_of, runB, env0, outs, w_ret, w_nil, w_bad, w_seq, w_ifL, w_if, w_setL, w_setLL, w_dropL, w_retL, w_retLL, w_nd0, w_nd1, w_nd2, w_nd3, g1, g2, eVar, eC, eComp, compF_gN, compF_gT, Tst.f, wipeE, mkL, O.bind, bAnd, bOr, bNot, vAnd, vOr, vNot, vIf, eChain, eSl, eSlL, oNone, oSome, eTupS, eLstS, seqSt, eBm, eMeth, gMeth, ePrp, gCall, keepI, noX, seqF, List.length_cons, List.length_nil, List.map_cons, List.map_nil, List.cons_append, List.nil_append, List.set_cons_zero, List.set_cons_succ, List.getElem?_cons_zero, List.getElem?_cons_succ, List.replicate_succ, List.replicate_zero, Nat.reduceAdd, Nat.reduceSub, Bool.true_or, Bool.false_or, Bool.true_and]
    rfl
def c_below_of : List D → C := p_below_of.c
abbrev N_below_of : List Str := ["pairs", "role", "found", "at", "mine", "its"]
theorem sc_below_of : FnScope N_below_of ["pairs", "role"] (defScope (top 64)) := ⟨rfl, rfl, rfl, by decide +kernel, rfl, by decide +kernel, by decide +kernel⟩
theorem d_below_of {cdv : Value} {A : Around} {outer : List PySem.Env} {s : Shared} {H : Hp} {E : XK} {k : Nat} (h : Fc K mg)  (gd : Gd (cxOf (L2.CX P w) P w K mg base N_below_of "below_of" (defScope (top 64)) f cdv A outer s H E) (fun c d _ H => E c d H) (k + 1)) :
    SSs (cxOf (L2.CX P w) P w K mg base N_below_of "below_of" (defScope (top 64)) f cdv A outer s H E) ⟨[2], [], false⟩ (fun c d _ H => E c d H) (defBody (top 64)) b_below_of :=
  (ss_cons (by first | exact (s_par2 gd rfl rfl rfl rfl (SVs.own (SPL.so (b := true) (spl_lst (SPs.cons (sp_v rfl rfl (by first | exact .inl rfl | exact .inr (.inl rfl) | exact .inr (.inr rfl))) SPs.nil))) (SVs.kep (SP.se sp_int) SVs.nil))) | exact (s_parC (is := [2, 3]) gd (pgs_cons (pg_name gd.nd rfl (by first | exact .inl rfl | exact .inr rfl)) (pgs_cons (pg_name gd.nd rfl (by first | exact .inl rfl | exact .inr rfl)) pgs_nil)) (SVs.own (SPL.so (b := true) (spl_lst (SPs.cons (sp_v rfl rfl (by first | exact .inl rfl | exact .inr (.inl rfl) | exact .inr (.inr rfl))) SPs.nil))) (SVs.kep (SP.se sp_int) SVs.nil)) rfl rfl))
  (ss_cons (s_while 32 gd (STp.ste (STp.look (st_cmp op_lt v2_lt (sp_v rfl rfl (by first | exact .inl rfl | exact .inr (.inl rfl) | exact .inr (.inr rfl))) (sp_b1 call_lenX vc_lenX rfl h.n_len boot_len (sp_own rfl rfl (by first | exact .inl rfl | exact .inr (.inl rfl) | exact .inr (.inr rfl))))))) (ss_cons (s_extend rfl rfl (by first | exact .inl rfl | exact .inr (.inl rfl) | exact .inr (.inr rfl)) (SO.se (SPL.so (b := false) (spl_comp (own := [("mine", 4), ("its", 5)]) (T := (Tst.one (bAnd (fun env => asB ((nd (g2 (fEq false)) [(eVar 4), (nd (g2 fIx) [(eVar 2), (eVar 3)])]) env)) (fun env => asB ((nd (g2 (fIn true)) [(eVar 5), (eVar 2)]) env))))) gd ⟨(si_any (sp_v rfl rfl (by first | exact .inl rfl | exact .inr (.inl rfl) | exact .inr (.inr rfl)))), (blkOk_by (N := N_below_of) (sc := (defScope (top 64))) (own := [("mine", 4), ("its", 5)]) (by decide +kernel)), fun _ _ _ _ _ => (sg_tup (sgs_cons (sg_name rfl rfl gd.blk.nd rfl (by first | exact .inl rfl | exact .inr rfl)) (sgs_cons (sg_name rfl rfl gd.blk.nd rfl (by first | exact .inl rfl | exact .inr rfl)) sgs_nil)) fun t h => pg_tup gd.blk.calm h), fun _ _ _ _ _ => (SW.st (sw_and (st_cmp (op_eqD gd.hu64) v2_eq (sp_v rfl rfl (by first | exact .inl rfl | exact .inr (.inl rfl) | exact .inr (.inr rfl))) (sp_ix (sp_own rfl rfl (by first | exact .inl rfl | exact .inr (.inl rfl) | exact .inr (.inr rfl))) (sp_v rfl rfl (by first | exact .inl rfl | exact .inr (.inl rfl) | exact .inr (.inr rfl))))) (sw_and1 (st_cmp (op_notInAll gd.hu) (v2_in true) (sp_v rfl rfl (by first | exact .inl rfl | exact .inr (.inl rfl) | exact .inr (.inr rfl))) (sp_own rfl rfl (by first | exact .inl rfl | exact .inr (.inl rfl) | exact .inr (.inr rfl))))))), fun _ _ _ _ _ => (sp_v rfl rfl (by first | exact .inl rfl | exact .inr (.inl rfl) | exact .inr (.inr rfl)))⟩))))
  (ss_one (s_aug iop_add (v2_I0 fun _ _ _ => .int _) gd.nd rfl (by first | exact .inl rfl | exact .inr rfl) (SP.se sp_int)))))
  (ss_one (s_ret rfl (SO.se (SPL.so (b := false) (spl_sl (sp_own rfl rfl (by first | exact .inl rfl | exact .inr (.inl rfl) | exact .inr (.inr rfl))) (spo_some sp_int) spo_none)))))))
theorem f_below_of {k : Nat} (h : Fc K mg)  (F : FunD K "below_of" "below_of" (defArgs (top 64)) (defBody (top 64)) (defScope (top 64)) [] [] f fd) : FnOk P w K mg base (L2.CX P w) (k + 2) f fd ["pairs", "role"] (spC K 2 [] false c_below_of) :=
  spC_cong p_below_of.eq ▸ fn_mk F sc_below_of rfl (by decide) fun cdv A outer s H E hr => d_below_of h  (gd_of sc_below_of.nd hr)
def b_Reading___init__ : Rf.Env → Fl := (seqB (sFldD "Reading" "told_rights" 0 (fun env => ownI ((lift (nd gTupD [])) env)))
  (seqB (sFldD "Reading" "told_roles" 0 (lift (eC (.dic []))))
  (seqB (sFldD "Reading" "told_above" 0 (liftL (nd gLstD [])))
  (seqB (sFldD "Reading" "told_duties" 0 (liftL (nd gLstD [])))
  (seqB (sFldD "Reading" "told_rules" 0 (liftL (nd gLstD [])))
  (sFldD "Reading" "own_stage" 0 (fun env => ownI ((lift (eC (.int 0))) env))))))))
def c_Reading___init__ : List D → C := runB 1 1 [0] b_Reading___init__
abbrev N_Reading___init__ : List Str := ["self"]
theorem sc_Reading___init__ : FnScope N_Reading___init__ ["self"] (defScope (inCls 65 0)) := ⟨rfl, rfl, rfl, by decide +kernel, rfl, by decide +kernel, by decide +kernel⟩
theorem d_Reading___init__ {cdv : Value} {A : Around} {outer : List PySem.Env} {s : Shared} {H : Hp} {E : XK} {k : Nat} (h : Fc K mg)  (gd : Gd (cxOf (L2.CX P w) P w K mg base N_Reading___init__ "Reading.__init__" (defScope (inCls 65 0)) f cdv A outer s H E) (fun c d _ H => E c d H) (k + 1)) :
    SSs (cxOf (L2.CX P w) P w K mg base N_Reading___init__ "Reading.__init__" (defScope (inCls 65 0)) f cdv A outer s H E) ⟨[0], [0], false⟩ (fun c d _ H => E c d H) (defBody (inCls 65 0)) b_Reading___init__ :=
  (ss_cons (s_fld h.cl_Reading h.na_Reading_told_rights rfl rfl (by first | exact .inl rfl | exact .inr (.inl rfl) | exact .inr (.inr rfl)) (SE.so (SP.se (sp_tup SPs.nil))))
  (ss_cons (s_fld h.cl_Reading h.na_Reading_told_roles rfl rfl (by first | exact .inl rfl | exact .inr (.inl rfl) | exact .inr (.inr rfl)) (SPN.so spn_dict0))
  (ss_cons (s_fld h.cl_Reading h.na_Reading_told_above rfl rfl (by first | exact .inl rfl | exact .inr (.inl rfl) | exact .inr (.inr rfl)) (SPL.so (b := true) (spl_lst SPs.nil)))
  (ss_cons (s_fld h.cl_Reading h.na_Reading_told_duties rfl rfl (by first | exact .inl rfl | exact .inr (.inl rfl) | exact .inr (.inr rfl)) (SPL.so (b := true) (spl_lst SPs.nil)))
  (ss_cons (s_fld h.cl_Reading h.na_Reading_told_rules rfl rfl (by first | exact .inl rfl | exact .inr (.inl rfl) | exact .inr (.inr rfl)) (SPL.so (b := true) (spl_lst SPs.nil)))
  (ss_one (s_fld h.cl_Reading h.na_Reading_own_stage rfl rfl (by first | exact .inl rfl | exact .inr (.inl rfl) | exact .inr (.inr rfl)) (SE.so (SP.se sp_int)))))))))
theorem f_Reading___init__ {k : Nat} (h : Fc K mg)  (F : FunD K "__init__" "Reading.__init__" (defArgs (inCls 65 0)) (defBody (inCls 65 0)) (defScope (inCls 65 0)) [] [] f fd) : FnOk P w K mg base (L2.CX P w) (k + 2) f fd ["self"] (spC K 1 [0] false c_Reading___init__) :=
  fn_mk F sc_Reading___init__ rfl (by decide) fun cdv A outer s H E hr => d_Reading___init__ h  (gd_of sc_Reading___init__.nd hr)
def b_Reading_reads_rights : Rf.Env → Fl := (seqB (sFldD "Reading" "told_rights" 0 (fun env => ownI ((lift (eVar 1)) env)))
  (seqB (sSet 2 (lift (vAnd (eChain fLe fLe (eC (.int 2)) (nd (g1 fLenX) [(eVar 1)]) (eC (.int 6))) (nd (gCall 1 [] c_are_unlike) [(eVar 1)]))))
  (sRet (lift (vAnd (eVar 2) (nd (g1 fAll) [(fun env => mkL ((eComp true [3] (fun env => itA ((eVar 1) env)) (gN 3) (Tst.f Tst.no) (nd (gCall 1 [] c_is_name) [(eVar 3)])) env))]))))))
def c_Reading_reads_rights : List D → C := runB 4 2 [0] b_Reading_reads_rights
abbrev N_Reading_reads_rights : List Str := ["self", "names", "is_one", "name"]
theorem sc_Reading_reads_rights : FnScope N_Reading_reads_rights ["self", "names"] (defScope (inCls 65 2)) := ⟨rfl, rfl, rfl, by decide +kernel, rfl, by decide +kernel, by decide +kernel⟩
theorem d_Reading_reads_rights {cdv : Value} {A : Around} {outer : List PySem.Env} {s : Shared} {H : Hp} {E : XK} {k : Nat} (h : Fc K mg) (k_are_unlike : Cal P w K mg base (k + 1) "are_unlike" 1 [] false [] c_are_unlike) (k_is_name : Cal P w K mg base (k + 1) "is_name" 1 [] false [] c_is_name) (gd : Gd (cxOf (L2.CX P w) P w K mg base N_Reading_reads_rights "Reading.reads_rights" (defScope (inCls 65 2)) f cdv A outer s H E) (fun c d _ H => E c d H) (k + 1)) :
    SSs (cxOf (L2.CX P w) P w K mg base N_Reading_reads_rights "Reading.reads_rights" (defScope (inCls 65 2)) f cdv A outer s H E) ⟨[0], [0], false⟩ (fun c d _ H => E c d H) (defBody (inCls 65 2)) b_Reading_reads_rights :=
  (ss_cons (s_fld h.cl_Reading h.na_Reading_told_rights rfl rfl (by first | exact .inl rfl | exact .inr (.inl rfl) | exact .inr (.inr rfl)) (SE.so (SP.se (sp_v rfl rfl (by first | exact .inl rfl | exact .inr (.inl rfl) | exact .inr (.inr rfl))))))
  (ss_cons (s_set rfl rfl (asgE gd.nd rfl (by first | exact .inl rfl | exact .inr rfl) (SP.se (sp_and (sp_chain op_le op_le v2_le v2_le (sp_gint rfl h.g_FEWEST_RIGHTS) (sp_b1 call_lenX vc_lenX rfl h.n_len boot_len (sp_v rfl rfl (by first | exact .inl rfl | exact .inr (.inl rfl) | exact .inr (.inr rfl)))) (sp_gint rfl h.g_MOST_RIGHTS)) (sp_one (sp_call gd k_are_unlike rfl (SPs.cons (sp_v rfl rfl (by first | exact .inl rfl | exact .inr (.inl rfl) | exact .inr (.inr rfl))) SPs.nil)))))))
  (ss_one (s_ret rfl (SP.se (sp_and (sp_v rfl rfl (by first | exact .inl rfl | exact .inr (.inl rfl) | exact .inr (.inr rfl))) (sp_one (sp_b1 (cr_all gd.calm) vc_all rfl h.n_all boot_all (SPL.sp (spl_comp (own := [("name", 3)]) (T := Tst.no) gd ⟨(si_any (sp_v rfl rfl (by first | exact .inl rfl | exact .inr (.inl rfl) | exact .inr (.inr rfl)))), (blkOk_by (N := N_Reading_reads_rights) (sc := (defScope (inCls 65 2))) (own := [("name", 3)]) (by decide +kernel)), fun _ _ _ _ _ => (sg_name rfl rfl gd.blk.nd rfl (by first | exact .inl rfl | exact .inr rfl)), fun _ _ _ _ _ => trivial, fun _ _ _ _ _ => (sp_call gd.blk k_is_name rfl (SPs.cons (sp_v rfl rfl (by first | exact .inl rfl | exact .inr (.inl rfl) | exact .inr (.inr rfl))) SPs.nil))⟩))))))))))
theorem f_Reading_reads_rights {k : Nat} (h : Fc K mg) (k_are_unlike : Cal P w K mg base (k + 1) "are_unlike" 1 [] false [] c_are_unlike) (k_is_name : Cal P w K mg base (k + 1) "is_name" 1 [] false [] c_is_name) (F : FunD K "reads_rights" "Reading.reads_rights" (defArgs (inCls 65 2)) (defBody (inCls 65 2)) (defScope (inCls 65 2)) [] [] f fd) : FnOk P w K mg base (L2.CX P w) (k + 2) f fd ["self", "names"] (spC K 2 [0] false c_Reading_reads_rights) :=
  fn_mk F sc_Reading_reads_rights rfl (by decide) fun cdv A outer s H E hr => d_Reading_reads_rights h k_are_unlike k_is_name (gd_of sc_Reading_reads_rights.nd hr)
def b_Reading_reads_role : Rf.Env → Fl := (seqB (sIf (liftB (fun env => noX ((bOr (fun env => asB ((nd (g2 (fEq false)) [(eVar 1), (nd gTupD [])]) env)) (bOr (bNot (fun env => asB ((nd (gCall 1 [] c_is_name) [(nd (g2 fIx) [(eVar 1), (eC (.int 0))])]) env))) (bOr (fun env => asB ((nd (g2 (fIn false)) [(nd (g2 fIx) [(eVar 1), (eC (.int 0))]), (nd (g1 (fFld "Reading" "told_roles")) [(eVar 0)])]) env)) (fun env => asB ((nd (g2 (fEq false)) [(nd (g1 fLenX) [(nd (g1 (fFld "Reading" "told_roles")) [(eVar 0)])]), (eC (.int 6))]) env))))) env))) (sRet (lift (eC (.bl false)))) sNil)
  (seqB (sDputP 0 (.fld "Reading" "told_roles") (eSl (eVar 1) (oSome (eC (.int 1))) oNone) (nd (g2 fIx) [(eVar 1), (eC (.int 0))]))
  (sRet (lift (fun env => keepI ((nd (gCall 2 [] c_is_lot) [(nd (g1 (fFld "Reading" "told_rights")) [(eVar 0)]), (eSl (eVar 1) (oSome (eC (.int 1))) oNone)]) env))))))
def c_Reading_reads_role : List D → C := runB 2 2 [0] b_Reading_reads_role
abbrev N_Reading_reads_role : List Str := ["self", "names"]
theorem sc_Reading_reads_role : FnScope N_Reading_reads_role ["self", "names"] (defScope (inCls 65 3)) := ⟨rfl, rfl, rfl, by decide +kernel, rfl, by decide +kernel, by decide +kernel⟩
theorem d_Reading_reads_role {cdv : Value} {A : Around} {outer : List PySem.Env} {s : Shared} {H : Hp} {E : XK} {k : Nat} (h : Fc K mg) (k_is_name : Cal P w K mg base (k + 1) "is_name" 1 [] false [] c_is_name) (k_is_lot : Cal P w K mg base (k + 1) "is_lot" 2 [] false [] c_is_lot) (gd : Gd (cxOf (L2.CX P w) P w K mg base N_Reading_reads_role "Reading.reads_role" (defScope (inCls 65 3)) f cdv A outer s H E) (fun c d _ H => E c d H) (k + 1)) :
    SSs (cxOf (L2.CX P w) P w K mg base N_Reading_reads_role "Reading.reads_role" (defScope (inCls 65 3)) f cdv A outer s H E) ⟨[0], [0], false⟩ (fun c d _ H => E c d H) (defBody (inCls 65 3)) b_Reading_reads_role :=
  (ss_cons (s_if (STp.ste (STp.look (SW.st (sw_or (st_cmp (op_eqD gd.hu64) v2_eq (sp_v rfl rfl (by first | exact .inl rfl | exact .inr (.inl rfl) | exact .inr (.inr rfl))) (sp_tup SPs.nil)) (sw_or (st_not (st_val (sp_call gd k_is_name rfl (SPs.cons (sp_ix (sp_v rfl rfl (by first | exact .inl rfl | exact .inr (.inl rfl) | exact .inr (.inr rfl))) sp_int) SPs.nil)))) (sw_or (st_cmp (op_inAll gd.hu) (v2_in false) (sp_ix (sp_v rfl rfl (by first | exact .inl rfl | exact .inr (.inl rfl) | exact .inr (.inr rfl))) sp_int) (sp_fld h.cl_Reading h.na_Reading_told_roles (sp_own rfl rfl (by first | exact .inl rfl | exact .inr (.inl rfl) | exact .inr (.inr rfl))))) (sw_or1 (st_cmp (op_eqD gd.hu64) v2_eq (sp_b1 call_lenX vc_lenX rfl h.n_len boot_len (sp_fld h.cl_Reading h.na_Reading_told_roles (sp_own rfl rfl (by first | exact .inl rfl | exact .inr (.inl rfl) | exact .inr (.inr rfl))))) (sp_gint rfl h.g_MOST_ROLES))))))))) (ss_one (s_ret rfl (SP.se sp_bl))) ss_nil)
  (ss_cons (s_dputP gd rfl (pe_stf h.cl_Reading h.na_Reading_told_roles rfl (by first | exact .inl rfl | exact .inr (.inl rfl) | exact .inr (.inr rfl))) (sp_sl (sp_v rfl rfl (by first | exact .inl rfl | exact .inr (.inl rfl) | exact .inr (.inr rfl))) (spo_some sp_int) spo_none) (sp_ix (sp_v rfl rfl (by first | exact .inl rfl | exact .inr (.inl rfl) | exact .inr (.inr rfl))) sp_int))
  (ss_one (s_ret rfl (SP.se (SP.kept (sp_call gd k_is_lot rfl (SPs.cons (sp_fld h.cl_Reading h.na_Reading_told_rights (sp_own rfl rfl (by first | exact .inl rfl | exact .inr (.inl rfl) | exact .inr (.inr rfl)))) (SPs.cons (sp_sl (sp_v rfl rfl (by first | exact .inl rfl | exact .inr (.inl rfl) | exact .inr (.inr rfl))) (spo_some sp_int) spo_none) SPs.nil)))))))))
theorem f_Reading_reads_role {k : Nat} (h : Fc K mg) (k_is_name : Cal P w K mg base (k + 1) "is_name" 1 [] false [] c_is_name) (k_is_lot : Cal P w K mg base (k + 1) "is_lot" 2 [] false [] c_is_lot) (F : FunD K "reads_role" "Reading.reads_role" (defArgs (inCls 65 3)) (defBody (inCls 65 3)) (defScope (inCls 65 3)) [] [] f fd) : FnOk P w K mg base (L2.CX P w) (k + 2) f fd ["self", "names"] (spC K 2 [0] false c_Reading_reads_role) :=
  fn_mk F sc_Reading_reads_role rfl (by decide) fun cdv A outer s H E hr => d_Reading_reads_role h k_is_name k_is_lot (gd_of sc_Reading_reads_role.nd hr)
def b_Reading_reads_above : Rf.Env → Fl := (seqB (sIf (liftB (fun env => noX ((bOr (fun env => asB ((nd (g2 (fEq true)) [(nd (g1 fLenX) [(eVar 1)]), (eC (.int 2))]) env)) (bOr (fun env => asB ((nd (g2 (fIn false)) [(eVar 1), (nd (g1 (fFld "Reading" "told_above")) [(eVar 0)])]) env)) (fun env => asB ((nd (g2 (fEq false)) [(nd (g1 fLenX) [(nd (g1 (fFld "Reading" "told_above")) [(eVar 0)])]), (eC (.int 8))]) env)))) env))) (sRet (lift (eC (.bl false)))) sNil)
  (seqB (sIf (liftB (fun env => noX ((bOr (fun env => asB ((nd (g2 (fEq false)) [(nd (g2 fIx) [(eVar 1), (eC (.int 0))]), (nd (g2 fIx) [(eVar 1), (eC (.int 1))])]) env)) (bNot (fun env => asB ((nd (g1 fAll) [(fun env => mkL ((eComp false [2] (fun env => itA ((eVar 1) env)) (gN 2) (Tst.f Tst.no) (nd (g2 (fIn false)) [(eVar 2), (nd (g1 (fFld "Reading" "told_roles")) [(eVar 0)])])) env))]) env)))) env))) (sRet (lift (eC (.bl false)))) sNil)
  (seqB (sMutP 0 (.fld "Reading" "told_above") (eVar 1) fAppI)
  (sRet (lift (fun env => keepI ((nd (g2 (fIn true)) [(nd (g2 fIx) [(eVar 1), (eC (.int 0))]), (nd (gCall 2 [] c_below_of) [(nd (g1 (fFld "Reading" "told_above")) [(eVar 0)]), (nd (g2 fIx) [(eVar 1), (eC (.int 1))])])]) env)))))))
def c_Reading_reads_above : List D → C := runB 3 2 [0] b_Reading_reads_above
abbrev N_Reading_reads_above : List Str := ["self", "names", "name"]
theorem sc_Reading_reads_above : FnScope N_Reading_reads_above ["self", "names"] (defScope (inCls 65 4)) := ⟨rfl, rfl, rfl, by decide +kernel, rfl, by decide +kernel, by decide +kernel⟩
theorem d_Reading_reads_above {cdv : Value} {A : Around} {outer : List PySem.Env} {s : Shared} {H : Hp} {E : XK} {k : Nat} (h : Fc K mg) (k_below_of : Cal P w K mg base (k + 1) "below_of" 2 [] false [] c_below_of) (gd : Gd (cxOf (L2.CX P w) P w K mg base N_Reading_reads_above "Reading.reads_above" (defScope (inCls 65 4)) f cdv A outer s H E) (fun c d _ H => E c d H) (k + 1)) :
    SSs (cxOf (L2.CX P w) P w K mg base N_Reading_reads_above "Reading.reads_above" (defScope (inCls 65 4)) f cdv A outer s H E) ⟨[0], [0], false⟩ (fun c d _ H => E c d H) (defBody (inCls 65 4)) b_Reading_reads_above :=
  (ss_cons (s_if (STp.ste (STp.look (SW.st (sw_or (st_cmp (op_neD gd.hu64) v2_ne (sp_b1 call_lenX vc_lenX rfl h.n_len boot_len (sp_v rfl rfl (by first | exact .inl rfl | exact .inr (.inl rfl) | exact .inr (.inr rfl)))) (sp_gint rfl h.g_PAIR)) (sw_or (st_cmp (op_inAll gd.hu) (v2_in false) (sp_v rfl rfl (by first | exact .inl rfl | exact .inr (.inl rfl) | exact .inr (.inr rfl))) (sp_fld h.cl_Reading h.na_Reading_told_above (sp_own rfl rfl (by first | exact .inl rfl | exact .inr (.inl rfl) | exact .inr (.inr rfl))))) (sw_or1 (st_cmp (op_eqD gd.hu64) v2_eq (sp_b1 call_lenX vc_lenX rfl h.n_len boot_len (sp_fld h.cl_Reading h.na_Reading_told_above (sp_own rfl rfl (by first | exact .inl rfl | exact .inr (.inl rfl) | exact .inr (.inr rfl))))) (sp_gint rfl h.g_MOST_ABOVE)))))))) (ss_one (s_ret rfl (SP.se sp_bl))) ss_nil)
  (ss_cons (s_if (STp.ste (STp.look (SW.st (sw_or (st_cmp (op_eqD gd.hu64) v2_eq (sp_ix (sp_v rfl rfl (by first | exact .inl rfl | exact .inr (.inl rfl) | exact .inr (.inr rfl))) sp_int) (sp_ix (sp_v rfl rfl (by first | exact .inl rfl | exact .inr (.inl rfl) | exact .inr (.inr rfl))) sp_int)) (sw_or1 (st_not (st_val (sp_b1 (cr_all gd.calm) vc_all rfl h.n_all boot_all (SPL.sp (spl_comp (own := [("name", 2)]) (T := Tst.no) gd ⟨(si_any (sp_v rfl rfl (by first | exact .inl rfl | exact .inr (.inl rfl) | exact .inr (.inr rfl)))), (blkOk_by (N := N_Reading_reads_above) (sc := (defScope (inCls 65 4))) (own := [("name", 2)]) (by decide +kernel)), fun _ _ _ _ _ => (sg_name rfl rfl gd.blk.nd rfl (by first | exact .inl rfl | exact .inr rfl)), fun _ _ _ _ _ => trivial, fun _ _ _ _ _ => (sp_cmp (op_inAll gd.hu) (v2_in false) (sp_v rfl rfl (by first | exact .inl rfl | exact .inr (.inl rfl) | exact .inr (.inr rfl))) (sp_fld h.cl_Reading h.na_Reading_told_roles (sp_own rfl rfl (by first | exact .inl rfl | exact .inr (.inl rfl) | exact .inr (.inr rfl)))))⟩)))))))))) (ss_one (s_ret rfl (SP.se sp_bl))) ss_nil)
  (ss_cons (s_appendP rfl (pe_stf h.cl_Reading h.na_Reading_told_above rfl (by first | exact .inl rfl | exact .inr (.inl rfl) | exact .inr (.inr rfl))) (sp_v rfl rfl (by first | exact .inl rfl | exact .inr (.inl rfl) | exact .inr (.inr rfl))))
  (ss_one (s_ret rfl (SP.se (SP.kept (sp_cmp (op_notInAll gd.hu) (v2_in true) (sp_ix (sp_v rfl rfl (by first | exact .inl rfl | exact .inr (.inl rfl) | exact .inr (.inr rfl))) sp_int) (sp_call gd k_below_of rfl (SPs.cons (sp_fld h.cl_Reading h.na_Reading_told_above (sp_own rfl rfl (by first | exact .inl rfl | exact .inr (.inl rfl) | exact .inr (.inr rfl)))) (SPs.cons (sp_ix (sp_v rfl rfl (by first | exact .inl rfl | exact .inr (.inl rfl) | exact .inr (.inr rfl))) sp_int) SPs.nil)))))))))))
theorem f_Reading_reads_above {k : Nat} (h : Fc K mg) (k_below_of : Cal P w K mg base (k + 1) "below_of" 2 [] false [] c_below_of) (F : FunD K "reads_above" "Reading.reads_above" (defArgs (inCls 65 4)) (defBody (inCls 65 4)) (defScope (inCls 65 4)) [] [] f fd) : FnOk P w K mg base (L2.CX P w) (k + 2) f fd ["self", "names"] (spC K 2 [0] false c_Reading_reads_above) :=
  fn_mk F sc_Reading_reads_above rfl (by decide) fun cdv A outer s H E hr => d_Reading_reads_above h k_below_of (gd_of sc_Reading_reads_above.nd hr)
def b_Reading_reads_duty : Rf.Env → Fl := (seqB (sSet 2 (lift (vIf (fun env => asB ((nd (g2 (fEq false)) [(eVar 1), (nd gTupD [])]) env)) (eC .non) (nd (gCall 1 [] c_number_in) [(nd (g2 fIx) [(eVar 1), (eC (.int 0))])]))))
  (seqB (sIf (liftB (fun env => noX ((bOr (fun env => asB ((nd (g2 (fIs false)) [(eVar 2), (eC .non)]) env)) (bOr (bNot (fun env => asB ((eChain fLe fLe (eC (.int 2)) (eVar 2) (eC (.int 5))) env))) (fun env => asB ((nd (g2 (fEq false)) [(nd (g1 fLenX) [(nd (g1 (fFld "Reading" "told_duties")) [(eVar 0)])]), (eC (.int 3))]) env)))) env))) (sRet (lift (eC (.bl false)))) sNil)
  (seqB (sSet 3 (lift (nd gTupD [(eVar 2), (eSl (eVar 1) (oSome (eC (.int 1))) oNone)])))
  (seqB (sIf (liftB (fun env => noX ((bOr (fun env => asB ((nd (g2 (fIn false)) [(eVar 3), (nd (g1 (fFld "Reading" "told_duties")) [(eVar 0)])]) env)) (fun env => asB ((nd (g2 (fEq false)) [(eSl (eVar 1) (oSome (eC (.int 1))) oNone), (nd gTupD [])]) env))) env))) (sRet (lift (eC (.bl false)))) sNil)
  (seqB (sMutP 0 (.fld "Reading" "told_duties") (eVar 3) fAppI)
  (sRet (lift (fun env => keepI ((nd (gCall 2 [] c_is_lot) [(nd (g1 (fFld "Reading" "told_rights")) [(eVar 0)]), (eSl (eVar 1) (oSome (eC (.int 1))) oNone)]) env)))))))))
def c_Reading_reads_duty : List D → C := runB 4 2 [0] b_Reading_reads_duty
abbrev N_Reading_reads_duty : List Str := ["self", "words", "number", "duty"]
theorem sc_Reading_reads_duty : FnScope N_Reading_reads_duty ["self", "words"] (defScope (inCls 65 5)) := ⟨rfl, rfl, rfl, by decide +kernel, rfl, by decide +kernel, by decide +kernel⟩
theorem d_Reading_reads_duty {cdv : Value} {A : Around} {outer : List PySem.Env} {s : Shared} {H : Hp} {E : XK} {k : Nat} (h : Fc K mg) (k_number_in : Cal P w K mg base (k + 1) "number_in" 1 [] false [] c_number_in) (k_is_lot : Cal P w K mg base (k + 1) "is_lot" 2 [] false [] c_is_lot) (gd : Gd (cxOf (L2.CX P w) P w K mg base N_Reading_reads_duty "Reading.reads_duty" (defScope (inCls 65 5)) f cdv A outer s H E) (fun c d _ H => E c d H) (k + 1)) :
    SSs (cxOf (L2.CX P w) P w K mg base N_Reading_reads_duty "Reading.reads_duty" (defScope (inCls 65 5)) f cdv A outer s H E) ⟨[0], [0], false⟩ (fun c d _ H => E c d H) (defBody (inCls 65 5)) b_Reading_reads_duty :=
  (ss_cons (s_set rfl rfl (asgE gd.nd rfl (by first | exact .inl rfl | exact .inr rfl) (SP.se (sp_if (st_cmp (op_eqD gd.hu64) v2_eq (sp_v rfl rfl (by first | exact .inl rfl | exact .inr (.inl rfl) | exact .inr (.inr rfl))) (sp_tup SPs.nil)) sp_non (sp_call gd k_number_in rfl (SPs.cons (sp_ix (sp_v rfl rfl (by first | exact .inl rfl | exact .inr (.inl rfl) | exact .inr (.inr rfl))) sp_int) SPs.nil))))))
  (ss_cons (s_if (STp.ste (STp.look (SW.st (sw_or (st_cmp op_isN v2_is (sp_v rfl rfl (by first | exact .inl rfl | exact .inr (.inl rfl) | exact .inr (.inr rfl))) sp_non) (sw_or (st_not (st_chain op_le op_le v2_le v2_le (sp_gint rfl h.g_LEAST_NUMBER) (sp_v rfl rfl (by first | exact .inl rfl | exact .inr (.inl rfl) | exact .inr (.inr rfl))) (sp_gint rfl h.g_MOST_NUMBER))) (sw_or1 (st_cmp (op_eqD gd.hu64) v2_eq (sp_b1 call_lenX vc_lenX rfl h.n_len boot_len (sp_fld h.cl_Reading h.na_Reading_told_duties (sp_own rfl rfl (by first | exact .inl rfl | exact .inr (.inl rfl) | exact .inr (.inr rfl))))) (sp_gint rfl h.g_MOST_DUTIES)))))))) (ss_one (s_ret rfl (SP.se sp_bl))) ss_nil)
  (ss_cons (s_set rfl rfl (asgE gd.nd rfl (by first | exact .inl rfl | exact .inr rfl) (SP.se (sp_tup (SPs.cons (sp_v rfl rfl (by first | exact .inl rfl | exact .inr (.inl rfl) | exact .inr (.inr rfl))) (SPs.cons (sp_sl (sp_v rfl rfl (by first | exact .inl rfl | exact .inr (.inl rfl) | exact .inr (.inr rfl))) (spo_some sp_int) spo_none) SPs.nil))))))
  (ss_cons (s_if (STp.ste (STp.look (SW.st (sw_or (st_cmp (op_inAll gd.hu) (v2_in false) (sp_v rfl rfl (by first | exact .inl rfl | exact .inr (.inl rfl) | exact .inr (.inr rfl))) (sp_fld h.cl_Reading h.na_Reading_told_duties (sp_own rfl rfl (by first | exact .inl rfl | exact .inr (.inl rfl) | exact .inr (.inr rfl))))) (sw_or1 (st_cmp (op_eqD gd.hu64) v2_eq (sp_sl (sp_v rfl rfl (by first | exact .inl rfl | exact .inr (.inl rfl) | exact .inr (.inr rfl))) (spo_some sp_int) spo_none) (sp_tup SPs.nil))))))) (ss_one (s_ret rfl (SP.se sp_bl))) ss_nil)
  (ss_cons (s_appendP rfl (pe_stf h.cl_Reading h.na_Reading_told_duties rfl (by first | exact .inl rfl | exact .inr (.inl rfl) | exact .inr (.inr rfl))) (sp_v rfl rfl (by first | exact .inl rfl | exact .inr (.inl rfl) | exact .inr (.inr rfl))))
  (ss_one (s_ret rfl (SP.se (SP.kept (sp_call gd k_is_lot rfl (SPs.cons (sp_fld h.cl_Reading h.na_Reading_told_rights (sp_own rfl rfl (by first | exact .inl rfl | exact .inr (.inl rfl) | exact .inr (.inr rfl)))) (SPs.cons (sp_sl (sp_v rfl rfl (by first | exact .inl rfl | exact .inr (.inl rfl) | exact .inr (.inr rfl))) (spo_some sp_int) spo_none) SPs.nil))))))))))))
theorem f_Reading_reads_duty {k : Nat} (h : Fc K mg) (k_number_in : Cal P w K mg base (k + 1) "number_in" 1 [] false [] c_number_in) (k_is_lot : Cal P w K mg base (k + 1) "is_lot" 2 [] false [] c_is_lot) (F : FunD K "reads_duty" "Reading.reads_duty" (defArgs (inCls 65 5)) (defBody (inCls 65 5)) (defScope (inCls 65 5)) [] [] f fd) : FnOk P w K mg base (L2.CX P w) (k + 2) f fd ["self", "words"] (spC K 2 [0] false c_Reading_reads_duty) :=
  fn_mk F sc_Reading_reads_duty rfl (by decide) fun cdv A outer s H E hr => d_Reading_reads_duty h k_number_in k_is_lot (gd_of sc_Reading_reads_duty.nd hr)
def b_Reading_reads_rule : Rf.Env → Fl := (seqB (sSet 2 (lift (vIf (fun env => asB ((nd (g2 (fEq false)) [(eVar 1), (nd gTupD [])]) env)) (eC .non) (nd (gCall 1 [] c_number_in) [(nd (g2 fIx) [(eVar 1), (eC (.int 0))])]))))
  (seqB (sIf (liftB (fun env => noX ((bOr (fun env => asB ((nd (g2 (fIs false)) [(eVar 2), (eC .non)]) env)) (bOr (bNot (fun env => asB ((eChain fLe fLt (eC (.int 1)) (eVar 2) (nd (g1 fLenX) [(eVar 1)])) env))) (fun env => asB ((nd (g2 (fEq false)) [(nd (g1 fLenX) [(nd (g1 (fFld "Reading" "told_rules")) [(eVar 0)])]), (eC (.int 8))]) env)))) env))) (sRet (lift (eC (.bl false)))) sNil)
  (seqB (sSet 3 (lift (nd gTupD [(eVar 2), (eSl (eVar 1) (oSome (eC (.int 1))) oNone)])))
  (seqB (sIf (liftB (fun env => noX ((fun env => asB ((nd (g2 (fIn false)) [(eVar 3), (nd (g1 (fFld "Reading" "told_rules")) [(eVar 0)])]) env)) env))) (sRet (lift (eC (.bl false)))) sNil)
  (seqB (sMutP 0 (.fld "Reading" "told_rules") (eVar 3) fAppI)
  (sRet (lift (fun env => keepI ((nd (gCall 2 [] c_is_lot) [(fun env => ((nd (g1 (fFld "Reading" "told_roles")) [(eVar 0)]) env).bind fKeys), (eSl (eVar 1) (oSome (eC (.int 1))) oNone)]) env)))))))))
def c_Reading_reads_rule : List D → C := runB 4 2 [0] b_Reading_reads_rule
abbrev N_Reading_reads_rule : List Str := ["self", "words", "number", "rule"]
theorem sc_Reading_reads_rule : FnScope N_Reading_reads_rule ["self", "words"] (defScope (inCls 65 6)) := ⟨rfl, rfl, rfl, by decide +kernel, rfl, by decide +kernel, by decide +kernel⟩
theorem d_Reading_reads_rule {cdv : Value} {A : Around} {outer : List PySem.Env} {s : Shared} {H : Hp} {E : XK} {k : Nat} (h : Fc K mg) (k_number_in : Cal P w K mg base (k + 1) "number_in" 1 [] false [] c_number_in) (k_is_lot : Cal P w K mg base (k + 1) "is_lot" 2 [] false [] c_is_lot) (gd : Gd (cxOf (L2.CX P w) P w K mg base N_Reading_reads_rule "Reading.reads_rule" (defScope (inCls 65 6)) f cdv A outer s H E) (fun c d _ H => E c d H) (k + 1)) :
    SSs (cxOf (L2.CX P w) P w K mg base N_Reading_reads_rule "Reading.reads_rule" (defScope (inCls 65 6)) f cdv A outer s H E) ⟨[0], [0], false⟩ (fun c d _ H => E c d H) (defBody (inCls 65 6)) b_Reading_reads_rule :=
  (ss_cons (s_set rfl rfl (asgE gd.nd rfl (by first | exact .inl rfl | exact .inr rfl) (SP.se (sp_if (st_cmp (op_eqD gd.hu64) v2_eq (sp_v rfl rfl (by first | exact .inl rfl | exact .inr (.inl rfl) | exact .inr (.inr rfl))) (sp_tup SPs.nil)) sp_non (sp_call gd k_number_in rfl (SPs.cons (sp_ix (sp_v rfl rfl (by first | exact .inl rfl | exact .inr (.inl rfl) | exact .inr (.inr rfl))) sp_int) SPs.nil))))))
  (ss_cons (s_if (STp.ste (STp.look (SW.st (sw_or (st_cmp op_isN v2_is (sp_v rfl rfl (by first | exact .inl rfl | exact .inr (.inl rfl) | exact .inr (.inr rfl))) sp_non) (sw_or (st_not (st_chain op_le op_lt v2_le v2_lt sp_int (sp_v rfl rfl (by first | exact .inl rfl | exact .inr (.inl rfl) | exact .inr (.inr rfl))) (sp_b1 call_lenX vc_lenX rfl h.n_len boot_len (sp_v rfl rfl (by first | exact .inl rfl | exact .inr (.inl rfl) | exact .inr (.inr rfl)))))) (sw_or1 (st_cmp (op_eqD gd.hu64) v2_eq (sp_b1 call_lenX vc_lenX rfl h.n_len boot_len (sp_fld h.cl_Reading h.na_Reading_told_rules (sp_own rfl rfl (by first | exact .inl rfl | exact .inr (.inl rfl) | exact .inr (.inr rfl))))) (sp_gint rfl h.g_MOST_RULES)))))))) (ss_one (s_ret rfl (SP.se sp_bl))) ss_nil)
  (ss_cons (s_set rfl rfl (asgE gd.nd rfl (by first | exact .inl rfl | exact .inr rfl) (SP.se (sp_tup (SPs.cons (sp_v rfl rfl (by first | exact .inl rfl | exact .inr (.inl rfl) | exact .inr (.inr rfl))) (SPs.cons (sp_sl (sp_v rfl rfl (by first | exact .inl rfl | exact .inr (.inl rfl) | exact .inr (.inr rfl))) (spo_some sp_int) spo_none) SPs.nil))))))
  (ss_cons (s_if (STp.ste (STp.look (st_cmp (op_inAll gd.hu) (v2_in false) (sp_v rfl rfl (by first | exact .inl rfl | exact .inr (.inl rfl) | exact .inr (.inr rfl))) (sp_fld h.cl_Reading h.na_Reading_told_rules (sp_own rfl rfl (by first | exact .inl rfl | exact .inr (.inl rfl) | exact .inr (.inr rfl))))))) (ss_one (s_ret rfl (SP.se sp_bl))) ss_nil)
  (ss_cons (s_appendP rfl (pe_stf h.cl_Reading h.na_Reading_told_rules rfl (by first | exact .inl rfl | exact .inr (.inl rfl) | exact .inr (.inr rfl))) (sp_v rfl rfl (by first | exact .inl rfl | exact .inr (.inl rfl) | exact .inr (.inr rfl))))
  (ss_one (s_ret rfl (SP.se (SP.kept (sp_call gd k_is_lot rfl (SPs.cons (sp_tupKeys gd (sp_fld h.cl_Reading h.na_Reading_told_roles (sp_own rfl rfl (by first | exact .inl rfl | exact .inr (.inl rfl) | exact .inr (.inr rfl)))) rfl h.n_tuple) (SPs.cons (sp_sl (sp_v rfl rfl (by first | exact .inl rfl | exact .inr (.inl rfl) | exact .inr (.inr rfl))) (spo_some sp_int) spo_none) SPs.nil))))))))))))
theorem f_Reading_reads_rule {k : Nat} (h : Fc K mg) (k_number_in : Cal P w K mg base (k + 1) "number_in" 1 [] false [] c_number_in) (k_is_lot : Cal P w K mg base (k + 1) "is_lot" 2 [] false [] c_is_lot) (F : FunD K "reads_rule" "Reading.reads_rule" (defArgs (inCls 65 6)) (defBody (inCls 65 6)) (defScope (inCls 65 6)) [] [] f fd) : FnOk P w K mg base (L2.CX P w) (k + 2) f fd ["self", "words"] (spC K 2 [0] false c_Reading_reads_rule) :=
  fn_mk F sc_Reading_reads_rule rfl (by decide) fun cdv A outer s H E hr => d_Reading_reads_rule h k_number_in k_is_lot (gd_of sc_Reading_reads_rule.nd hr)
def b_Reading_reads : Rf.Env → Fl := (seqB (sSet 2 (lift (fun env => mkL ((eBm isStr fSplit (eVar 1) (eC (.str " "))) env))))
  (seqB (sIf (liftB (fun env => noX ((bOr (fun env => asB ((nd (g2 (fIn true)) [(nd (g2 fIx) [(eVar 2), (eC (.int 0))]), (eC (.tup v_LINES))]) env)) (fun env => asB ((nd (g2 (fEq true)) [(nd (g2 (fEq false)) [(nd (g1 (fFld "Reading" "told_rights")) [(eVar 0)]), (nd gTupD [])]), (nd (g2 (fEq false)) [(nd (g2 fIx) [(eVar 2), (eC (.int 0))]), (eC (.str "rights"))])]) env))) env))) (sRet (lift (eC (.bl false)))) sNil)
  (seqB (sParF 3 0 "Reading" "own_stage" (fun env => keepI ((nd (g1 (fFld "Reading" "own_stage")) [(eVar 0)]) env)) (nd (g1 (fIdx (.tup v_LINES))) [(nd (g2 fIx) [(eVar 2), (eC (.int 0))])]))
  (seqB (sIf (liftB (fun env => noX ((fun env => asB ((nd (g2 fLt) [(nd (g1 (fFld "Reading" "own_stage")) [(eVar 0)]), (eVar 3)]) env)) env))) (sRet (lift (eC (.bl false)))) sNil)
  (seqB (sSet 4 (lift (nd (g1 fTuple) [(eSl (eVar 2) (oSome (eC (.int 1))) oNone)])))
  (seqB (sIf (liftB (fun env => asB ((nd (g2 (fEq false)) [(nd (g2 fIx) [(eVar 2), (eC (.int 0))]), (eC (.str "rights"))]) env))) (sRet (eMethR "Reading" "reads_rights" 0 [.ex (lift (eVar 4))] c_Reading_reads_rights)) sNil)
  (seqB (sIf (liftB (fun env => asB ((nd (g2 (fEq false)) [(nd (g2 fIx) [(eVar 2), (eC (.int 0))]), (eC (.str "role"))]) env))) (sRet (eMethR "Reading" "reads_role" 0 [.ex (lift (eVar 4))] c_Reading_reads_role)) sNil)
  (seqB (sIf (liftB (fun env => noX ((fun env => asB ((nd (g2 fEqE) [(nd (g1 (fFld "Reading" "told_roles")) [(eVar 0)]), (eC (.dic []))]) env)) env))) (sRet (lift (eC (.bl false)))) sNil)
  (seqB (sIf (liftB (fun env => asB ((nd (g2 (fEq false)) [(nd (g2 fIx) [(eVar 2), (eC (.int 0))]), (eC (.str "above"))]) env))) (sRet (eMethR "Reading" "reads_above" 0 [.ex (lift (eVar 4))] c_Reading_reads_above)) sNil)
  (seqB (sIf (liftB (fun env => asB ((nd (g2 (fEq false)) [(nd (g2 fIx) [(eVar 2), (eC (.int 0))]), (eC (.str "duty"))]) env))) (sRet (eMethR "Reading" "reads_duty" 0 [.ex (lift (eVar 4))] c_Reading_reads_duty)) sNil)
  (sRet (eAndR (nd (g2 (fEq true)) [(nd (g1 (fFld "Reading" "told_duties")) [(eVar 0)]), (fun env => mkL ((nd gLstD []) env))]) (eMethR "Reading" "reads_rule" 0 [.ex (lift (eVar 4))] c_Reading_reads_rule)))))))))))))
def c_Reading_reads : List D → C := runB 5 2 [0] b_Reading_reads
abbrev N_Reading_reads : List Str := ["self", "line", "words", "ahead", "rest"]
theorem sc_Reading_reads : FnScope N_Reading_reads ["self", "line"] (defScope (inCls 65 1)) := ⟨rfl, rfl, rfl, by decide +kernel, rfl, by decide +kernel, by decide +kernel⟩
theorem d_Reading_reads {cdv : Value} {A : Around} {outer : List PySem.Env} {s : Shared} {H : Hp} {E : XK} {k : Nat} (h : Fc K mg) (k_Reading_reads_rights : Mth P w K mg base (k + 1) "Reading" "reads_rights" 2 [0] false [] c_Reading_reads_rights) (k_Reading_reads_role : Mth P w K mg base (k + 1) "Reading" "reads_role" 2 [0] false [] c_Reading_reads_role) (k_Reading_reads_above : Mth P w K mg base (k + 1) "Reading" "reads_above" 2 [0] false [] c_Reading_reads_above) (k_Reading_reads_duty : Mth P w K mg base (k + 1) "Reading" "reads_duty" 2 [0] false [] c_Reading_reads_duty) (k_Reading_reads_rule : Mth P w K mg base (k + 1) "Reading" "reads_rule" 2 [0] false [] c_Reading_reads_rule) (gd : Gd (cxOf (L2.CX P w) P w K mg base N_Reading_reads "Reading.reads" (defScope (inCls 65 1)) f cdv A outer s H E) (fun c d _ H => E c d H) (k + 1)) :
    SSs (cxOf (L2.CX P w) P w K mg base N_Reading_reads "Reading.reads" (defScope (inCls 65 1)) f cdv A outer s H E) ⟨[0], [0], false⟩ (fun c d _ H => E c d H) (defBody (inCls 65 1)) b_Reading_reads :=
  (ss_cons (s_set rfl rfl (asgE gd.nd rfl (by first | exact .inl rfl | exact .inr rfl) (SP.se (SPL.sp (spl_split (sp_v rfl rfl (by first | exact .inl rfl | exact .inr (.inl rfl) | exact .inr (.inr rfl))) (sp_gstr rfl h.g_BLANK))))))
  (ss_cons (s_if (STp.ste (STp.look (SW.st (sw_or (st_cmp (op_notInAll gd.hu) (v2_in true) (sp_ix (sp_v rfl rfl (by first | exact .inl rfl | exact .inr (.inl rfl) | exact .inr (.inr rfl))) sp_int) (sp_glob rfl h.g_LINES h.r_LINES)) (sw_or1 (st_cmp (op_neD gd.hu64) v2_ne (sp_cmp (op_eqD gd.hu64) v2_eq (sp_fld h.cl_Reading h.na_Reading_told_rights (sp_own rfl rfl (by first | exact .inl rfl | exact .inr (.inl rfl) | exact .inr (.inr rfl)))) (sp_tup SPs.nil)) (sp_cmp (op_eqD gd.hu64) v2_eq (sp_ix (sp_v rfl rfl (by first | exact .inl rfl | exact .inr (.inl rfl) | exact .inr (.inr rfl))) sp_int) (sp_gstr rfl h.g_RIGHTS)))))))) (ss_one (s_ret rfl (SP.se sp_bl))) ss_nil)
  (ss_cons (s_parF gd h.cl_Reading h.na_Reading_own_stage rfl (by first | exact .inl rfl | exact .inr rfl) rfl (by first | exact .inl rfl | exact .inr (.inl rfl) | exact .inr (.inr rfl)) (SP.kept (sp_fld h.cl_Reading h.na_Reading_own_stage (sp_own rfl rfl (by first | exact .inl rfl | exact .inr (.inl rfl) | exact .inr (.inr rfl))))) (sp_indexG rfl h.g_LINES h.r_LINES h.l_LINES (sp_ix (sp_v rfl rfl (by first | exact .inl rfl | exact .inr (.inl rfl) | exact .inr (.inr rfl))) sp_int)))
  (ss_cons (s_if (STp.ste (STp.look (st_cmp op_lt v2_lt (sp_fld h.cl_Reading h.na_Reading_own_stage (sp_own rfl rfl (by first | exact .inl rfl | exact .inr (.inl rfl) | exact .inr (.inr rfl)))) (sp_v rfl rfl (by first | exact .inl rfl | exact .inr (.inl rfl) | exact .inr (.inr rfl)))))) (ss_one (s_ret rfl (SP.se sp_bl))) ss_nil)
  (ss_cons (s_set rfl rfl (asgE gd.nd rfl (by first | exact .inl rfl | exact .inr rfl) (SP.se (sp_t1 call_tuple_of vc_tuple rfl h.n_tuple boot_tuple (sp_sl (sp_v rfl rfl (by first | exact .inl rfl | exact .inr (.inl rfl) | exact .inr (.inr rfl))) (spo_some sp_int) spo_none)))))
  (ss_cons (s_if (STp.ste (st_cmp (op_eqD gd.hu64) v2_eq (sp_ix (sp_v rfl rfl (by first | exact .inl rfl | exact .inr (.inl rfl) | exact .inr (.inr rfl))) sp_int) (sp_gstr rfl h.g_RIGHTS))) (ss_one (s_ret rfl (se_methR (pl := _) gd flatE k_Reading_reads_rights rfl rfl (by first | exact .inl rfl | exact .inr (.inl rfl) | exact .inr (.inr rfl)) (SAs.ex (SP.se (sp_v rfl rfl (by first | exact .inl rfl | exact .inr (.inl rfl) | exact .inr (.inr rfl)))) SAs.nil)))) ss_nil)
  (ss_cons (s_if (STp.ste (st_cmp (op_eqD gd.hu64) v2_eq (sp_ix (sp_v rfl rfl (by first | exact .inl rfl | exact .inr (.inl rfl) | exact .inr (.inr rfl))) sp_int) (sp_gstr rfl h.g_ROLE))) (ss_one (s_ret rfl (se_methR (pl := _) gd flatE k_Reading_reads_role rfl rfl (by first | exact .inl rfl | exact .inr (.inl rfl) | exact .inr (.inr rfl)) (SAs.ex (SP.se (sp_v rfl rfl (by first | exact .inl rfl | exact .inr (.inl rfl) | exact .inr (.inr rfl)))) SAs.nil)))) ss_nil)
  (ss_cons (s_if (STp.ste (STp.look (st_cmp (op_eqE (by have := gd.hu; omega)) v2_eqE (sp_fld h.cl_Reading h.na_Reading_told_roles (sp_own rfl rfl (by first | exact .inl rfl | exact .inr (.inl rfl) | exact .inr (.inr rfl)))) (SPN.sp spn_dict0)))) (ss_one (s_ret rfl (SP.se sp_bl))) ss_nil)
  (ss_cons (s_if (STp.ste (st_cmp (op_eqD gd.hu64) v2_eq (sp_ix (sp_v rfl rfl (by first | exact .inl rfl | exact .inr (.inl rfl) | exact .inr (.inr rfl))) sp_int) (sp_gstr rfl h.g_ABOVE))) (ss_one (s_ret rfl (se_methR (pl := _) gd flatE k_Reading_reads_above rfl rfl (by first | exact .inl rfl | exact .inr (.inl rfl) | exact .inr (.inr rfl)) (SAs.ex (SP.se (sp_v rfl rfl (by first | exact .inl rfl | exact .inr (.inl rfl) | exact .inr (.inr rfl)))) SAs.nil)))) ss_nil)
  (ss_cons (s_if (STp.ste (st_cmp (op_eqD gd.hu64) v2_eq (sp_ix (sp_v rfl rfl (by first | exact .inl rfl | exact .inr (.inl rfl) | exact .inr (.inr rfl))) sp_int) (sp_gstr rfl h.g_DUTY))) (ss_one (s_ret rfl (se_methR (pl := _) gd flatE k_Reading_reads_duty rfl rfl (by first | exact .inl rfl | exact .inr (.inl rfl) | exact .inr (.inr rfl)) (SAs.ex (SP.se (sp_v rfl rfl (by first | exact .inl rfl | exact .inr (.inl rfl) | exact .inr (.inr rfl)))) SAs.nil)))) ss_nil)
  (ss_one (s_ret rfl (se_and (sp_cmp (op_neD gd.hu64) v2_ne (sp_fld h.cl_Reading h.na_Reading_told_duties (sp_own rfl rfl (by first | exact .inl rfl | exact .inr (.inl rfl) | exact .inr (.inr rfl)))) (SPL.sp (spl_lst SPs.nil))) (se_methR (pl := _) gd flatE k_Reading_reads_rule rfl rfl (by first | exact .inl rfl | exact .inr (.inl rfl) | exact .inr (.inr rfl)) (SAs.ex (SP.se (sp_v rfl rfl (by first | exact .inl rfl | exact .inr (.inl rfl) | exact .inr (.inr rfl)))) SAs.nil)))))))))))))))
theorem f_Reading_reads {k : Nat} (h : Fc K mg) (k_Reading_reads_rights : Mth P w K mg base (k + 1) "Reading" "reads_rights" 2 [0] false [] c_Reading_reads_rights) (k_Reading_reads_role : Mth P w K mg base (k + 1) "Reading" "reads_role" 2 [0] false [] c_Reading_reads_role) (k_Reading_reads_above : Mth P w K mg base (k + 1) "Reading" "reads_above" 2 [0] false [] c_Reading_reads_above) (k_Reading_reads_duty : Mth P w K mg base (k + 1) "Reading" "reads_duty" 2 [0] false [] c_Reading_reads_duty) (k_Reading_reads_rule : Mth P w K mg base (k + 1) "Reading" "reads_rule" 2 [0] false [] c_Reading_reads_rule) (F : FunD K "reads" "Reading.reads" (defArgs (inCls 65 1)) (defBody (inCls 65 1)) (defScope (inCls 65 1)) [] [] f fd) : FnOk P w K mg base (L2.CX P w) (k + 2) f fd ["self", "line"] (spC K 2 [0] false c_Reading_reads) :=
  fn_mk F sc_Reading_reads rfl (by decide) fun cdv A outer s H E hr => d_Reading_reads h k_Reading_reads_rights k_Reading_reads_role k_Reading_reads_above k_Reading_reads_duty k_Reading_reads_rule (gd_of sc_Reading_reads.nd hr)
def b_read : Rf.Env → Fl := (seqB (sIf (liftB (bNot (fun env => asB ((nd (g1 (fIsi "str")) [(eVar 0)]) env)))) sBad sNil)
  (seqB (sPar [1, 2] [(lift (fun env => mkL ((eBm isStr fSplit (eVar 0) (eC (.str "\n"))) env))), (eMk "Reading" 1 c_Reading___init__ [])])
  (seqB (sFor (fun env => ((fun env => itEn ((eVar 1) env)) env).at env) (gT 2 (gsC (gN 3) (gsC (gN 4) gsN))) (sIf (fun env => notR ((fun env => asBR ((eMethR "Reading" "reads" 2 [.ex (lift (eVar 4))] c_Reading_reads) env)) env)) sBad sNil))
  (seqB (sIf (liftB (fun env => noX ((fun env => asB ((nd (g2 (fEq false)) [(nd (g1 (fFld "Reading" "told_duties")) [(eVar 2)]), (fun env => mkL ((nd gLstD []) env))]) env)) env))) sBad sNil)
  (sRet (eMove 2))))))
def c_read : List D → C := runB 5 1 [] b_read
abbrev N_read : List Str := ["text", "lines", "found", "number", "line"]
theorem sc_read : FnScope N_read ["text"] (defScope (top 66)) := ⟨rfl, rfl, rfl, by decide +kernel, rfl, by decide +kernel, by decide +kernel⟩
theorem d_read {cdv : Value} {A : Around} {outer : List PySem.Env} {s : Shared} {H : Hp} {E : XK} {k : Nat} (h : Fc K mg) (k_Reading : Mkr P w K mg base k "Reading" 1 c_Reading___init__) (k_Reading_reads : Mth P w K mg base (k + 1) "Reading" "reads" 2 [0] false [] c_Reading_reads) (gd : Gd (cxOf (L2.CX P w) P w K mg base N_read "read" (defScope (top 66)) f cdv A outer s H E) (fun c d _ H => E c d H) (k + 1)) :
    SSs (cxOf (L2.CX P w) P w K mg base N_read "read" (defScope (top 66)) f cdv A outer s H E) ⟨[2], [], true⟩ (fun c d _ H => E c d H) (defBody (top 66)) b_read :=
  (ss_cons (s_if (STp.ste (st_not (st_val (sp_isi rfl h.n_isinstance rfl h.n_str (by decide +kernel) (by decide) (sp_v rfl rfl (by first | exact .inl rfl | exact .inr (.inl rfl) | exact .inr (.inr rfl))))))) (ss_one s_bad) ss_nil)
  (ss_cons (by first | exact (s_par2 gd rfl rfl rfl rfl (SVs.kep (SP.se (SPL.sp (spl_split (sp_v rfl rfl (by first | exact .inl rfl | exact .inr (.inl rfl) | exact .inr (.inr rfl))) (sp_gstr rfl h.g_FEED)))) (SVs.own (so_make0 gd flatE k_Reading rfl) SVs.nil))) | exact (s_parC (is := [1, 2]) gd (pgs_cons (pg_name gd.nd rfl (by first | exact .inl rfl | exact .inr rfl)) (pgs_cons (pg_name gd.nd rfl (by first | exact .inl rfl | exact .inr rfl)) pgs_nil)) (SVs.kep (SP.se (SPL.sp (spl_split (sp_v rfl rfl (by first | exact .inl rfl | exact .inr (.inl rfl) | exact .inr (.inr rfl))) (sp_gstr rfl h.g_FEED)))) (SVs.own (so_make0 gd flatE k_Reading rfl) SVs.nil)) rfl rfl))
  (ss_cons (s_for (vs := [3, 4]) gd (SI.sie (si_enum rfl h.n_enumerate (sp_v rfl rfl (by first | exact .inl rfl | exact .inr (.inl rfl) | exact .inr (.inr rfl))))) (sg_tup (sgs_cons (sg_name rfl rfl gd.nd rfl (by first | exact .inl rfl | exact .inr rfl)) (sgs_cons (sg_name rfl rfl gd.nd rfl (by first | exact .inl rfl | exact .inr rfl)) sgs_nil)) fun t h => pg_tup gd.calm h) rfl (ss_one (s_if (ste_not (ste_val (se_methR (pl := _) gd flatE k_Reading_reads rfl rfl (by first | exact .inl rfl | exact .inr (.inl rfl) | exact .inr (.inr rfl)) (SAs.ex (SP.se (sp_v rfl rfl (by first | exact .inl rfl | exact .inr (.inl rfl) | exact .inr (.inr rfl)))) SAs.nil)))) (ss_one s_bad) ss_nil)))
  (ss_cons (s_if (STp.ste (STp.look (st_cmp (op_eqD gd.hu64) v2_eq (sp_fld h.cl_Reading h.na_Reading_told_duties (sp_own rfl rfl (by first | exact .inl rfl | exact .inr (.inl rfl) | exact .inr (.inr rfl)))) (SPL.sp (spl_lst SPs.nil))))) (ss_one s_bad) ss_nil)
  (ss_one (s_retO rfl (so_move rfl rfl (by first | exact .inl rfl | exact .inr (.inl rfl) | exact .inr (.inr rfl)))))))))
theorem f_read {k : Nat} (h : Fc K mg) (k_Reading : Mkr P w K mg base k "Reading" 1 c_Reading___init__) (k_Reading_reads : Mth P w K mg base (k + 1) "Reading" "reads" 2 [0] false [] c_Reading_reads) (F : FunD K "read" "read" (defArgs (top 66)) (defBody (top 66)) (defScope (top 66)) [] [] f fd) : FnOk P w K mg base (L2.CX P w) (k + 2) f fd ["text"] (spC K 1 [] true c_read) :=
  fn_mk F sc_read rfl (by decide) fun cdv A outer s H E hr => d_read h k_Reading k_Reading_reads (gd_of sc_read.nd hr)
def b_numbered_line : Rf.Env → Fl := (sRet (lift (eBm isStr fJoin (eC (.str " ")) (fun env => mkL ((eLstS [(false, (eVar 0)), (false, (nd (g1 fStr) [(nd (g2 fIx) [(eVar 1), (eC (.int 0))])])), (true, (nd (g2 fIx) [(eVar 1), (eC (.int 1))]))]) env)))))
def c0_numbered_line : List D → C := runB 2 2 [] b_numbered_line
def p_numbered_line : Pe2 c0_numbered_line where
  f := _
  ok := fun a b => by
    simp only [c0_numbered_line, b_numbered_line, runB, env0, outs, w_ret, w_nil, w_bad, w_seq, w_ifL, w_if, w_setL, w_setLL, w_dropL, w_retL, w_retLL, w_nd0, w_nd1, w_nd2, w_nd3, g1, g2, eVar, eC, eComp, compF_gN, compF_gT, Tst.f, wipeE, mkL, O.bind, bAnd, bOr, bNot, vAnd, vOr, vNot, vIf, eChain, eSl, eSlL, oNone, oSome, eTupS, eLstS, seqSt, eBm, eMeth, gMeth, ePrp, gCall, keepI, noX, seqF, List.length_cons, List.length_nil, List.map_cons, List.map_nil, List.cons_append, List.nil_append, List.set_cons_zero, List.set_cons_succ, List.getElem?_cons_zero, List.getElem?_cons_succ, List.replicate_succ, List.replicate_zero, Nat.reduceAdd, Nat.reduceSub, Bool.true_or, Bool.false_or, Bool.true_and]
    rfl
def c_numbered_line : List D → C := p_numbered_line.c
abbrev N_numbered_line : List Str := ["word", "pair"]
theorem sc_numbered_line : FnScope N_numbered_line ["word", "pair"] (defScope (top 67)) := ⟨rfl, rfl, rfl, by decide +kernel, rfl, by decide +kernel, by decide +kernel⟩
theorem d_numbered_line {cdv : Value} {A : Around} {outer : List PySem.Env} {s : Shared} {H : Hp} {E : XK} {k : Nat} (h : Fc K mg)  (gd : Gd (cxOf (L2.CX P w) P w K mg base N_numbered_line "numbered_line" (defScope (top 67)) f cdv A outer s H E) (fun c d _ H => E c d H) (k + 1)) :
    SSs (cxOf (L2.CX P w) P w K mg base N_numbered_line "numbered_line" (defScope (top 67)) f cdv A outer s H E) ⟨[], [], false⟩ (fun c d _ H => E c d H) (defBody (top 67)) b_numbered_line :=
  (ss_one (s_ret rfl (SP.se (sp_join (sp_gstr rfl h.g_BLANK) (SPL.sp (spl_lstS (SSt.pl (sp_v rfl rfl (by first | exact .inl rfl | exact .inr (.inl rfl) | exact .inr (.inr rfl))) rfl (SSt.pl (sp_t1 call_str_int vc_str rfl h.n_str boot_str (sp_ix (sp_v rfl rfl (by first | exact .inl rfl | exact .inr (.inl rfl) | exact .inr (.inr rfl))) sp_int)) rfl (SSt.st (sp_ix (sp_v rfl rfl (by first | exact .inl rfl | exact .inr (.inl rfl) | exact .inr (.inr rfl))) sp_int) SSt.nil)))))))))
theorem f_numbered_line {k : Nat} (h : Fc K mg)  (F : FunD K "numbered_line" "numbered_line" (defArgs (top 67)) (defBody (top 67)) (defScope (top 67)) [] [] f fd) : FnOk P w K mg base (L2.CX P w) (k + 2) f fd ["word", "pair"] (spC K 2 [] false c_numbered_line) :=
  spC_cong p_numbered_line.eq ▸ fn_mk F sc_numbered_line rfl (by decide) fun cdv A outer s H E hr => d_numbered_line h  (gd_of sc_numbered_line.nd hr)
def b_text_by : Rf.Env → Fl := (seqB (sSet 4 (liftL (nd gLstD [(eBm isStr fJoin (eC (.str " ")) (fun env => mkL ((eLstS [(false, (eC (.str "rights"))), (true, (eVar 0))]) env)))])))
  (seqB (sMut 4 (lift (fun env => mkL ((eComp true [5, 6] (fun env => itIt (eVar 1 env)) (gT 2 (gsC (gN 5) (gsC (gN 6) gsN))) (Tst.f Tst.no) (eBm isStr fJoin (eC (.str " ")) (fun env => mkL ((eLstS [(false, (eC (.str "role"))), (false, (eVar 5)), (true, (eVar 6))]) env)))) env))) fExt)
  (seqB (sMut 4 (lift (fun env => mkL ((eComp true [7] (fun env => itA ((eVar 2) env)) (gN 7) (Tst.f Tst.no) (eBm isStr fJoin (eC (.str " ")) (fun env => mkL ((eLstS [(false, (eC (.str "above"))), (true, (eVar 7))]) env)))) env))) fExt)
  (seqB (sMut 4 (lift (fun env => mkL ((eComp true [8] (fun env => itA ((nd (g2 fIx) [(eVar 3), (eC (.int 0))]) env)) (gN 8) (Tst.f Tst.no) (nd (gCall 2 [] c_numbered_line) [(eC (.str "duty")), (eVar 8)])) env))) fExt)
  (seqB (sMut 4 (lift (fun env => mkL ((eComp true [9] (fun env => itA ((nd (g2 fIx) [(eVar 3), (eC (.int 1))]) env)) (gN 9) (Tst.f Tst.no) (nd (gCall 2 [] c_numbered_line) [(eC (.str "rule")), (eVar 9)])) env))) fExt)
  (sRet (lift (fun env => keepI ((eBm isStr fJoin (eC (.str "\n")) (eVar 4)) env)))))))))
def c0_text_by : List D → C := runB 10 4 [] b_text_by
def p_text_by : Pe4 c0_text_by where
  f := _
  ok := fun a b d e => by
    simp only [c0_text_by, b_text_by, runB, env0, outs, w_ret, w_nil, w_bad, w_seq, w_ifL, w_if, w_setL, w_setLL, w_dropL, w_retL, w_retLL, w_nd0, w_nd1, w_nd2, w_nd3, g1, g2, eVar, eC, eComp, compF_gN, compF_gT, Tst.f, wipeE, mkL, O.bind, bAnd, bOr, bNot, vAnd, vOr, vNot, vIf, eChain, eSl, eSlL, oNone, oSome, eTupS, eLstS, seqSt, eBm, eMeth, gMeth, ePrp, gCall, keepI, noX, seqF, List.length_cons, List.length_nil, List.map_cons, List.map_nil, List.cons_append, List.nil_append, List.set_cons_zero, List.set_cons_succ, List.getElem?_cons_zero, List.getElem?_cons_succ, List.replicate_succ, List.replicate_zero, Nat.reduceAdd, Nat.reduceSub, Bool.true_or, Bool.false_or, Bool.true_and]
    rfl
def c_text_by : List D → C := p_text_by.c
abbrev N_text_by : List Str := ["rights", "roles", "above", "pairs", "lines", "name", "lot", "names", "duty", "rule"]
theorem sc_text_by : FnScope N_text_by ["rights", "roles", "above", "pairs"] (defScope (top 68)) := ⟨rfl, rfl, rfl, by decide +kernel, rfl, by decide +kernel, by decide +kernel⟩
theorem d_text_by {cdv : Value} {A : Around} {outer : List PySem.Env} {s : Shared} {H : Hp} {E : XK} {k : Nat} (h : Fc K mg) (k_numbered_line : Cal P w K mg base (k + 1) "numbered_line" 2 [] false [] c_numbered_line) (gd : Gd (cxOf (L2.CX P w) P w K mg base N_text_by "text_by" (defScope (top 68)) f cdv A outer s H E) (fun c d _ H => E c d H) (k + 1)) :
    SSs (cxOf (L2.CX P w) P w K mg base N_text_by "text_by" (defScope (top 68)) f cdv A outer s H E) ⟨[4], [], false⟩ (fun c d _ H => E c d H) (defBody (top 68)) b_text_by :=
  (ss_cons (s_setO rfl rfl (asgO gd.nd rfl (by first | exact .inl rfl | exact .inr rfl) (SPL.so (b := true) (spl_lst (SPs.cons (sp_join (sp_gstr rfl h.g_BLANK) (SPL.sp (spl_lstS (SSt.pl (sp_gstr rfl h.g_RIGHTS) rfl (SSt.st (sp_v rfl rfl (by first | exact .inl rfl | exact .inr (.inl rfl) | exact .inr (.inr rfl))) SSt.nil))))) SPs.nil)))))
  (ss_cons (s_extend rfl rfl (by first | exact .inl rfl | exact .inr (.inl rfl) | exact .inr (.inr rfl)) (SP.se (SPL.sp (spl_compItems (i := 1) (own := [("name", 5), ("lot", 6)]) (T := Tst.no) gd rfl rfl (by first | exact .inl rfl | exact .inr (.inl rfl) | exact .inr (.inr rfl)) (blkOk_by (N := N_text_by) (sc := (defScope (top 68))) (own := [("name", 5), ("lot", 6)]) (by decide +kernel)) (fun _ _ _ _ _ => (sg_tup (sgs_cons (sg_name rfl rfl gd.blk.nd rfl (by first | exact .inl rfl | exact .inr rfl)) (sgs_cons (sg_name rfl rfl gd.blk.nd rfl (by first | exact .inl rfl | exact .inr rfl)) sgs_nil)) fun t h => pg_tup gd.blk.calm h)) (fun _ _ _ _ _ => trivial) (fun _ _ _ _ _ => (sp_join (sp_gstr rfl h.g_BLANK) (SPL.sp (spl_lstS (SSt.pl (sp_gstr rfl h.g_ROLE) rfl (SSt.pl (sp_v rfl rfl (by first | exact .inl rfl | exact .inr (.inl rfl) | exact .inr (.inr rfl))) rfl (SSt.st (sp_v rfl rfl (by first | exact .inl rfl | exact .inr (.inl rfl) | exact .inr (.inr rfl))) SSt.nil)))))))))))
  (ss_cons (s_extend rfl rfl (by first | exact .inl rfl | exact .inr (.inl rfl) | exact .inr (.inr rfl)) (SP.se (SPL.sp (spl_comp (own := [("names", 7)]) (T := Tst.no) gd ⟨(si_any (sp_v rfl rfl (by first | exact .inl rfl | exact .inr (.inl rfl) | exact .inr (.inr rfl)))), (blkOk_by (N := N_text_by) (sc := (defScope (top 68))) (own := [("names", 7)]) (by decide +kernel)), fun _ _ _ _ _ => (sg_name rfl rfl gd.blk.nd rfl (by first | exact .inl rfl | exact .inr rfl)), fun _ _ _ _ _ => trivial, fun _ _ _ _ _ => (sp_join (sp_gstr rfl h.g_BLANK) (SPL.sp (spl_lstS (SSt.pl (sp_gstr rfl h.g_ABOVE) rfl (SSt.st (sp_v rfl rfl (by first | exact .inl rfl | exact .inr (.inl rfl) | exact .inr (.inr rfl))) SSt.nil)))))⟩))))
  (ss_cons (s_extend rfl rfl (by first | exact .inl rfl | exact .inr (.inl rfl) | exact .inr (.inr rfl)) (SP.se (SPL.sp (spl_comp (own := [("duty", 8)]) (T := Tst.no) gd ⟨(si_any (sp_ix (sp_v rfl rfl (by first | exact .inl rfl | exact .inr (.inl rfl) | exact .inr (.inr rfl))) sp_int)), (blkOk_by (N := N_text_by) (sc := (defScope (top 68))) (own := [("duty", 8)]) (by decide +kernel)), fun _ _ _ _ _ => (sg_name rfl rfl gd.blk.nd rfl (by first | exact .inl rfl | exact .inr rfl)), fun _ _ _ _ _ => trivial, fun _ _ _ _ _ => (sp_call gd.blk k_numbered_line rfl (SPs.cons (sp_gstr rfl h.g_DUTY) (SPs.cons (sp_v rfl rfl (by first | exact .inl rfl | exact .inr (.inl rfl) | exact .inr (.inr rfl))) SPs.nil)))⟩))))
  (ss_cons (s_extend rfl rfl (by first | exact .inl rfl | exact .inr (.inl rfl) | exact .inr (.inr rfl)) (SP.se (SPL.sp (spl_comp (own := [("rule", 9)]) (T := Tst.no) gd ⟨(si_any (sp_ix (sp_v rfl rfl (by first | exact .inl rfl | exact .inr (.inl rfl) | exact .inr (.inr rfl))) sp_int)), (blkOk_by (N := N_text_by) (sc := (defScope (top 68))) (own := [("rule", 9)]) (by decide +kernel)), fun _ _ _ _ _ => (sg_name rfl rfl gd.blk.nd rfl (by first | exact .inl rfl | exact .inr rfl)), fun _ _ _ _ _ => trivial, fun _ _ _ _ _ => (sp_call gd.blk k_numbered_line rfl (SPs.cons (sp_gstr rfl h.g_RULE) (SPs.cons (sp_v rfl rfl (by first | exact .inl rfl | exact .inr (.inl rfl) | exact .inr (.inr rfl))) SPs.nil)))⟩))))
  (ss_one (s_ret rfl (SP.se (SP.kept (sp_join (sp_gstr rfl h.g_FEED) (sp_own rfl rfl (by first | exact .inl rfl | exact .inr (.inl rfl) | exact .inr (.inr rfl)))))))))))))
theorem f_text_by {k : Nat} (h : Fc K mg) (k_numbered_line : Cal P w K mg base (k + 1) "numbered_line" 2 [] false [] c_numbered_line) (F : FunD K "text_by" "text_by" (defArgs (top 68)) (defBody (top 68)) (defScope (top 68)) [] [] f fd) : FnOk P w K mg base (L2.CX P w) (k + 2) f fd ["rights", "roles", "above", "pairs"] (spC K 4 [] false c_text_by) :=
  spC_cong p_text_by.eq ▸ fn_mk F sc_text_by rfl (by decide) fun cdv A outer s H E hr => d_text_by h k_numbered_line (gd_of sc_text_by.nd hr)
def b_Book___init__ : Rf.Env → Fl := (seqB (sFldD "Book" "own_reading" 0 (lift (nd (gCall 1 [] c_read) [(eVar 1)])))
  (sFldD "Book" "own_text" 0 (fun env => ownI ((lift (eVar 1)) env))))
def c_Book___init__ : List D → C := runB 2 2 [0] b_Book___init__
abbrev N_Book___init__ : List Str := ["self", "text"]
theorem sc_Book___init__ : FnScope N_Book___init__ ["self", "text"] (defScope (inCls 70 0)) := ⟨rfl, rfl, rfl, by decide +kernel, rfl, by decide +kernel, by decide +kernel⟩
theorem d_Book___init__ {cdv : Value} {A : Around} {outer : List PySem.Env} {s : Shared} {H : Hp} {E : XK} {k : Nat} (h : Fc K mg) (k_read : Cal P w K mg base (k + 1) "read" 1 [] true [] c_read) (gd : Gd (cxOf (L2.CX P w) P w K mg base N_Book___init__ "Book.__init__" (defScope (inCls 70 0)) f cdv A outer s H E) (fun c d _ H => E c d H) (k + 1)) :
    SSs (cxOf (L2.CX P w) P w K mg base N_Book___init__ "Book.__init__" (defScope (inCls 70 0)) f cdv A outer s H E) ⟨[0], [0], false⟩ (fun c d _ H => E c d H) (defBody (inCls 70 0)) b_Book___init__ :=
  (ss_cons (s_fld h.cl_Book h.na_Book_own_reading rfl rfl (by first | exact .inl rfl | exact .inr (.inl rfl) | exact .inr (.inr rfl)) (SPN.so (spn_call gd k_read rfl (SPs.cons (sp_v rfl rfl (by first | exact .inl rfl | exact .inr (.inl rfl) | exact .inr (.inr rfl))) SPs.nil))))
  (ss_one (s_fld h.cl_Book h.na_Book_own_text rfl rfl (by first | exact .inl rfl | exact .inr (.inl rfl) | exact .inr (.inr rfl)) (SE.so (SP.se (sp_v rfl rfl (by first | exact .inl rfl | exact .inr (.inl rfl) | exact .inr (.inr rfl))))))))
theorem f_Book___init__ {k : Nat} (h : Fc K mg) (k_read : Cal P w K mg base (k + 1) "read" 1 [] true [] c_read) (F : FunD K "__init__" "Book.__init__" (defArgs (inCls 70 0)) (defBody (inCls 70 0)) (defScope (inCls 70 0)) [] [] f fd) : FnOk P w K mg base (L2.CX P w) (k + 2) f fd ["self", "text"] (spC K 2 [0] false c_Book___init__) :=
  fn_mk F sc_Book___init__ rfl (by decide) fun cdv A outer s H E hr => d_Book___init__ h k_read (gd_of sc_Book___init__.nd hr)
def b_Book_text : Rf.Env → Fl := (sRet (lift (nd (g1 (fFld "Book" "own_text")) [(eVar 0)])))
def c0_Book_text : List D → C := runB 1 1 [] b_Book_text
def p_Book_text : Pe1 c0_Book_text where
  f := _
  ok := fun a => by
    simp only [c0_Book_text, b_Book_text, runB, env0, outs, w_ret, w_nil, w_bad, w_seq, w_ifL, w_if, w_setL, w_setLL, w_dropL, w_retL, w_retLL, w_nd0, w_nd1, w_nd2, w_nd3, g1, g2, eVar, eC, eComp, compF_gN, compF_gT, Tst.f, wipeE, mkL, O.bind, bAnd, bOr, bNot, vAnd, vOr, vNot, vIf, eChain, eSl, eSlL, oNone, oSome, eTupS, eLstS, seqSt, eBm, eMeth, gMeth, ePrp, gCall, keepI, noX, seqF, List.length_cons, List.length_nil, List.map_cons, List.map_nil, List.cons_append, List.nil_append, List.set_cons_zero, List.set_cons_succ, List.getElem?_cons_zero, List.getElem?_cons_succ, List.replicate_succ, List.replicate_zero, Nat.reduceAdd, Nat.reduceSub, Bool.true_or, Bool.false_or, Bool.true_and]
    rfl
def c_Book_text : List D → C := p_Book_text.c
abbrev N_Book_text : List Str := ["self"]
theorem sc_Book_text : FnScope N_Book_text ["self"] (defScope (inCls 70 1)) := ⟨rfl, rfl, rfl, by decide +kernel, rfl, by decide +kernel, by decide +kernel⟩
theorem d_Book_text {cdv : Value} {A : Around} {outer : List PySem.Env} {s : Shared} {H : Hp} {E : XK} {k : Nat} (h : Fc K mg)  (gd : Gd (cxOf (L2.CX P w) P w K mg base N_Book_text "Book.text" (defScope (inCls 70 1)) f cdv A outer s H E) (fun c d _ H => E c d H) (k + 1)) :
    SSs (cxOf (L2.CX P w) P w K mg base N_Book_text "Book.text" (defScope (inCls 70 1)) f cdv A outer s H E) ⟨[], [], false⟩ (fun c d _ H => E c d H) (defBody (inCls 70 1)) b_Book_text :=
  (ss_one (s_ret rfl (SP.se (sp_fld h.cl_Book h.na_Book_own_text (sp_v rfl rfl (by first | exact .inl rfl | exact .inr (.inl rfl) | exact .inr (.inr rfl)))))))
theorem f_Book_text {k : Nat} (h : Fc K mg)  (F : FunD K "text" "Book.text" (defArgs (inCls 70 1)) (defBody (inCls 70 1)) (defScope (inCls 70 1)) [] [] f fd) : FnOk P w K mg base (L2.CX P w) (k + 2) f fd ["self"] (spC K 1 [] false c_Book_text) :=
  spC_cong p_Book_text.eq ▸ fn_mk F sc_Book_text rfl (by decide) fun cdv A outer s H E hr => d_Book_text h  (gd_of sc_Book_text.nd hr)
def b_Book_rights : Rf.Env → Fl := (sRet (lift (nd (g1 (fFld "Reading" "told_rights")) [(nd (g1 (fFld "Book" "own_reading")) [(eVar 0)])])))
def c0_Book_rights : List D → C := runB 1 1 [] b_Book_rights
def p_Book_rights : Pe1 c0_Book_rights where
  f := _
  ok := fun a => by
    simp only [c0_Book_rights, b_Book_rights, runB, env0, outs, w_ret, w_nil, w_bad, w_seq, w_ifL, w_if, w_setL, w_setLL, w_dropL, w_retL, w_retLL, w_nd0, w_nd1, w_nd2, w_nd3, g1, g2, eVar, eC, eComp, compF_gN, compF_gT, Tst.f, wipeE, mkL, O.bind, bAnd, bOr, bNot, vAnd, vOr, vNot, vIf, eChain, eSl, eSlL, oNone, oSome, eTupS, eLstS, seqSt, eBm, eMeth, gMeth, ePrp, gCall, keepI, noX, seqF, List.length_cons, List.length_nil, List.map_cons, List.map_nil, List.cons_append, List.nil_append, List.set_cons_zero, List.set_cons_succ, List.getElem?_cons_zero, List.getElem?_cons_succ, List.replicate_succ, List.replicate_zero, Nat.reduceAdd, Nat.reduceSub, Bool.true_or, Bool.false_or, Bool.true_and]
    rfl
def c_Book_rights : List D → C := p_Book_rights.c
abbrev N_Book_rights : List Str := ["self"]
theorem sc_Book_rights : FnScope N_Book_rights ["self"] (defScope (inCls 70 2)) := ⟨rfl, rfl, rfl, by decide +kernel, rfl, by decide +kernel, by decide +kernel⟩
theorem d_Book_rights {cdv : Value} {A : Around} {outer : List PySem.Env} {s : Shared} {H : Hp} {E : XK} {k : Nat} (h : Fc K mg)  (gd : Gd (cxOf (L2.CX P w) P w K mg base N_Book_rights "Book.rights" (defScope (inCls 70 2)) f cdv A outer s H E) (fun c d _ H => E c d H) (k + 1)) :
    SSs (cxOf (L2.CX P w) P w K mg base N_Book_rights "Book.rights" (defScope (inCls 70 2)) f cdv A outer s H E) ⟨[], [], false⟩ (fun c d _ H => E c d H) (defBody (inCls 70 2)) b_Book_rights :=
  (ss_one (s_ret rfl (SP.se (sp_fld h.cl_Reading h.na_Reading_told_rights (sp_fld h.cl_Book h.na_Book_own_reading (sp_v rfl rfl (by first | exact .inl rfl | exact .inr (.inl rfl) | exact .inr (.inr rfl))))))))
theorem f_Book_rights {k : Nat} (h : Fc K mg)  (F : FunD K "rights" "Book.rights" (defArgs (inCls 70 2)) (defBody (inCls 70 2)) (defScope (inCls 70 2)) [] [] f fd) : FnOk P w K mg base (L2.CX P w) (k + 2) f fd ["self"] (spC K 1 [] false c_Book_rights) :=
  spC_cong p_Book_rights.eq ▸ fn_mk F sc_Book_rights rfl (by decide) fun cdv A outer s H E hr => d_Book_rights h  (gd_of sc_Book_rights.nd hr)
def b_Book_roles : Rf.Env → Fl := (sRet (lift (fun env => ((nd (g1 (fFld "Reading" "told_roles")) [(nd (g1 (fFld "Book" "own_reading")) [(eVar 0)])]) env).bind fKeys)))
def c0_Book_roles : List D → C := runB 1 1 [] b_Book_roles
def p_Book_roles : Pe1 c0_Book_roles where
  f := _
  ok := fun a => by
    simp only [c0_Book_roles, b_Book_roles, runB, env0, outs, w_ret, w_nil, w_bad, w_seq, w_ifL, w_if, w_setL, w_setLL, w_dropL, w_retL, w_retLL, w_nd0, w_nd1, w_nd2, w_nd3, g1, g2, eVar, eC, eComp, compF_gN, compF_gT, Tst.f, wipeE, mkL, O.bind, bAnd, bOr, bNot, vAnd, vOr, vNot, vIf, eChain, eSl, eSlL, oNone, oSome, eTupS, eLstS, seqSt, eBm, eMeth, gMeth, ePrp, gCall, keepI, noX, seqF, List.length_cons, List.length_nil, List.map_cons, List.map_nil, List.cons_append, List.nil_append, List.set_cons_zero, List.set_cons_succ, List.getElem?_cons_zero, List.getElem?_cons_succ, List.replicate_succ, List.replicate_zero, Nat.reduceAdd, Nat.reduceSub, Bool.true_or, Bool.false_or, Bool.true_and]
    rfl
def c_Book_roles : List D → C := p_Book_roles.c
abbrev N_Book_roles : List Str := ["self"]
theorem sc_Book_roles : FnScope N_Book_roles ["self"] (defScope (inCls 70 3)) := ⟨rfl, rfl, rfl, by decide +kernel, rfl, by decide +kernel, by decide +kernel⟩
theorem d_Book_roles {cdv : Value} {A : Around} {outer : List PySem.Env} {s : Shared} {H : Hp} {E : XK} {k : Nat} (h : Fc K mg)  (gd : Gd (cxOf (L2.CX P w) P w K mg base N_Book_roles "Book.roles" (defScope (inCls 70 3)) f cdv A outer s H E) (fun c d _ H => E c d H) (k + 1)) :
    SSs (cxOf (L2.CX P w) P w K mg base N_Book_roles "Book.roles" (defScope (inCls 70 3)) f cdv A outer s H E) ⟨[], [], false⟩ (fun c d _ H => E c d H) (defBody (inCls 70 3)) b_Book_roles :=
  (ss_one (s_ret rfl (SP.se (sp_tupKeys gd (sp_fld h.cl_Reading h.na_Reading_told_roles (sp_fld h.cl_Book h.na_Book_own_reading (sp_v rfl rfl (by first | exact .inl rfl | exact .inr (.inl rfl) | exact .inr (.inr rfl))))) rfl h.n_tuple))))
theorem f_Book_roles {k : Nat} (h : Fc K mg)  (F : FunD K "roles" "Book.roles" (defArgs (inCls 70 3)) (defBody (inCls 70 3)) (defScope (inCls 70 3)) [] [] f fd) : FnOk P w K mg base (L2.CX P w) (k + 2) f fd ["self"] (spC K 1 [] false c_Book_roles) :=
  spC_cong p_Book_roles.eq ▸ fn_mk F sc_Book_roles rfl (by decide) fun cdv A outer s H E hr => d_Book_roles h  (gd_of sc_Book_roles.nd hr)
def b_Book_duties : Rf.Env → Fl := (sRet (lift (nd (g1 fTuple) [(nd (g1 (fFld "Reading" "told_duties")) [(nd (g1 (fFld "Book" "own_reading")) [(eVar 0)])])])))
def c0_Book_duties : List D → C := runB 1 1 [] b_Book_duties
def p_Book_duties : Pe1 c0_Book_duties where
  f := _
  ok := fun a => by
    simp only [c0_Book_duties, b_Book_duties, runB, env0, outs, w_ret, w_nil, w_bad, w_seq, w_ifL, w_if, w_setL, w_setLL, w_dropL, w_retL, w_retLL, w_nd0, w_nd1, w_nd2, w_nd3, g1, g2, eVar, eC, eComp, compF_gN, compF_gT, Tst.f, wipeE, mkL, O.bind, bAnd, bOr, bNot, vAnd, vOr, vNot, vIf, eChain, eSl, eSlL, oNone, oSome, eTupS, eLstS, seqSt, eBm, eMeth, gMeth, ePrp, gCall, keepI, noX, seqF, List.length_cons, List.length_nil, List.map_cons, List.map_nil, List.cons_append, List.nil_append, List.set_cons_zero, List.set_cons_succ, List.getElem?_cons_zero, List.getElem?_cons_succ, List.replicate_succ, List.replicate_zero, Nat.reduceAdd, Nat.reduceSub, Bool.true_or, Bool.false_or, Bool.true_and]
    rfl
def c_Book_duties : List D → C := p_Book_duties.c
abbrev N_Book_duties : List Str := ["self"]
theorem sc_Book_duties : FnScope N_Book_duties ["self"] (defScope (inCls 70 4)) := ⟨rfl, rfl, rfl, by decide +kernel, rfl, by decide +kernel, by decide +kernel⟩
theorem d_Book_duties {cdv : Value} {A : Around} {outer : List PySem.Env} {s : Shared} {H : Hp} {E : XK} {k : Nat} (h : Fc K mg)  (gd : Gd (cxOf (L2.CX P w) P w K mg base N_Book_duties "Book.duties" (defScope (inCls 70 4)) f cdv A outer s H E) (fun c d _ H => E c d H) (k + 1)) :
    SSs (cxOf (L2.CX P w) P w K mg base N_Book_duties "Book.duties" (defScope (inCls 70 4)) f cdv A outer s H E) ⟨[], [], false⟩ (fun c d _ H => E c d H) (defBody (inCls 70 4)) b_Book_duties :=
  (ss_one (s_ret rfl (SP.se (sp_t1 call_tuple_of vc_tuple rfl h.n_tuple boot_tuple (sp_fld h.cl_Reading h.na_Reading_told_duties (sp_fld h.cl_Book h.na_Book_own_reading (sp_v rfl rfl (by first | exact .inl rfl | exact .inr (.inl rfl) | exact .inr (.inr rfl)))))))))
theorem f_Book_duties {k : Nat} (h : Fc K mg)  (F : FunD K "duties" "Book.duties" (defArgs (inCls 70 4)) (defBody (inCls 70 4)) (defScope (inCls 70 4)) [] [] f fd) : FnOk P w K mg base (L2.CX P w) (k + 2) f fd ["self"] (spC K 1 [] false c_Book_duties) :=
  spC_cong p_Book_duties.eq ▸ fn_mk F sc_Book_duties rfl (by decide) fun cdv A outer s H E hr => d_Book_duties h  (gd_of sc_Book_duties.nd hr)
def b_Book_rules : Rf.Env → Fl := (sRet (lift (nd (g1 fTuple) [(nd (g1 (fFld "Reading" "told_rules")) [(nd (g1 (fFld "Book" "own_reading")) [(eVar 0)])])])))
def c0_Book_rules : List D → C := runB 1 1 [] b_Book_rules
def p_Book_rules : Pe1 c0_Book_rules where
  f := _
  ok := fun a => by
    simp only [c0_Book_rules, b_Book_rules, runB, env0, outs, w_ret, w_nil, w_bad, w_seq, w_ifL, w_if, w_setL, w_setLL, w_dropL, w_retL, w_retLL, w_nd0, w_nd1, w_nd2, w_nd3, g1, g2, eVar, eC, eComp, compF_gN, compF_gT, Tst.f, wipeE, mkL, O.bind, bAnd, bOr, bNot, vAnd, vOr, vNot, vIf, eChain, eSl, eSlL, oNone, oSome, eTupS, eLstS, seqSt, eBm, eMeth, gMeth, ePrp, gCall, keepI, noX, seqF, List.length_cons, List.length_nil, List.map_cons, List.map_nil, List.cons_append, List.nil_append, List.set_cons_zero, List.set_cons_succ, List.getElem?_cons_zero, List.getElem?_cons_succ, List.replicate_succ, List.replicate_zero, Nat.reduceAdd, Nat.reduceSub, Bool.true_or, Bool.false_or, Bool.true_and]
    rfl
def c_Book_rules : List D → C := p_Book_rules.c
abbrev N_Book_rules : List Str := ["self"]
theorem sc_Book_rules : FnScope N_Book_rules ["self"] (defScope (inCls 70 5)) := ⟨rfl, rfl, rfl, by decide +kernel, rfl, by decide +kernel, by decide +kernel⟩
theorem d_Book_rules {cdv : Value} {A : Around} {outer : List PySem.Env} {s : Shared} {H : Hp} {E : XK} {k : Nat} (h : Fc K mg)  (gd : Gd (cxOf (L2.CX P w) P w K mg base N_Book_rules "Book.rules" (defScope (inCls 70 5)) f cdv A outer s H E) (fun c d _ H => E c d H) (k + 1)) :
    SSs (cxOf (L2.CX P w) P w K mg base N_Book_rules "Book.rules" (defScope (inCls 70 5)) f cdv A outer s H E) ⟨[], [], false⟩ (fun c d _ H => E c d H) (defBody (inCls 70 5)) b_Book_rules :=
  (ss_one (s_ret rfl (SP.se (sp_t1 call_tuple_of vc_tuple rfl h.n_tuple boot_tuple (sp_fld h.cl_Reading h.na_Reading_told_rules (sp_fld h.cl_Book h.na_Book_own_reading (sp_v rfl rfl (by first | exact .inl rfl | exact .inr (.inl rfl) | exact .inr (.inr rfl)))))))))
theorem f_Book_rules {k : Nat} (h : Fc K mg)  (F : FunD K "rules" "Book.rules" (defArgs (inCls 70 5)) (defBody (inCls 70 5)) (defScope (inCls 70 5)) [] [] f fd) : FnOk P w K mg base (L2.CX P w) (k + 2) f fd ["self"] (spC K 1 [] false c_Book_rules) :=
  spC_cong p_Book_rules.eq ▸ fn_mk F sc_Book_rules rfl (by decide) fun cdv A outer s H E hr => d_Book_rules h  (gd_of sc_Book_rules.nd hr)
def b_Book___contains__ : Rf.Env → Fl := (sRet (lift (nd (gCall 2 [] c_is_word) [(eVar 1), (ePrp "Book" "roles" c_Book_roles (eVar 0))])))
def c0_Book___contains__ : List D → C := runB 2 2 [] b_Book___contains__
def p_Book___contains__ : Pe2 c0_Book___contains__ where
  f := _
  ok := fun a b => by
    simp only [c0_Book___contains__, b_Book___contains__, runB, env0, outs, w_ret, w_nil, w_bad, w_seq, w_ifL, w_if, w_setL, w_setLL, w_dropL, w_retL, w_retLL, w_nd0, w_nd1, w_nd2, w_nd3, g1, g2, eVar, eC, eComp, compF_gN, compF_gT, Tst.f, wipeE, mkL, O.bind, bAnd, bOr, bNot, vAnd, vOr, vNot, vIf, eChain, eSl, eSlL, oNone, oSome, eTupS, eLstS, seqSt, eBm, eMeth, gMeth, ePrp, gCall, keepI, noX, seqF, List.length_cons, List.length_nil, List.map_cons, List.map_nil, List.cons_append, List.nil_append, List.set_cons_zero, List.set_cons_succ, List.getElem?_cons_zero, List.getElem?_cons_succ, List.replicate_succ, List.replicate_zero, Nat.reduceAdd, Nat.reduceSub, Bool.true_or, Bool.false_or, Bool.true_and]
    rfl
def c_Book___contains__ : List D → C := p_Book___contains__.c
abbrev N_Book___contains__ : List Str := ["self", "value"]
theorem sc_Book___contains__ : FnScope N_Book___contains__ ["self", "value"] (defScope (inCls 70 7)) := ⟨rfl, rfl, rfl, by decide +kernel, rfl, by decide +kernel, by decide +kernel⟩
theorem d_Book___contains__ {cdv : Value} {A : Around} {outer : List PySem.Env} {s : Shared} {H : Hp} {E : XK} {k : Nat} (h : Fc K mg) (k_is_word : Cal P w K mg base (k + 1) "is_word" 2 [] false [] c_is_word) (k_Book_roles : Prp P w K mg base k "Book" "roles" false c_Book_roles) (gd : Gd (cxOf (L2.CX P w) P w K mg base N_Book___contains__ "Book.__contains__" (defScope (inCls 70 7)) f cdv A outer s H E) (fun c d _ H => E c d H) (k + 1)) :
    SSs (cxOf (L2.CX P w) P w K mg base N_Book___contains__ "Book.__contains__" (defScope (inCls 70 7)) f cdv A outer s H E) ⟨[], [], false⟩ (fun c d _ H => E c d H) (defBody (inCls 70 7)) b_Book___contains__ :=
  (ss_one (s_ret rfl (SP.se (sp_call gd k_is_word rfl (SPs.cons (sp_v rfl rfl (by first | exact .inl rfl | exact .inr (.inl rfl) | exact .inr (.inr rfl))) (SPs.cons (sp_prop gd k_Book_roles (sp_v rfl rfl (by first | exact .inl rfl | exact .inr (.inl rfl) | exact .inr (.inr rfl)))) SPs.nil))))))
theorem f_Book___contains__ {k : Nat} (h : Fc K mg) (k_is_word : Cal P w K mg base (k + 1) "is_word" 2 [] false [] c_is_word) (k_Book_roles : Prp P w K mg base k "Book" "roles" false c_Book_roles) (F : FunD K "__contains__" "Book.__contains__" (defArgs (inCls 70 7)) (defBody (inCls 70 7)) (defScope (inCls 70 7)) [] [] f fd) : FnOk P w K mg base (L2.CX P w) (k + 2) f fd ["self", "value"] (spC K 2 [] false c_Book___contains__) :=
  spC_cong p_Book___contains__.eq ▸ fn_mk F sc_Book___contains__ rfl (by decide) fun cdv A outer s H E hr => d_Book___contains__ h k_is_word k_Book_roles (gd_of sc_Book___contains__.nd hr)
def b_Book___eq__ : Rf.Env → Fl := (sRet (lift (vAnd (nd (g1 (fIsiC "Book")) [(eVar 1)]) (nd (g2 (fEq false)) [(ePrp "Book" "text" c_Book_text (eVar 0)), (ePrp "Book" "text" c_Book_text (eVar 1))]))))
def c0_Book___eq__ : List D → C := runB 2 2 [] b_Book___eq__
def p_Book___eq__ : Pe2 c0_Book___eq__ where
  f := _
  ok := fun a b => by
    simp only [c0_Book___eq__, b_Book___eq__, runB, env0, outs, w_ret, w_nil, w_bad, w_seq, w_ifL, w_if, w_setL, w_setLL, w_dropL, w_retL, w_retLL, w_nd0, w_nd1, w_nd2, w_nd3, g1, g2, eVar, eC, eComp, compF_gN, compF_gT, Tst.f, wipeE, mkL, O.bind, bAnd, bOr, bNot, vAnd, vOr, vNot, vIf, eChain, eSl, eSlL, oNone, oSome, eTupS, eLstS, seqSt, eBm, eMeth, gMeth, ePrp, gCall, keepI, noX, seqF, List.length_cons, List.length_nil, List.map_cons, List.map_nil, List.cons_append, List.nil_append, List.set_cons_zero, List.set_cons_succ, List.getElem?_cons_zero, List.getElem?_cons_succ, List.replicate_succ, List.replicate_zero, Nat.reduceAdd, Nat.reduceSub, Bool.true_or, Bool.false_or, Bool.true_and]
    rfl
def c_Book___eq__ : List D → C := p_Book___eq__.c
abbrev N_Book___eq__ : List Str := ["self", "other"]
theorem sc_Book___eq__ : FnScope N_Book___eq__ ["self", "other"] (defScope (inCls 70 8)) := ⟨rfl, rfl, rfl, by decide +kernel, rfl, by decide +kernel, by decide +kernel⟩
theorem d_Book___eq__ {cdv : Value} {A : Around} {outer : List PySem.Env} {s : Shared} {H : Hp} {E : XK} {k : Nat} (h : Fc K mg) (k_Book_text : Prp P w K mg base k "Book" "text" false c_Book_text) (gd : Gd (cxOf (L2.CX P w) P w K mg base N_Book___eq__ "Book.__eq__" (defScope (inCls 70 8)) f cdv A outer s H E) (fun c d _ H => E c d H) (k + 1)) :
    SSs (cxOf (L2.CX P w) P w K mg base N_Book___eq__ "Book.__eq__" (defScope (inCls 70 8)) f cdv A outer s H E) ⟨[], [], false⟩ (fun c d _ H => E c d H) (defBody (inCls 70 8)) b_Book___eq__ :=
  (ss_one (s_ret rfl (SP.se (sp_and (sp_isiC h.ty_Book rfl h.n_isinstance rfl h.g_Book (sp_v rfl rfl (by first | exact .inl rfl | exact .inr (.inl rfl) | exact .inr (.inr rfl)))) (sp_one (sp_cmp (op_eqD gd.hu64) v2_eq (sp_prop gd k_Book_text (sp_v rfl rfl (by first | exact .inl rfl | exact .inr (.inl rfl) | exact .inr (.inr rfl)))) (sp_prop gd k_Book_text (sp_v rfl rfl (by first | exact .inl rfl | exact .inr (.inl rfl) | exact .inr (.inr rfl))))))))))
theorem f_Book___eq__ {k : Nat} (h : Fc K mg) (k_Book_text : Prp P w K mg base k "Book" "text" false c_Book_text) (F : FunD K "__eq__" "Book.__eq__" (defArgs (inCls 70 8)) (defBody (inCls 70 8)) (defScope (inCls 70 8)) [] [] f fd) : FnOk P w K mg base (L2.CX P w) (k + 2) f fd ["self", "other"] (spC K 2 [] false c_Book___eq__) :=
  spC_cong p_Book___eq__.eq ▸ fn_mk F sc_Book___eq__ rfl (by decide) fun cdv A outer s H E hr => d_Book___eq__ h k_Book_text (gd_of sc_Book___eq__.nd hr)
def b_Book_check_role : Rf.Env → Fl := (sIf (liftB (fun env => asB ((nd (g2 (fInOwn "Book" true c_Book___contains__)) [(eVar 1), (eVar 0)]) env))) sBad sNil)
def c0_Book_check_role : List D → C := runB 2 2 [] b_Book_check_role
def p_Book_check_role : Pe2 c0_Book_check_role where
  f := _
  ok := fun a b => by
    simp only [c0_Book_check_role, b_Book_check_role, runB, env0, outs, w_ret, w_nil, w_bad, w_seq, w_ifL, w_if, w_setL, w_setLL, w_dropL, w_retL, w_retLL, w_nd0, w_nd1, w_nd2, w_nd3, g1, g2, eVar, eC, eComp, compF_gN, compF_gT, Tst.f, wipeE, mkL, O.bind, bAnd, bOr, bNot, vAnd, vOr, vNot, vIf, eChain, eSl, eSlL, oNone, oSome, eTupS, eLstS, seqSt, eBm, eMeth, gMeth, ePrp, gCall, keepI, noX, seqF, List.length_cons, List.length_nil, List.map_cons, List.map_nil, List.cons_append, List.nil_append, List.set_cons_zero, List.set_cons_succ, List.getElem?_cons_zero, List.getElem?_cons_succ, List.replicate_succ, List.replicate_zero, Nat.reduceAdd, Nat.reduceSub, Bool.true_or, Bool.false_or, Bool.true_and]
    rfl
def c_Book_check_role : List D → C := p_Book_check_role.c
abbrev N_Book_check_role : List Str := ["self", "role"]
theorem sc_Book_check_role : FnScope N_Book_check_role ["self", "role"] (defScope (inCls 70 9)) := ⟨rfl, rfl, rfl, by decide +kernel, rfl, by decide +kernel, by decide +kernel⟩
theorem d_Book_check_role {cdv : Value} {A : Around} {outer : List PySem.Env} {s : Shared} {H : Hp} {E : XK} {k : Nat} (h : Fc K mg) (c_Book_contains : Spl P w K mg base (k + 1) "Book" "__contains__" false c_Book___contains__) (gd : Gd (cxOf (L2.CX P w) P w K mg base N_Book_check_role "Book.check_role" (defScope (inCls 70 9)) f cdv A outer s H E) (fun c d _ H => E c d H) (k + 1)) :
    SSs (cxOf (L2.CX P w) P w K mg base N_Book_check_role "Book.check_role" (defScope (inCls 70 9)) f cdv A outer s H E) ⟨[], [], false⟩ (fun c d _ H => E c d H) (defBody (inCls 70 9)) b_Book_check_role :=
  (ss_one (s_if (STp.ste (st_cmp (op_notInOwn gd.room (c_Book_contains)) (v2_inOwn true) (sp_v rfl rfl (by first | exact .inl rfl | exact .inr (.inl rfl) | exact .inr (.inr rfl))) (sp_v rfl rfl (by first | exact .inl rfl | exact .inr (.inl rfl) | exact .inr (.inr rfl))))) (ss_one s_bad) ss_nil))
theorem f_Book_check_role {k : Nat} (h : Fc K mg) (c_Book_contains : Spl P w K mg base (k + 1) "Book" "__contains__" false c_Book___contains__) (F : FunD K "check_role" "Book.check_role" (defArgs (inCls 70 9)) (defBody (inCls 70 9)) (defScope (inCls 70 9)) [] [] f fd) : FnOk P w K mg base (L2.CX P w) (k + 2) f fd ["self", "role"] (spC K 2 [] false c_Book_check_role) :=
  spC_cong p_Book_check_role.eq ▸ fn_mk F sc_Book_check_role rfl (by decide) fun cdv A outer s H E hr => d_Book_check_role h c_Book_contains (gd_of sc_Book_check_role.nd hr)
def b_Book_gives : Rf.Env → Fl := (seqB (sDrop (lift (eMeth "Book" "check_role" 2 [] c_Book_check_role (eVar 0) [(eVar 1)])))
  (sRet (lift (nd (g2 fDget) [(nd (g1 (fFld "Reading" "told_roles")) [(nd (g1 (fFld "Book" "own_reading")) [(eVar 0)])]), (eVar 1)]))))
def c0_Book_gives : List D → C := runB 2 2 [] b_Book_gives
def p_Book_gives : Pe2 c0_Book_gives where
  f := _
  ok := fun a b => by
    simp only [c0_Book_gives, b_Book_gives, runB, env0, outs, w_ret, w_nil, w_bad, w_seq, w_ifL, w_if, w_setL, w_setLL, w_dropL, w_retL, w_retLL, w_nd0, w_nd1, w_nd2, w_nd3, g1, g2, eVar, eC, eComp, compF_gN, compF_gT, Tst.f, wipeE, mkL, O.bind, bAnd, bOr, bNot, vAnd, vOr, vNot, vIf, eChain, eSl, eSlL, oNone, oSome, eTupS, eLstS, seqSt, eBm, eMeth, gMeth, ePrp, gCall, keepI, noX, seqF, List.length_cons, List.length_nil, List.map_cons, List.map_nil, List.cons_append, List.nil_append, List.set_cons_zero, List.set_cons_succ, List.getElem?_cons_zero, List.getElem?_cons_succ, List.replicate_succ, List.replicate_zero, Nat.reduceAdd, Nat.reduceSub, Bool.true_or, Bool.false_or, Bool.true_and]
    rfl
def c_Book_gives : List D → C := p_Book_gives.c
abbrev N_Book_gives : List Str := ["self", "role"]
theorem sc_Book_gives : FnScope N_Book_gives ["self", "role"] (defScope (inCls 70 10)) := ⟨rfl, rfl, rfl, by decide +kernel, rfl, by decide +kernel, by decide +kernel⟩
theorem d_Book_gives {cdv : Value} {A : Around} {outer : List PySem.Env} {s : Shared} {H : Hp} {E : XK} {k : Nat} (h : Fc K mg) (k_Book_check_role : Mth P w K mg base (k + 1) "Book" "check_role" 2 [] false [] c_Book_check_role) (gd : Gd (cxOf (L2.CX P w) P w K mg base N_Book_gives "Book.gives" (defScope (inCls 70 10)) f cdv A outer s H E) (fun c d _ H => E c d H) (k + 1)) :
    SSs (cxOf (L2.CX P w) P w K mg base N_Book_gives "Book.gives" (defScope (inCls 70 10)) f cdv A outer s H E) ⟨[], [], false⟩ (fun c d _ H => E c d H) (defBody (inCls 70 10)) b_Book_gives :=
  (ss_cons (s_expr (SP.se (sp_meth (pl := _) gd flatE k_Book_check_role (sp_v rfl rfl (by first | exact .inl rfl | exact .inr (.inl rfl) | exact .inr (.inr rfl))) (SPs.cons (sp_v rfl rfl (by first | exact .inl rfl | exact .inr (.inl rfl) | exact .inr (.inr rfl))) SPs.nil))))
  (ss_one (s_ret rfl (SP.se (sp_dget gd (sp_fld h.cl_Reading h.na_Reading_told_roles (sp_fld h.cl_Book h.na_Book_own_reading (sp_v rfl rfl (by first | exact .inl rfl | exact .inr (.inl rfl) | exact .inr (.inr rfl))))) (sp_v rfl rfl (by first | exact .inl rfl | exact .inr (.inl rfl) | exact .inr (.inr rfl))))))))
theorem f_Book_gives {k : Nat} (h : Fc K mg) (k_Book_check_role : Mth P w K mg base (k + 1) "Book" "check_role" 2 [] false [] c_Book_check_role) (F : FunD K "gives" "Book.gives" (defArgs (inCls 70 10)) (defBody (inCls 70 10)) (defScope (inCls 70 10)) [] [] f fd) : FnOk P w K mg base (L2.CX P w) (k + 2) f fd ["self", "role"] (spC K 2 [] false c_Book_gives) :=
  spC_cong p_Book_gives.eq ▸ fn_mk F sc_Book_gives rfl (by decide) fun cdv A outer s H E hr => d_Book_gives h k_Book_check_role (gd_of sc_Book_gives.nd hr)
def b_Book_below : Rf.Env → Fl := (seqB (sDrop (lift (eMeth "Book" "check_role" 2 [] c_Book_check_role (eVar 0) [(eVar 1)])))
  (sRet (lift (nd (gCall 2 [] c_lot_of) [(ePrp "Book" "roles" c_Book_roles (eVar 0)), (nd (gCall 2 [] c_below_of) [(nd (g1 (fFld "Reading" "told_above")) [(nd (g1 (fFld "Book" "own_reading")) [(eVar 0)])]), (eVar 1)])]))))
def c0_Book_below : List D → C := runB 2 2 [] b_Book_below
def p_Book_below : Pe2 c0_Book_below where
  f := _
  ok := fun a b => by
    simp only [c0_Book_below, b_Book_below, runB, env0, outs, w_ret, w_nil, w_bad, w_seq, w_ifL, w_if, w_setL, w_setLL, w_dropL, w_retL, w_retLL, w_nd0, w_nd1, w_nd2, w_nd3, g1, g2, eVar, eC, eComp, compF_gN, compF_gT, Tst.f, wipeE, mkL, O.bind, bAnd, bOr, bNot, vAnd, vOr, vNot, vIf, eChain, eSl, eSlL, oNone, oSome, eTupS, eLstS, seqSt, eBm, eMeth, gMeth, ePrp, gCall, keepI, noX, seqF, List.length_cons, List.length_nil, List.map_cons, List.map_nil, List.cons_append, List.nil_append, List.set_cons_zero, List.set_cons_succ, List.getElem?_cons_zero, List.getElem?_cons_succ, List.replicate_succ, List.replicate_zero, Nat.reduceAdd, Nat.reduceSub, Bool.true_or, Bool.false_or, Bool.true_and]
    rfl
def c_Book_below : List D → C := p_Book_below.c
abbrev N_Book_below : List Str := ["self", "role"]
theorem sc_Book_below : FnScope N_Book_below ["self", "role"] (defScope (inCls 70 11)) := ⟨rfl, rfl, rfl, by decide +kernel, rfl, by decide +kernel, by decide +kernel⟩
theorem d_Book_below {cdv : Value} {A : Around} {outer : List PySem.Env} {s : Shared} {H : Hp} {E : XK} {k : Nat} (h : Fc K mg) (k_Book_check_role : Mth P w K mg base (k + 1) "Book" "check_role" 2 [] false [] c_Book_check_role) (k_lot_of : Cal P w K mg base (k + 1) "lot_of" 2 [] false [] c_lot_of) (k_Book_roles : Prp P w K mg base k "Book" "roles" false c_Book_roles) (k_below_of : Cal P w K mg base (k + 1) "below_of" 2 [] false [] c_below_of) (gd : Gd (cxOf (L2.CX P w) P w K mg base N_Book_below "Book.below" (defScope (inCls 70 11)) f cdv A outer s H E) (fun c d _ H => E c d H) (k + 1)) :
    SSs (cxOf (L2.CX P w) P w K mg base N_Book_below "Book.below" (defScope (inCls 70 11)) f cdv A outer s H E) ⟨[], [], false⟩ (fun c d _ H => E c d H) (defBody (inCls 70 11)) b_Book_below :=
  (ss_cons (s_expr (SP.se (sp_meth (pl := _) gd flatE k_Book_check_role (sp_v rfl rfl (by first | exact .inl rfl | exact .inr (.inl rfl) | exact .inr (.inr rfl))) (SPs.cons (sp_v rfl rfl (by first | exact .inl rfl | exact .inr (.inl rfl) | exact .inr (.inr rfl))) SPs.nil))))
  (ss_one (s_ret rfl (SP.se (sp_call gd k_lot_of rfl (SPs.cons (sp_prop gd k_Book_roles (sp_v rfl rfl (by first | exact .inl rfl | exact .inr (.inl rfl) | exact .inr (.inr rfl)))) (SPs.cons (sp_call gd k_below_of rfl (SPs.cons (sp_fld h.cl_Reading h.na_Reading_told_above (sp_fld h.cl_Book h.na_Book_own_reading (sp_v rfl rfl (by first | exact .inl rfl | exact .inr (.inl rfl) | exact .inr (.inr rfl))))) (SPs.cons (sp_v rfl rfl (by first | exact .inl rfl | exact .inr (.inl rfl) | exact .inr (.inr rfl))) SPs.nil))) SPs.nil)))))))
theorem f_Book_below {k : Nat} (h : Fc K mg) (k_Book_check_role : Mth P w K mg base (k + 1) "Book" "check_role" 2 [] false [] c_Book_check_role) (k_lot_of : Cal P w K mg base (k + 1) "lot_of" 2 [] false [] c_lot_of) (k_Book_roles : Prp P w K mg base k "Book" "roles" false c_Book_roles) (k_below_of : Cal P w K mg base (k + 1) "below_of" 2 [] false [] c_below_of) (F : FunD K "below" "Book.below" (defArgs (inCls 70 11)) (defBody (inCls 70 11)) (defScope (inCls 70 11)) [] [] f fd) : FnOk P w K mg base (L2.CX P w) (k + 2) f fd ["self", "role"] (spC K 2 [] false c_Book_below) :=
  spC_cong p_Book_below.eq ▸ fn_mk F sc_Book_below rfl (by decide) fun cdv A outer s H E hr => d_Book_below h k_Book_check_role k_lot_of k_Book_roles k_below_of (gd_of sc_Book_below.nd hr)
def b_Book_changed : Rf.Env → Fl := (seqB (sSet 3 (lift (nd (g1 (fFld "Book" "own_reading")) [(eVar 0)])))
  (sRet (lift (nd (gMkO "Book" 2 c_Book___init__) [(nd (gCall 4 [] c_text_by) [(ePrp "Book" "rights" c_Book_rights (eVar 0)), (eVar 1), (nd (g1 (fFld "Reading" "told_above")) [(eVar 3)]), (nd gTupD [(ePrp "Book" "duties" c_Book_duties (eVar 0)), (eVar 2)])])]))))
def c0_Book_changed : List D → C := runB 4 3 [] b_Book_changed
def p_Book_changed : Pe3 c0_Book_changed where
  f := _
  ok := fun a b d => by
    simp only [c0_Book_changed, b_Book_changed, runB, env0, outs, w_ret, w_nil, w_bad, w_seq, w_ifL, w_if, w_setL, w_setLL, w_dropL, w_retL, w_retLL, w_nd0, w_nd1, w_nd2, w_nd3, g1, g2, eVar, eC, eComp, compF_gN, compF_gT, Tst.f, wipeE, mkL, O.bind, bAnd, bOr, bNot, vAnd, vOr, vNot, vIf, eChain, eSl, eSlL, oNone, oSome, eTupS, eLstS, seqSt, eBm, eMeth, gMeth, ePrp, gCall, keepI, noX, seqF, List.length_cons, List.length_nil, List.map_cons, List.map_nil, List.cons_append, List.nil_append, List.set_cons_zero, List.set_cons_succ, List.getElem?_cons_zero, List.getElem?_cons_succ, List.replicate_succ, List.replicate_zero, Nat.reduceAdd, Nat.reduceSub, Bool.true_or, Bool.false_or, Bool.true_and]
    rfl
def c_Book_changed : List D → C := p_Book_changed.c
abbrev N_Book_changed : List Str := ["self", "roles", "rules", "reading"]
theorem sc_Book_changed : FnScope N_Book_changed ["self", "roles", "rules"] (defScope (inCls 70 12)) := ⟨rfl, rfl, rfl, by decide +kernel, rfl, by decide +kernel, by decide +kernel⟩
theorem d_Book_changed {cdv : Value} {A : Around} {outer : List PySem.Env} {s : Shared} {H : Hp} {E : XK} {k : Nat} (h : Fc K mg) (k_Book : Mkr P w K mg base k "Book" 2 c_Book___init__) (k_text_by : Cal P w K mg base (k + 1) "text_by" 4 [] false [] c_text_by) (k_Book_rights : Prp P w K mg base k "Book" "rights" false c_Book_rights) (k_Book_duties : Prp P w K mg base k "Book" "duties" false c_Book_duties) (gd : Gd (cxOf (L2.CX P w) P w K mg base N_Book_changed "Book.changed" (defScope (inCls 70 12)) f cdv A outer s H E) (fun c d _ H => E c d H) (k + 1)) :
    SSs (cxOf (L2.CX P w) P w K mg base N_Book_changed "Book.changed" (defScope (inCls 70 12)) f cdv A outer s H E) ⟨[], [], false⟩ (fun c d _ H => E c d H) (defBody (inCls 70 12)) b_Book_changed :=
  (ss_cons (s_set rfl rfl (asgE gd.nd rfl (by first | exact .inl rfl | exact .inr rfl) (SP.se (sp_fld h.cl_Book h.na_Book_own_reading (sp_v rfl rfl (by first | exact .inl rfl | exact .inr (.inl rfl) | exact .inr (.inr rfl)))))))
  (ss_one (s_ret rfl (SP.se (sp_make gd flatE k_Book rfl (SPs.cons (sp_call gd k_text_by rfl (SPs.cons (sp_prop gd k_Book_rights (sp_v rfl rfl (by first | exact .inl rfl | exact .inr (.inl rfl) | exact .inr (.inr rfl)))) (SPs.cons (sp_v rfl rfl (by first | exact .inl rfl | exact .inr (.inl rfl) | exact .inr (.inr rfl))) (SPs.cons (sp_fld h.cl_Reading h.na_Reading_told_above (sp_v rfl rfl (by first | exact .inl rfl | exact .inr (.inl rfl) | exact .inr (.inr rfl)))) (SPs.cons (sp_tup (SPs.cons (sp_prop gd k_Book_duties (sp_v rfl rfl (by first | exact .inl rfl | exact .inr (.inl rfl) | exact .inr (.inr rfl)))) (SPs.cons (sp_v rfl rfl (by first | exact .inl rfl | exact .inr (.inl rfl) | exact .inr (.inr rfl))) SPs.nil))) SPs.nil))))) SPs.nil))))))
theorem f_Book_changed {k : Nat} (h : Fc K mg) (k_Book : Mkr P w K mg base k "Book" 2 c_Book___init__) (k_text_by : Cal P w K mg base (k + 1) "text_by" 4 [] false [] c_text_by) (k_Book_rights : Prp P w K mg base k "Book" "rights" false c_Book_rights) (k_Book_duties : Prp P w K mg base k "Book" "duties" false c_Book_duties) (F : FunD K "changed" "Book.changed" (defArgs (inCls 70 12)) (defBody (inCls 70 12)) (defScope (inCls 70 12)) [] [] f fd) : FnOk P w K mg base (L2.CX P w) (k + 2) f fd ["self", "roles", "rules"] (spC K 3 [] false c_Book_changed) :=
  spC_cong p_Book_changed.eq ▸ fn_mk F sc_Book_changed rfl (by decide) fun cdv A outer s H E hr => d_Book_changed h k_Book k_text_by k_Book_rights k_Book_duties (gd_of sc_Book_changed.nd hr)
def b_Book_is_rule : Rf.Env → Fl := (sRet (lift (vAnd (nd (gCall 2 [] c_is_lot) [(ePrp "Book" "roles" c_Book_roles (eVar 0)), (eVar 2)]) (nd (gCall 3 [] c_is_integer) [(eVar 1), (eC (.int 1)), (nd (g1 fLenX) [(eVar 2)])]))))
def c0_Book_is_rule : List D → C := runB 3 3 [] b_Book_is_rule
def p_Book_is_rule : Pe3 c0_Book_is_rule where
  f := _
  ok := fun a b d => by
    simp only [c0_Book_is_rule, b_Book_is_rule, runB, env0, outs, w_ret, w_nil, w_bad, w_seq, w_ifL, w_if, w_setL, w_setLL, w_dropL, w_retL, w_retLL, w_nd0, w_nd1, w_nd2, w_nd3, g1, g2, eVar, eC, eComp, compF_gN, compF_gT, Tst.f, wipeE, mkL, O.bind, bAnd, bOr, bNot, vAnd, vOr, vNot, vIf, eChain, eSl, eSlL, oNone, oSome, eTupS, eLstS, seqSt, eBm, eMeth, gMeth, ePrp, gCall, keepI, noX, seqF, List.length_cons, List.length_nil, List.map_cons, List.map_nil, List.cons_append, List.nil_append, List.set_cons_zero, List.set_cons_succ, List.getElem?_cons_zero, List.getElem?_cons_succ, List.replicate_succ, List.replicate_zero, Nat.reduceAdd, Nat.reduceSub, Bool.true_or, Bool.false_or, Bool.true_and]
    rfl
def c_Book_is_rule : List D → C := p_Book_is_rule.c
abbrev N_Book_is_rule : List Str := ["self", "number", "roles"]
theorem sc_Book_is_rule : FnScope N_Book_is_rule ["self", "number", "roles"] (defScope (inCls 70 13)) := ⟨rfl, rfl, rfl, by decide +kernel, rfl, by decide +kernel, by decide +kernel⟩
theorem d_Book_is_rule {cdv : Value} {A : Around} {outer : List PySem.Env} {s : Shared} {H : Hp} {E : XK} {k : Nat} (h : Fc K mg) (k_is_integer : Cal P w K mg base (k + 1) "is_integer" 3 [] false [] c_is_integer) (k_is_lot : Cal P w K mg base (k + 1) "is_lot" 2 [] false [] c_is_lot) (k_Book_roles : Prp P w K mg base k "Book" "roles" false c_Book_roles) (gd : Gd (cxOf (L2.CX P w) P w K mg base N_Book_is_rule "Book.is_rule" (defScope (inCls 70 13)) f cdv A outer s H E) (fun c d _ H => E c d H) (k + 1)) :
    SSs (cxOf (L2.CX P w) P w K mg base N_Book_is_rule "Book.is_rule" (defScope (inCls 70 13)) f cdv A outer s H E) ⟨[], [], false⟩ (fun c d _ H => E c d H) (defBody (inCls 70 13)) b_Book_is_rule :=
  (ss_one (s_ret rfl (SP.se (sp_and (sp_call gd k_is_lot rfl (SPs.cons (sp_prop gd k_Book_roles (sp_v rfl rfl (by first | exact .inl rfl | exact .inr (.inl rfl) | exact .inr (.inr rfl)))) (SPs.cons (sp_v rfl rfl (by first | exact .inl rfl | exact .inr (.inl rfl) | exact .inr (.inr rfl))) SPs.nil))) (sp_one (sp_call gd k_is_integer rfl (SPs.cons (sp_v rfl rfl (by first | exact .inl rfl | exact .inr (.inl rfl) | exact .inr (.inr rfl))) (SPs.cons sp_int (SPs.cons (sp_b1 call_lenX vc_lenX rfl h.n_len boot_len (sp_v rfl rfl (by first | exact .inl rfl | exact .inr (.inl rfl) | exact .inr (.inr rfl)))) SPs.nil)))))))))
theorem f_Book_is_rule {k : Nat} (h : Fc K mg) (k_is_integer : Cal P w K mg base (k + 1) "is_integer" 3 [] false [] c_is_integer) (k_is_lot : Cal P w K mg base (k + 1) "is_lot" 2 [] false [] c_is_lot) (k_Book_roles : Prp P w K mg base k "Book" "roles" false c_Book_roles) (F : FunD K "is_rule" "Book.is_rule" (defArgs (inCls 70 13)) (defBody (inCls 70 13)) (defScope (inCls 70 13)) [] [] f fd) : FnOk P w K mg base (L2.CX P w) (k + 2) f fd ["self", "number", "roles"] (spC K 3 [] false c_Book_is_rule) :=
  spC_cong p_Book_is_rule.eq ▸ fn_mk F sc_Book_is_rule rfl (by decide) fun cdv A outer s H E hr => d_Book_is_rule h k_is_integer k_is_lot k_Book_roles (gd_of sc_Book_is_rule.nd hr)
def b_Book_with_rule : Rf.Env → Fl := (seqB (sIf (liftB (bOr (bNot (fun env => asB ((eMeth "Book" "is_rule" 3 [] c_Book_is_rule (eVar 0) [(eVar 1), (eVar 2)]) env))) (fun env => asB ((nd (g2 (fIn false)) [(nd gTupD [(eVar 1), (eVar 2)]), (ePrp "Book" "rules" c_Book_rules (eVar 0))]) env)))) sBad sNil)
  (seqB (sIf (liftB (fun env => asB ((nd (g2 (fEq false)) [(nd (g1 fLenX) [(ePrp "Book" "rules" c_Book_rules (eVar 0))]), (eC (.int 8))]) env))) sBad sNil)
  (sRet (lift (eMeth "Book" "changed" 3 [] c_Book_changed (eVar 0) [(nd (g1 (fFld "Reading" "told_roles")) [(nd (g1 (fFld "Book" "own_reading")) [(eVar 0)])]), (fun env => mkL ((eLstS [(true, (ePrp "Book" "rules" c_Book_rules (eVar 0))), (false, (nd gTupD [(eVar 1), (eVar 2)]))]) env))])))))
def c0_Book_with_rule : List D → C := runB 3 3 [] b_Book_with_rule
def p_Book_with_rule : Pe3 c0_Book_with_rule where
  f := _
  ok := fun a b d => by
    simp only [c0_Book_with_rule, b_Book_with_rule, runB, env0, outs, w_ret, w_nil, w_bad, w_seq, w_ifL, w_if, w_setL, w_setLL, w_dropL, w_retL, w_retLL, w_nd0, w_nd1, w_nd2, w_nd3, g1, g2, eVar, eC, eComp, compF_gN, compF_gT, Tst.f, wipeE, mkL, O.bind, bAnd, bOr, bNot, vAnd, vOr, vNot, vIf, eChain, eSl, eSlL, oNone, oSome, eTupS, eLstS, seqSt, eBm, eMeth, gMeth, ePrp, gCall, keepI, noX, seqF, List.length_cons, List.length_nil, List.map_cons, List.map_nil, List.cons_append, List.nil_append, List.set_cons_zero, List.set_cons_succ, List.getElem?_cons_zero, List.getElem?_cons_succ, List.replicate_succ, List.replicate_zero, Nat.reduceAdd, Nat.reduceSub, Bool.true_or, Bool.false_or, Bool.true_and]
    rfl
def c_Book_with_rule : List D → C := p_Book_with_rule.c
abbrev N_Book_with_rule : List Str := ["self", "number", "roles"]
theorem sc_Book_with_rule : FnScope N_Book_with_rule ["self", "number", "roles"] (defScope (inCls 70 14)) := ⟨rfl, rfl, rfl, by decide +kernel, rfl, by decide +kernel, by decide +kernel⟩
theorem d_Book_with_rule {cdv : Value} {A : Around} {outer : List PySem.Env} {s : Shared} {H : Hp} {E : XK} {k : Nat} (h : Fc K mg) (k_Book_rules : Prp P w K mg base k "Book" "rules" false c_Book_rules) (k_Book_is_rule : Mth P w K mg base (k + 1) "Book" "is_rule" 3 [] false [] c_Book_is_rule) (k_Book_changed : Mth P w K mg base (k + 1) "Book" "changed" 3 [] false [] c_Book_changed) (gd : Gd (cxOf (L2.CX P w) P w K mg base N_Book_with_rule "Book.with_rule" (defScope (inCls 70 14)) f cdv A outer s H E) (fun c d _ H => E c d H) (k + 1)) :
    SSs (cxOf (L2.CX P w) P w K mg base N_Book_with_rule "Book.with_rule" (defScope (inCls 70 14)) f cdv A outer s H E) ⟨[], [], false⟩ (fun c d _ H => E c d H) (defBody (inCls 70 14)) b_Book_with_rule :=
  (ss_cons (s_if (STp.ste (SW.st (sw_or (st_not (st_val (sp_meth (pl := _) gd flatE k_Book_is_rule (sp_v rfl rfl (by first | exact .inl rfl | exact .inr (.inl rfl) | exact .inr (.inr rfl))) (SPs.cons (sp_v rfl rfl (by first | exact .inl rfl | exact .inr (.inl rfl) | exact .inr (.inr rfl))) (SPs.cons (sp_v rfl rfl (by first | exact .inl rfl | exact .inr (.inl rfl) | exact .inr (.inr rfl))) SPs.nil))))) (sw_or1 (st_cmp (op_inAll gd.hu) (v2_in false) (sp_tup (SPs.cons (sp_v rfl rfl (by first | exact .inl rfl | exact .inr (.inl rfl) | exact .inr (.inr rfl))) (SPs.cons (sp_v rfl rfl (by first | exact .inl rfl | exact .inr (.inl rfl) | exact .inr (.inr rfl))) SPs.nil))) (sp_prop gd k_Book_rules (sp_v rfl rfl (by first | exact .inl rfl | exact .inr (.inl rfl) | exact .inr (.inr rfl))))))))) (ss_one s_bad) ss_nil)
  (ss_cons (s_if (STp.ste (st_cmp (op_eqD gd.hu64) v2_eq (sp_b1 call_lenX vc_lenX rfl h.n_len boot_len (sp_prop gd k_Book_rules (sp_v rfl rfl (by first | exact .inl rfl | exact .inr (.inl rfl) | exact .inr (.inr rfl))))) (sp_gint rfl h.g_MOST_RULES))) (ss_one s_bad) ss_nil)
  (ss_one (s_ret rfl (SP.se (sp_meth (pl := _) gd flatE k_Book_changed (sp_v rfl rfl (by first | exact .inl rfl | exact .inr (.inl rfl) | exact .inr (.inr rfl))) (SPs.cons (sp_fld h.cl_Reading h.na_Reading_told_roles (sp_fld h.cl_Book h.na_Book_own_reading (sp_v rfl rfl (by first | exact .inl rfl | exact .inr (.inl rfl) | exact .inr (.inr rfl))))) (SPs.cons (SPL.sp (spl_lstS (SSt.st (sp_prop gd k_Book_rules (sp_v rfl rfl (by first | exact .inl rfl | exact .inr (.inl rfl) | exact .inr (.inr rfl)))) (SSt.pl (sp_tup (SPs.cons (sp_v rfl rfl (by first | exact .inl rfl | exact .inr (.inl rfl) | exact .inr (.inr rfl))) (SPs.cons (sp_v rfl rfl (by first | exact .inl rfl | exact .inr (.inl rfl) | exact .inr (.inr rfl))) SPs.nil))) rfl SSt.nil)))) SPs.nil))))))))
theorem f_Book_with_rule {k : Nat} (h : Fc K mg) (k_Book_rules : Prp P w K mg base k "Book" "rules" false c_Book_rules) (k_Book_is_rule : Mth P w K mg base (k + 1) "Book" "is_rule" 3 [] false [] c_Book_is_rule) (k_Book_changed : Mth P w K mg base (k + 1) "Book" "changed" 3 [] false [] c_Book_changed) (F : FunD K "with_rule" "Book.with_rule" (defArgs (inCls 70 14)) (defBody (inCls 70 14)) (defScope (inCls 70 14)) [] [] f fd) : FnOk P w K mg base (L2.CX P w) (k + 2) f fd ["self", "number", "roles"] (spC K 3 [] false c_Book_with_rule) :=
  spC_cong p_Book_with_rule.eq ▸ fn_mk F sc_Book_with_rule rfl (by decide) fun cdv A outer s H E hr => d_Book_with_rule h k_Book_rules k_Book_is_rule k_Book_changed (gd_of sc_Book_with_rule.nd hr)
def b_Book_without_rule : Rf.Env → Fl := (seqB (sIf (liftB (bNot (fun env => asB ((nd (gCall 3 [] c_is_integer) [(eVar 1), (eC (.int 0)), (nd (g2 fSub) [(nd (g1 fLenX) [(ePrp "Book" "rules" c_Book_rules (eVar 0))]), (eC (.int 1))])]) env)))) sBad sNil)
  (sRet (lift (eMeth "Book" "changed" 3 [] c_Book_changed (eVar 0) [(nd (g1 (fFld "Reading" "told_roles")) [(nd (g1 (fFld "Book" "own_reading")) [(eVar 0)])]), (fun env => mkL ((eLstS [(true, (eSl (ePrp "Book" "rules" c_Book_rules (eVar 0)) oNone (oSome (eVar 1)))), (true, (eSl (ePrp "Book" "rules" c_Book_rules (eVar 0)) (oSome (nd (g2 fAdd) [(eVar 1), (eC (.int 1))])) oNone))]) env))]))))
def c0_Book_without_rule : List D → C := runB 2 2 [] b_Book_without_rule
def p_Book_without_rule : Pe2 c0_Book_without_rule where
  f := _
  ok := fun a b => by
    simp only [c0_Book_without_rule, b_Book_without_rule, runB, env0, outs, w_ret, w_nil, w_bad, w_seq, w_ifL, w_if, w_setL, w_setLL, w_dropL, w_retL, w_retLL, w_nd0, w_nd1, w_nd2, w_nd3, g1, g2, eVar, eC, eComp, compF_gN, compF_gT, Tst.f, wipeE, mkL, O.bind, bAnd, bOr, bNot, vAnd, vOr, vNot, vIf, eChain, eSl, eSlL, oNone, oSome, eTupS, eLstS, seqSt, eBm, eMeth, gMeth, ePrp, gCall, keepI, noX, seqF, List.length_cons, List.length_nil, List.map_cons, List.map_nil, List.cons_append, List.nil_append, List.set_cons_zero, List.set_cons_succ, List.getElem?_cons_zero, List.getElem?_cons_succ, List.replicate_succ, List.replicate_zero, Nat.reduceAdd, Nat.reduceSub, Bool.true_or, Bool.false_or, Bool.true_and]
    rfl
def c_Book_without_rule : List D → C := p_Book_without_rule.c
abbrev N_Book_without_rule : List Str := ["self", "number"]
theorem sc_Book_without_rule : FnScope N_Book_without_rule ["self", "number"] (defScope (inCls 70 15)) := ⟨rfl, rfl, rfl, by decide +kernel, rfl, by decide +kernel, by decide +kernel⟩
theorem d_Book_without_rule {cdv : Value} {A : Around} {outer : List PySem.Env} {s : Shared} {H : Hp} {E : XK} {k : Nat} (h : Fc K mg) (k_is_integer : Cal P w K mg base (k + 1) "is_integer" 3 [] false [] c_is_integer) (k_Book_rules : Prp P w K mg base k "Book" "rules" false c_Book_rules) (k_Book_changed : Mth P w K mg base (k + 1) "Book" "changed" 3 [] false [] c_Book_changed) (gd : Gd (cxOf (L2.CX P w) P w K mg base N_Book_without_rule "Book.without_rule" (defScope (inCls 70 15)) f cdv A outer s H E) (fun c d _ H => E c d H) (k + 1)) :
    SSs (cxOf (L2.CX P w) P w K mg base N_Book_without_rule "Book.without_rule" (defScope (inCls 70 15)) f cdv A outer s H E) ⟨[], [], false⟩ (fun c d _ H => E c d H) (defBody (inCls 70 15)) b_Book_without_rule :=
  (ss_cons (s_if (STp.ste (st_not (st_val (sp_call gd k_is_integer rfl (SPs.cons (sp_v rfl rfl (by first | exact .inl rfl | exact .inr (.inl rfl) | exact .inr (.inr rfl))) (SPs.cons sp_int (SPs.cons (sp_op op_sub v2_sub (sp_b1 call_lenX vc_lenX rfl h.n_len boot_len (sp_prop gd k_Book_rules (sp_v rfl rfl (by first | exact .inl rfl | exact .inr (.inl rfl) | exact .inr (.inr rfl))))) sp_int) SPs.nil))))))) (ss_one s_bad) ss_nil)
  (ss_one (s_ret rfl (SP.se (sp_meth (pl := _) gd flatE k_Book_changed (sp_v rfl rfl (by first | exact .inl rfl | exact .inr (.inl rfl) | exact .inr (.inr rfl))) (SPs.cons (sp_fld h.cl_Reading h.na_Reading_told_roles (sp_fld h.cl_Book h.na_Book_own_reading (sp_v rfl rfl (by first | exact .inl rfl | exact .inr (.inl rfl) | exact .inr (.inr rfl))))) (SPs.cons (SPL.sp (spl_lstS (SSt.st (sp_sl (sp_prop gd k_Book_rules (sp_v rfl rfl (by first | exact .inl rfl | exact .inr (.inl rfl) | exact .inr (.inr rfl)))) spo_none (spo_some (sp_v rfl rfl (by first | exact .inl rfl | exact .inr (.inl rfl) | exact .inr (.inr rfl))))) (SSt.st (sp_sl (sp_prop gd k_Book_rules (sp_v rfl rfl (by first | exact .inl rfl | exact .inr (.inl rfl) | exact .inr (.inr rfl)))) (spo_some (sp_op op_addAll v2_add (sp_v rfl rfl (by first | exact .inl rfl | exact .inr (.inl rfl) | exact .inr (.inr rfl))) sp_int)) spo_none) SSt.nil)))) SPs.nil)))))))
theorem f_Book_without_rule {k : Nat} (h : Fc K mg) (k_is_integer : Cal P w K mg base (k + 1) "is_integer" 3 [] false [] c_is_integer) (k_Book_rules : Prp P w K mg base k "Book" "rules" false c_Book_rules) (k_Book_changed : Mth P w K mg base (k + 1) "Book" "changed" 3 [] false [] c_Book_changed) (F : FunD K "without_rule" "Book.without_rule" (defArgs (inCls 70 15)) (defBody (inCls 70 15)) (defScope (inCls 70 15)) [] [] f fd) : FnOk P w K mg base (L2.CX P w) (k + 2) f fd ["self", "number"] (spC K 2 [] false c_Book_without_rule) :=
  spC_cong p_Book_without_rule.eq ▸ fn_mk F sc_Book_without_rule rfl (by decide) fun cdv A outer s H E hr => d_Book_without_rule h k_is_integer k_Book_rules k_Book_changed (gd_of sc_Book_without_rule.nd hr)
def b_Book_with_right : Rf.Env → Fl := (seqB (sSet 3 (lift (eMeth "Book" "gives" 2 [] c_Book_gives (eVar 0) [(eVar 1)])))
  (seqB (sIf (liftB (bOr (bNot (fun env => asB ((nd (gCall 2 [] c_is_word) [(eVar 2), (ePrp "Book" "rights" c_Book_rights (eVar 0))]) env))) (fun env => asB ((nd (g2 (fIn false)) [(eVar 2), (eVar 3)]) env)))) sBad sNil)
  (sRet (lift (eMeth "Book" "changed" 3 [] c_Book_changed (eVar 0) [(eDStar (nd (g1 (fFld "Reading" "told_roles")) [(nd (g1 (fFld "Book" "own_reading")) [(eVar 0)])]) (eVar 1) (nd (gCall 2 [] c_lot_of) [(ePrp "Book" "rights" c_Book_rights (eVar 0)), (eTupS [(true, (eVar 3)), (false, (eVar 2))])])), (ePrp "Book" "rules" c_Book_rules (eVar 0))])))))
def c0_Book_with_right : List D → C := runB 4 3 [] b_Book_with_right
def p_Book_with_right : Pe3 c0_Book_with_right where
  f := _
  ok := fun a b d => by
    simp only [c0_Book_with_right, b_Book_with_right, runB, env0, outs, w_ret, w_nil, w_bad, w_seq, w_ifL, w_if, w_setL, w_setLL, w_dropL, w_retL, w_retLL, w_nd0, w_nd1, w_nd2, w_nd3, g1, g2, eVar, eC, eComp, compF_gN, compF_gT, Tst.f, wipeE, mkL, O.bind, bAnd, bOr, bNot, vAnd, vOr, vNot, vIf, eChain, eSl, eSlL, oNone, oSome, eTupS, eLstS, seqSt, eBm, eMeth, gMeth, ePrp, gCall, keepI, noX, seqF, List.length_cons, List.length_nil, List.map_cons, List.map_nil, List.cons_append, List.nil_append, List.set_cons_zero, List.set_cons_succ, List.getElem?_cons_zero, List.getElem?_cons_succ, List.replicate_succ, List.replicate_zero, Nat.reduceAdd, Nat.reduceSub, Bool.true_or, Bool.false_or, Bool.true_and]
    rfl
def c_Book_with_right : List D → C := p_Book_with_right.c
abbrev N_Book_with_right : List Str := ["self", "role", "right", "lot"]
theorem sc_Book_with_right : FnScope N_Book_with_right ["self", "role", "right"] (defScope (inCls 70 16)) := ⟨rfl, rfl, rfl, by decide +kernel, rfl, by decide +kernel, by decide +kernel⟩
theorem d_Book_with_right {cdv : Value} {A : Around} {outer : List PySem.Env} {s : Shared} {H : Hp} {E : XK} {k : Nat} (h : Fc K mg) (k_Book_gives : Mth P w K mg base (k + 1) "Book" "gives" 2 [] false [] c_Book_gives) (k_is_word : Cal P w K mg base (k + 1) "is_word" 2 [] false [] c_is_word) (k_Book_rights : Prp P w K mg base k "Book" "rights" false c_Book_rights) (k_Book_changed : Mth P w K mg base (k + 1) "Book" "changed" 3 [] false [] c_Book_changed) (k_lot_of : Cal P w K mg base (k + 1) "lot_of" 2 [] false [] c_lot_of) (k_Book_rules : Prp P w K mg base k "Book" "rules" false c_Book_rules) (gd : Gd (cxOf (L2.CX P w) P w K mg base N_Book_with_right "Book.with_right" (defScope (inCls 70 16)) f cdv A outer s H E) (fun c d _ H => E c d H) (k + 1)) :
    SSs (cxOf (L2.CX P w) P w K mg base N_Book_with_right "Book.with_right" (defScope (inCls 70 16)) f cdv A outer s H E) ⟨[], [], false⟩ (fun c d _ H => E c d H) (defBody (inCls 70 16)) b_Book_with_right :=
  (ss_cons (s_set rfl rfl (asgE gd.nd rfl (by first | exact .inl rfl | exact .inr rfl) (SP.se (sp_meth (pl := _) gd flatE k_Book_gives (sp_v rfl rfl (by first | exact .inl rfl | exact .inr (.inl rfl) | exact .inr (.inr rfl))) (SPs.cons (sp_v rfl rfl (by first | exact .inl rfl | exact .inr (.inl rfl) | exact .inr (.inr rfl))) SPs.nil)))))
  (ss_cons (s_if (STp.ste (SW.st (sw_or (st_not (st_val (sp_call gd k_is_word rfl (SPs.cons (sp_v rfl rfl (by first | exact .inl rfl | exact .inr (.inl rfl) | exact .inr (.inr rfl))) (SPs.cons (sp_prop gd k_Book_rights (sp_v rfl rfl (by first | exact .inl rfl | exact .inr (.inl rfl) | exact .inr (.inr rfl)))) SPs.nil))))) (sw_or1 (st_cmp (op_inAll gd.hu) (v2_in false) (sp_v rfl rfl (by first | exact .inl rfl | exact .inr (.inl rfl) | exact .inr (.inr rfl))) (sp_v rfl rfl (by first | exact .inl rfl | exact .inr (.inl rfl) | exact .inr (.inr rfl)))))))) (ss_one s_bad) ss_nil)
  (ss_one (s_ret rfl (SP.se (sp_meth (pl := _) gd flatE k_Book_changed (sp_v rfl rfl (by first | exact .inl rfl | exact .inr (.inl rfl) | exact .inr (.inr rfl))) (SPs.cons (sp_dstar (sp_fld h.cl_Reading h.na_Reading_told_roles (sp_fld h.cl_Book h.na_Book_own_reading (sp_v rfl rfl (by first | exact .inl rfl | exact .inr (.inl rfl) | exact .inr (.inr rfl))))) (sp_v rfl rfl (by first | exact .inl rfl | exact .inr (.inl rfl) | exact .inr (.inr rfl))) (sp_call gd k_lot_of rfl (SPs.cons (sp_prop gd k_Book_rights (sp_v rfl rfl (by first | exact .inl rfl | exact .inr (.inl rfl) | exact .inr (.inr rfl)))) (SPs.cons (sp_tupS (SSt.st (sp_v rfl rfl (by first | exact .inl rfl | exact .inr (.inl rfl) | exact .inr (.inr rfl))) (SSt.pl (sp_v rfl rfl (by first | exact .inl rfl | exact .inr (.inl rfl) | exact .inr (.inr rfl))) rfl SSt.nil))) SPs.nil)))) (SPs.cons (sp_prop gd k_Book_rules (sp_v rfl rfl (by first | exact .inl rfl | exact .inr (.inl rfl) | exact .inr (.inr rfl)))) SPs.nil))))))))
theorem f_Book_with_right {k : Nat} (h : Fc K mg) (k_Book_gives : Mth P w K mg base (k + 1) "Book" "gives" 2 [] false [] c_Book_gives) (k_is_word : Cal P w K mg base (k + 1) "is_word" 2 [] false [] c_is_word) (k_Book_rights : Prp P w K mg base k "Book" "rights" false c_Book_rights) (k_Book_changed : Mth P w K mg base (k + 1) "Book" "changed" 3 [] false [] c_Book_changed) (k_lot_of : Cal P w K mg base (k + 1) "lot_of" 2 [] false [] c_lot_of) (k_Book_rules : Prp P w K mg base k "Book" "rules" false c_Book_rules) (F : FunD K "with_right" "Book.with_right" (defArgs (inCls 70 16)) (defBody (inCls 70 16)) (defScope (inCls 70 16)) [] [] f fd) : FnOk P w K mg base (L2.CX P w) (k + 2) f fd ["self", "role", "right"] (spC K 3 [] false c_Book_with_right) :=
  spC_cong p_Book_with_right.eq ▸ fn_mk F sc_Book_with_right rfl (by decide) fun cdv A outer s H E hr => d_Book_with_right h k_Book_gives k_is_word k_Book_rights k_Book_changed k_lot_of k_Book_rules (gd_of sc_Book_with_right.nd hr)
def b_Book_without_right : Rf.Env → Fl := (seqB (sSet 3 (lift (eMeth "Book" "gives" 2 [] c_Book_gives (eVar 0) [(eVar 1)])))
  (seqB (sIf (liftB (bNot (fun env => asB ((nd (gCall 2 [] c_is_word) [(eVar 2), (eVar 3)]) env)))) sBad sNil)
  (seqB (sSet 4 (lift (nd (g1 fTuple) [(fun env => mkL ((eComp true [5] (fun env => itA ((eVar 3) env)) (gN 5) (Tst.f (Tst.one (fun env => asB ((nd (g2 (fEq true)) [(eVar 5), (eVar 2)]) env)))) (eVar 5)) env))])))
  (sRet (lift (eMeth "Book" "changed" 3 [] c_Book_changed (eVar 0) [(eDStar (nd (g1 (fFld "Reading" "told_roles")) [(nd (g1 (fFld "Book" "own_reading")) [(eVar 0)])]) (eVar 1) (eVar 4)), (ePrp "Book" "rules" c_Book_rules (eVar 0))]))))))
def c0_Book_without_right : List D → C := runB 6 3 [] b_Book_without_right
def p_Book_without_right : Pe3 c0_Book_without_right where
  f := _
  ok := fun a b d => by
    simp only [c0_Book_without_right, b_Book_without_right, runB, env0, outs, w_ret, w_nil, w_bad, w_seq, w_ifL, w_if, w_setL, w_setLL, w_dropL, w_retL, w_retLL, w_nd0, w_nd1, w_nd2, w_nd3, g1, g2, eVar, eC, eComp, compF_gN, compF_gT, Tst.f, wipeE, mkL, O.bind, bAnd, bOr, bNot, vAnd, vOr, vNot, vIf, eChain, eSl, eSlL, oNone, oSome, eTupS, eLstS, seqSt, eBm, eMeth, gMeth, ePrp, gCall, keepI, noX, seqF, List.length_cons, List.length_nil, List.map_cons, List.map_nil, List.cons_append, List.nil_append, List.set_cons_zero, List.set_cons_succ, List.getElem?_cons_zero, List.getElem?_cons_succ, List.replicate_succ, List.replicate_zero, Nat.reduceAdd, Nat.reduceSub, Bool.true_or, Bool.false_or, Bool.true_and]
    rfl
def c_Book_without_right : List D → C := p_Book_without_right.c
abbrev N_Book_without_right : List Str := ["self", "role", "right", "lot", "less", "one"]
theorem sc_Book_without_right : FnScope N_Book_without_right ["self", "role", "right"] (defScope (inCls 70 17)) := ⟨rfl, rfl, rfl, by decide +kernel, rfl, by decide +kernel, by decide +kernel⟩
theorem d_Book_without_right {cdv : Value} {A : Around} {outer : List PySem.Env} {s : Shared} {H : Hp} {E : XK} {k : Nat} (h : Fc K mg) (k_Book_gives : Mth P w K mg base (k + 1) "Book" "gives" 2 [] false [] c_Book_gives) (k_is_word : Cal P w K mg base (k + 1) "is_word" 2 [] false [] c_is_word) (k_Book_changed : Mth P w K mg base (k + 1) "Book" "changed" 3 [] false [] c_Book_changed) (k_Book_rules : Prp P w K mg base k "Book" "rules" false c_Book_rules) (gd : Gd (cxOf (L2.CX P w) P w K mg base N_Book_without_right "Book.without_right" (defScope (inCls 70 17)) f cdv A outer s H E) (fun c d _ H => E c d H) (k + 1)) :
    SSs (cxOf (L2.CX P w) P w K mg base N_Book_without_right "Book.without_right" (defScope (inCls 70 17)) f cdv A outer s H E) ⟨[], [], false⟩ (fun c d _ H => E c d H) (defBody (inCls 70 17)) b_Book_without_right :=
  (ss_cons (s_set rfl rfl (asgE gd.nd rfl (by first | exact .inl rfl | exact .inr rfl) (SP.se (sp_meth (pl := _) gd flatE k_Book_gives (sp_v rfl rfl (by first | exact .inl rfl | exact .inr (.inl rfl) | exact .inr (.inr rfl))) (SPs.cons (sp_v rfl rfl (by first | exact .inl rfl | exact .inr (.inl rfl) | exact .inr (.inr rfl))) SPs.nil)))))
  (ss_cons (s_if (STp.ste (st_not (st_val (sp_call gd k_is_word rfl (SPs.cons (sp_v rfl rfl (by first | exact .inl rfl | exact .inr (.inl rfl) | exact .inr (.inr rfl))) (SPs.cons (sp_v rfl rfl (by first | exact .inl rfl | exact .inr (.inl rfl) | exact .inr (.inr rfl))) SPs.nil)))))) (ss_one s_bad) ss_nil)
  (ss_cons (s_set rfl rfl (asgE gd.nd rfl (by first | exact .inl rfl | exact .inr rfl) (SP.se (sp_t1 call_tuple_of vc_tuple rfl h.n_tuple boot_tuple (SPL.sp (spl_comp (own := [("one", 5)]) (T := (Tst.one (fun env => asB ((nd (g2 (fEq true)) [(eVar 5), (eVar 2)]) env)))) gd ⟨(si_any (sp_v rfl rfl (by first | exact .inl rfl | exact .inr (.inl rfl) | exact .inr (.inr rfl)))), (blkOk_by (N := N_Book_without_right) (sc := (defScope (inCls 70 17))) (own := [("one", 5)]) (by decide +kernel)), fun _ _ _ _ _ => (sg_name rfl rfl gd.blk.nd rfl (by first | exact .inl rfl | exact .inr rfl)), fun _ _ _ _ _ => (st_cmp (op_neD gd.hu64) v2_ne (sp_v rfl rfl (by first | exact .inl rfl | exact .inr (.inl rfl) | exact .inr (.inr rfl))) (sp_v rfl rfl (by first | exact .inl rfl | exact .inr (.inl rfl) | exact .inr (.inr rfl)))), fun _ _ _ _ _ => (sp_v rfl rfl (by first | exact .inl rfl | exact .inr (.inl rfl) | exact .inr (.inr rfl)))⟩))))))
  (ss_one (s_ret rfl (SP.se (sp_meth (pl := _) gd flatE k_Book_changed (sp_v rfl rfl (by first | exact .inl rfl | exact .inr (.inl rfl) | exact .inr (.inr rfl))) (SPs.cons (sp_dstar (sp_fld h.cl_Reading h.na_Reading_told_roles (sp_fld h.cl_Book h.na_Book_own_reading (sp_v rfl rfl (by first | exact .inl rfl | exact .inr (.inl rfl) | exact .inr (.inr rfl))))) (sp_v rfl rfl (by first | exact .inl rfl | exact .inr (.inl rfl) | exact .inr (.inr rfl))) (sp_v rfl rfl (by first | exact .inl rfl | exact .inr (.inl rfl) | exact .inr (.inr rfl)))) (SPs.cons (sp_prop gd k_Book_rules (sp_v rfl rfl (by first | exact .inl rfl | exact .inr (.inl rfl) | exact .inr (.inr rfl)))) SPs.nil)))))))))
theorem f_Book_without_right {k : Nat} (h : Fc K mg) (k_Book_gives : Mth P w K mg base (k + 1) "Book" "gives" 2 [] false [] c_Book_gives) (k_is_word : Cal P w K mg base (k + 1) "is_word" 2 [] false [] c_is_word) (k_Book_changed : Mth P w K mg base (k + 1) "Book" "changed" 3 [] false [] c_Book_changed) (k_Book_rules : Prp P w K mg base k "Book" "rules" false c_Book_rules) (F : FunD K "without_right" "Book.without_right" (defArgs (inCls 70 17)) (defBody (inCls 70 17)) (defScope (inCls 70 17)) [] [] f fd) : FnOk P w K mg base (L2.CX P w) (k + 2) f fd ["self", "role", "right"] (spC K 3 [] false c_Book_without_right) :=
  spC_cong p_Book_without_right.eq ▸ fn_mk F sc_Book_without_right rfl (by decide) fun cdv A outer s H E hr => d_Book_without_right h k_Book_gives k_is_word k_Book_changed k_Book_rules (gd_of sc_Book_without_right.nd hr)
def b_check_duty : Rf.Env → Fl := (sIf (liftB (bNot (fun env => asB ((nd (gCall 3 [] c_is_integer) [(eVar 1), (eC (.int 0)), (nd (g2 fSub) [(nd (g1 fLenX) [(ePrp "Book" "duties" c_Book_duties (eVar 0))]), (eC (.int 1))])]) env)))) sBad sNil)
def c0_check_duty : List D → C := runB 2 2 [] b_check_duty
def p_check_duty : Pe2 c0_check_duty where
  f := _
  ok := fun a b => by
    simp only [c0_check_duty, b_check_duty, runB, env0, outs, w_ret, w_nil, w_bad, w_seq, w_ifL, w_if, w_setL, w_setLL, w_dropL, w_retL, w_retLL, w_nd0, w_nd1, w_nd2, w_nd3, g1, g2, eVar, eC, eComp, compF_gN, compF_gT, Tst.f, wipeE, mkL, O.bind, bAnd, bOr, bNot, vAnd, vOr, vNot, vIf, eChain, eSl, eSlL, oNone, oSome, eTupS, eLstS, seqSt, eBm, eMeth, gMeth, ePrp, gCall, keepI, noX, seqF, List.length_cons, List.length_nil, List.map_cons, List.map_nil, List.cons_append, List.nil_append, List.set_cons_zero, List.set_cons_succ, List.getElem?_cons_zero, List.getElem?_cons_succ, List.replicate_succ, List.replicate_zero, Nat.reduceAdd, Nat.reduceSub, Bool.true_or, Bool.false_or, Bool.true_and]
    rfl
def c_check_duty : List D → C := p_check_duty.c
abbrev N_check_duty : List Str := ["book", "duty"]
theorem sc_check_duty : FnScope N_check_duty ["book", "duty"] (defScope (top 71)) := ⟨rfl, rfl, rfl, by decide +kernel, rfl, by decide +kernel, by decide +kernel⟩
theorem d_check_duty {cdv : Value} {A : Around} {outer : List PySem.Env} {s : Shared} {H : Hp} {E : XK} {k : Nat} (h : Fc K mg) (k_is_integer : Cal P w K mg base (k + 1) "is_integer" 3 [] false [] c_is_integer) (k_Book_duties : Prp P w K mg base k "Book" "duties" false c_Book_duties) (gd : Gd (cxOf (L2.CX P w) P w K mg base N_check_duty "check_duty" (defScope (top 71)) f cdv A outer s H E) (fun c d _ H => E c d H) (k + 1)) :
    SSs (cxOf (L2.CX P w) P w K mg base N_check_duty "check_duty" (defScope (top 71)) f cdv A outer s H E) ⟨[], [], false⟩ (fun c d _ H => E c d H) (defBody (top 71)) b_check_duty :=
  (ss_one (s_if (STp.ste (st_not (st_val (sp_call gd k_is_integer rfl (SPs.cons (sp_v rfl rfl (by first | exact .inl rfl | exact .inr (.inl rfl) | exact .inr (.inr rfl))) (SPs.cons sp_int (SPs.cons (sp_op op_sub v2_sub (sp_b1 call_lenX vc_lenX rfl h.n_len boot_len (sp_prop gd k_Book_duties (sp_v rfl rfl (by first | exact .inl rfl | exact .inr (.inl rfl) | exact .inr (.inr rfl))))) sp_int) SPs.nil))))))) (ss_one s_bad) ss_nil))
theorem f_check_duty {k : Nat} (h : Fc K mg) (k_is_integer : Cal P w K mg base (k + 1) "is_integer" 3 [] false [] c_is_integer) (k_Book_duties : Prp P w K mg base k "Book" "duties" false c_Book_duties) (F : FunD K "check_duty" "check_duty" (defArgs (top 71)) (defBody (top 71)) (defScope (top 71)) [] [] f fd) : FnOk P w K mg base (L2.CX P w) (k + 2) f fd ["book", "duty"] (spC K 2 [] false c_check_duty) :=
  spC_cong p_check_duty.eq ▸ fn_mk F sc_check_duty rfl (by decide) fun cdv A outer s H E hr => d_check_duty h k_is_integer k_Book_duties (gd_of sc_check_duty.nd hr)
def b_closed : Rf.Env → Fl := (seqB (sSet 2 (liftL (nd (g1 fListL) [(eVar 1)])))
  (seqB (sFor (fun env => ((fun env => itA ((eVar 1) env)) env).at env) (gN 3) (sMut 2 (lift (eMeth "Book" "below" 2 [] c_Book_below (eVar 0) [(eVar 3)])) fExt))
  (sRet (lift (fun env => keepI ((nd (gCall 2 [] c_lot_of) [(ePrp "Book" "roles" c_Book_roles (eVar 0)), (eVar 2)]) env))))))
def c0_closed : List D → C := runB 4 2 [] b_closed
def p_closed : Pe2 c0_closed where
  f := _
  ok := fun a b => by
    simp only [c0_closed, b_closed, runB, env0, outs, w_ret, w_nil, w_bad, w_seq, w_ifL, w_if, w_setL, w_setLL, w_dropL, w_retL, w_retLL, w_nd0, w_nd1, w_nd2, w_nd3, g1, g2, eVar, eC, eComp, compF_gN, compF_gT, Tst.f, wipeE, mkL, O.bind, bAnd, bOr, bNot, vAnd, vOr, vNot, vIf, eChain, eSl, eSlL, oNone, oSome, eTupS, eLstS, seqSt, eBm, eMeth, gMeth, ePrp, gCall, keepI, noX, seqF, List.length_cons, List.length_nil, List.map_cons, List.map_nil, List.cons_append, List.nil_append, List.set_cons_zero, List.set_cons_succ, List.getElem?_cons_zero, List.getElem?_cons_succ, List.replicate_succ, List.replicate_zero, Nat.reduceAdd, Nat.reduceSub, Bool.true_or, Bool.false_or, Bool.true_and]
    rfl
def c_closed : List D → C := p_closed.c
abbrev N_closed : List Str := ["book", "roles", "found", "role"]
theorem sc_closed : FnScope N_closed ["book", "roles"] (defScope (top 34)) := ⟨rfl, rfl, rfl, by decide +kernel, rfl, by decide +kernel, by decide +kernel⟩
theorem d_closed {cdv : Value} {A : Around} {outer : List PySem.Env} {s : Shared} {H : Hp} {E : XK} {k : Nat} (h : Fc K mg) (k_Book_below : Mth P w K mg base (k + 1) "Book" "below" 2 [] false [] c_Book_below) (k_lot_of : Cal P w K mg base (k + 1) "lot_of" 2 [] false [] c_lot_of) (k_Book_roles : Prp P w K mg base k "Book" "roles" false c_Book_roles) (gd : Gd (cxOf (L2.CX P w) P w K mg base N_closed "closed" (defScope (top 34)) f cdv A outer s H E) (fun c d _ H => E c d H) (k + 1)) :
    SSs (cxOf (L2.CX P w) P w K mg base N_closed "closed" (defScope (top 34)) f cdv A outer s H E) ⟨[2], [], false⟩ (fun c d _ H => E c d H) (defBody (top 34)) b_closed :=
  (ss_cons (s_setO rfl rfl (asgO gd.nd rfl (by first | exact .inl rfl | exact .inr rfl) (SPL.so (b := true) (spl_t1 call_list_of vc_list rfl h.n_list boot_list (sp_v rfl rfl (by first | exact .inl rfl | exact .inr (.inl rfl) | exact .inr (.inr rfl)))))))
  (ss_cons (s_for (vs := [3]) gd (SI.sie (si_any (sp_v rfl rfl (by first | exact .inl rfl | exact .inr (.inl rfl) | exact .inr (.inr rfl))))) (sg_name rfl rfl gd.nd rfl (by first | exact .inl rfl | exact .inr rfl)) rfl (ss_one (s_extend rfl rfl (by first | exact .inl rfl | exact .inr (.inl rfl) | exact .inr (.inr rfl)) (SP.se (sp_meth (pl := _) gd flatE k_Book_below (sp_v rfl rfl (by first | exact .inl rfl | exact .inr (.inl rfl) | exact .inr (.inr rfl))) (SPs.cons (sp_v rfl rfl (by first | exact .inl rfl | exact .inr (.inl rfl) | exact .inr (.inr rfl))) SPs.nil))))))
  (ss_one (s_ret rfl (SP.se (SP.kept (sp_call gd k_lot_of rfl (SPs.cons (sp_prop gd k_Book_roles (sp_v rfl rfl (by first | exact .inl rfl | exact .inr (.inl rfl) | exact .inr (.inr rfl)))) (SPs.cons (sp_own rfl rfl (by first | exact .inl rfl | exact .inr (.inl rfl) | exact .inr (.inr rfl))) SPs.nil)))))))))
theorem f_closed {k : Nat} (h : Fc K mg) (k_Book_below : Mth P w K mg base (k + 1) "Book" "below" 2 [] false [] c_Book_below) (k_lot_of : Cal P w K mg base (k + 1) "lot_of" 2 [] false [] c_lot_of) (k_Book_roles : Prp P w K mg base k "Book" "roles" false c_Book_roles) (F : FunD K "closed" "closed" (defArgs (top 34)) (defBody (top 34)) (defScope (top 34)) [] [] f fd) : FnOk P w K mg base (L2.CX P w) (k + 2) f fd ["book", "roles"] (spC K 2 [] false c_closed) :=
  spC_cong p_closed.eq ▸ fn_mk F sc_closed rfl (by decide) fun cdv A outer s H E hr => d_closed h k_Book_below k_lot_of k_Book_roles (gd_of sc_closed.nd hr)
def b_is_hand : Rf.Env → Fl := (sRet (lift (vAnd (nd (gCall 2 [] c_is_lot) [(ePrp "Book" "roles" c_Book_roles (eVar 0)), (eVar 1)]) (nd (g2 (fEq false)) [(nd (gCall 2 [] c_closed) [(eVar 0), (eVar 1)]), (eVar 1)]))))
def c0_is_hand : List D → C := runB 2 2 [] b_is_hand
def p_is_hand : Pe2 c0_is_hand where
  f := _
  ok := fun a b => by
    simp only [c0_is_hand, b_is_hand, runB, env0, outs, w_ret, w_nil, w_bad, w_seq, w_ifL, w_if, w_setL, w_setLL, w_dropL, w_retL, w_retLL, w_nd0, w_nd1, w_nd2, w_nd3, g1, g2, eVar, eC, eComp, compF_gN, compF_gT, Tst.f, wipeE, mkL, O.bind, bAnd, bOr, bNot, vAnd, vOr, vNot, vIf, eChain, eSl, eSlL, oNone, oSome, eTupS, eLstS, seqSt, eBm, eMeth, gMeth, ePrp, gCall, keepI, noX, seqF, List.length_cons, List.length_nil, List.map_cons, List.map_nil, List.cons_append, List.nil_append, List.set_cons_zero, List.set_cons_succ, List.getElem?_cons_zero, List.getElem?_cons_succ, List.replicate_succ, List.replicate_zero, Nat.reduceAdd, Nat.reduceSub, Bool.true_or, Bool.false_or, Bool.true_and]
    rfl
def c_is_hand : List D → C := p_is_hand.c
abbrev N_is_hand : List Str := ["book", "value"]
theorem sc_is_hand : FnScope N_is_hand ["book", "value"] (defScope (top 35)) := ⟨rfl, rfl, rfl, by decide +kernel, rfl, by decide +kernel, by decide +kernel⟩
theorem d_is_hand {cdv : Value} {A : Around} {outer : List PySem.Env} {s : Shared} {H : Hp} {E : XK} {k : Nat} (h : Fc K mg) (k_closed : Cal P w K mg base (k + 1) "closed" 2 [] false [] c_closed) (k_is_lot : Cal P w K mg base (k + 1) "is_lot" 2 [] false [] c_is_lot) (k_Book_roles : Prp P w K mg base k "Book" "roles" false c_Book_roles) (gd : Gd (cxOf (L2.CX P w) P w K mg base N_is_hand "is_hand" (defScope (top 35)) f cdv A outer s H E) (fun c d _ H => E c d H) (k + 1)) :
    SSs (cxOf (L2.CX P w) P w K mg base N_is_hand "is_hand" (defScope (top 35)) f cdv A outer s H E) ⟨[], [], false⟩ (fun c d _ H => E c d H) (defBody (top 35)) b_is_hand :=
  (ss_one (s_ret rfl (SP.se (sp_and (sp_call gd k_is_lot rfl (SPs.cons (sp_prop gd k_Book_roles (sp_v rfl rfl (by first | exact .inl rfl | exact .inr (.inl rfl) | exact .inr (.inr rfl)))) (SPs.cons (sp_v rfl rfl (by first | exact .inl rfl | exact .inr (.inl rfl) | exact .inr (.inr rfl))) SPs.nil))) (sp_one (sp_cmp (op_eqD gd.hu64) v2_eq (sp_call gd k_closed rfl (SPs.cons (sp_v rfl rfl (by first | exact .inl rfl | exact .inr (.inl rfl) | exact .inr (.inr rfl))) (SPs.cons (sp_v rfl rfl (by first | exact .inl rfl | exact .inr (.inl rfl) | exact .inr (.inr rfl))) SPs.nil))) (sp_v rfl rfl (by first | exact .inl rfl | exact .inr (.inl rfl) | exact .inr (.inr rfl)))))))))
theorem f_is_hand {k : Nat} (h : Fc K mg) (k_closed : Cal P w K mg base (k + 1) "closed" 2 [] false [] c_closed) (k_is_lot : Cal P w K mg base (k + 1) "is_lot" 2 [] false [] c_is_lot) (k_Book_roles : Prp P w K mg base k "Book" "roles" false c_Book_roles) (F : FunD K "is_hand" "is_hand" (defArgs (top 35)) (defBody (top 35)) (defScope (top 35)) [] [] f fd) : FnOk P w K mg base (L2.CX P w) (k + 2) f fd ["book", "value"] (spC K 2 [] false c_is_hand) :=
  spC_cong p_is_hand.eq ▸ fn_mk F sc_is_hand rfl (by decide) fun cdv A outer s H E hr => d_is_hand h k_closed k_is_lot k_Book_roles (gd_of sc_is_hand.nd hr)
def b_check_hand : Rf.Env → Fl := (sIf (liftB (bNot (fun env => asB ((nd (gCall 2 [] c_is_hand) [(eVar 0), (eVar 1)]) env)))) sBad sNil)
def c0_check_hand : List D → C := runB 2 2 [] b_check_hand
def p_check_hand : Pe2 c0_check_hand where
  f := _
  ok := fun a b => by
    simp only [c0_check_hand, b_check_hand, runB, env0, outs, w_ret, w_nil, w_bad, w_seq, w_ifL, w_if, w_setL, w_setLL, w_dropL, w_retL, w_retLL, w_nd0, w_nd1, w_nd2, w_nd3, g1, g2, eVar, eC, eComp, compF_gN, compF_gT, Tst.f, wipeE, mkL, O.bind, bAnd, bOr, bNot, vAnd, vOr, vNot, vIf, eChain, eSl, eSlL, oNone, oSome, eTupS, eLstS, seqSt, eBm, eMeth, gMeth, ePrp, gCall, keepI, noX, seqF, List.length_cons, List.length_nil, List.map_cons, List.map_nil, List.cons_append, List.nil_append, List.set_cons_zero, List.set_cons_succ, List.getElem?_cons_zero, List.getElem?_cons_succ, List.replicate_succ, List.replicate_zero, Nat.reduceAdd, Nat.reduceSub, Bool.true_or, Bool.false_or, Bool.true_and]
    rfl
def c_check_hand : List D → C := p_check_hand.c
abbrev N_check_hand : List Str := ["book", "hand"]
theorem sc_check_hand : FnScope N_check_hand ["book", "hand"] (defScope (top 36)) := ⟨rfl, rfl, rfl, by decide +kernel, rfl, by decide +kernel, by decide +kernel⟩
theorem d_check_hand {cdv : Value} {A : Around} {outer : List PySem.Env} {s : Shared} {H : Hp} {E : XK} {k : Nat} (h : Fc K mg) (k_is_hand : Cal P w K mg base (k + 1) "is_hand" 2 [] false [] c_is_hand) (gd : Gd (cxOf (L2.CX P w) P w K mg base N_check_hand "check_hand" (defScope (top 36)) f cdv A outer s H E) (fun c d _ H => E c d H) (k + 1)) :
    SSs (cxOf (L2.CX P w) P w K mg base N_check_hand "check_hand" (defScope (top 36)) f cdv A outer s H E) ⟨[], [], false⟩ (fun c d _ H => E c d H) (defBody (top 36)) b_check_hand :=
  (ss_one (s_if (STp.ste (st_not (st_val (sp_call gd k_is_hand rfl (SPs.cons (sp_v rfl rfl (by first | exact .inl rfl | exact .inr (.inl rfl) | exact .inr (.inr rfl))) (SPs.cons (sp_v rfl rfl (by first | exact .inl rfl | exact .inr (.inl rfl) | exact .inr (.inr rfl))) SPs.nil)))))) (ss_one s_bad) ss_nil))
theorem f_check_hand {k : Nat} (h : Fc K mg) (k_is_hand : Cal P w K mg base (k + 1) "is_hand" 2 [] false [] c_is_hand) (F : FunD K "check_hand" "check_hand" (defArgs (top 36)) (defBody (top 36)) (defScope (top 36)) [] [] f fd) : FnOk P w K mg base (L2.CX P w) (k + 2) f fd ["book", "hand"] (spC K 2 [] false c_check_hand) :=
  spC_cong p_check_hand.eq ▸ fn_mk F sc_check_hand rfl (by decide) fun cdv A outer s H E hr => d_check_hand h k_is_hand (gd_of sc_check_hand.nd hr)
def b_all_hands : Rf.Env → Fl := (sRet (lift (fun env => mkL ((eComp true [1] (fun env => itA ((nd (gCall 1 [] c_lots_of) [(ePrp "Book" "roles" c_Book_roles (eVar 0))]) env)) (gN 1) (Tst.f (Tst.one (fun env => asB ((nd (g2 (fEq false)) [(nd (gCall 2 [] c_closed) [(eVar 0), (eVar 1)]), (eVar 1)]) env)))) (eVar 1)) env))))
def c0_all_hands : List D → C := runB 2 1 [] b_all_hands
def p_all_hands : Pe1 c0_all_hands where
  f := _
  ok := fun a => by
    simp only [c0_all_hands, b_all_hands, runB, env0, outs, w_ret, w_nil, w_bad, w_seq, w_ifL, w_if, w_setL, w_setLL, w_dropL, w_retL, w_retLL, w_nd0, w_nd1, w_nd2, w_nd3, g1, g2, eVar, eC, eComp, compF_gN, compF_gT, Tst.f, wipeE, mkL, O.bind, bAnd, bOr, bNot, vAnd, vOr, vNot, vIf, eChain, eSl, eSlL, oNone, oSome, eTupS, eLstS, seqSt, eBm, eMeth, gMeth, ePrp, gCall, keepI, noX, seqF, List.length_cons, List.length_nil, List.map_cons, List.map_nil, List.cons_append, List.nil_append, List.set_cons_zero, List.set_cons_succ, List.getElem?_cons_zero, List.getElem?_cons_succ, List.replicate_succ, List.replicate_zero, Nat.reduceAdd, Nat.reduceSub, Bool.true_or, Bool.false_or, Bool.true_and]
    rfl
def c_all_hands : List D → C := p_all_hands.c
abbrev N_all_hands : List Str := ["book", "lot"]
theorem sc_all_hands : FnScope N_all_hands ["book"] (defScope (top 37)) := ⟨rfl, rfl, rfl, by decide +kernel, rfl, by decide +kernel, by decide +kernel⟩
theorem d_all_hands {cdv : Value} {A : Around} {outer : List PySem.Env} {s : Shared} {H : Hp} {E : XK} {k : Nat} (h : Fc K mg) (k_lots_of : Cal P w K mg base (k + 1) "lots_of" 1 [] false [] c_lots_of) (k_Book_roles : Prp P w K mg base k "Book" "roles" false c_Book_roles) (k_closed : Cal P w K mg base (k + 1) "closed" 2 [] false [] c_closed) (gd : Gd (cxOf (L2.CX P w) P w K mg base N_all_hands "all_hands" (defScope (top 37)) f cdv A outer s H E) (fun c d _ H => E c d H) (k + 1)) :
    SSs (cxOf (L2.CX P w) P w K mg base N_all_hands "all_hands" (defScope (top 37)) f cdv A outer s H E) ⟨[], [], false⟩ (fun c d _ H => E c d H) (defBody (top 37)) b_all_hands :=
  (ss_one (s_ret rfl (SP.se (SPL.sp (spl_comp (own := [("lot", 1)]) (T := (Tst.one (fun env => asB ((nd (g2 (fEq false)) [(nd (gCall 2 [] c_closed) [(eVar 0), (eVar 1)]), (eVar 1)]) env)))) gd ⟨(si_any (sp_call gd k_lots_of rfl (SPs.cons (sp_prop gd k_Book_roles (sp_v rfl rfl (by first | exact .inl rfl | exact .inr (.inl rfl) | exact .inr (.inr rfl)))) SPs.nil))), (blkOk_by (N := N_all_hands) (sc := (defScope (top 37))) (own := [("lot", 1)]) (by decide +kernel)), fun _ _ _ _ _ => (sg_name rfl rfl gd.blk.nd rfl (by first | exact .inl rfl | exact .inr rfl)), fun _ _ _ _ _ => (st_cmp (op_eqD gd.hu64) v2_eq (sp_call gd.blk k_closed rfl (SPs.cons (sp_v rfl rfl (by first | exact .inl rfl | exact .inr (.inl rfl) | exact .inr (.inr rfl))) (SPs.cons (sp_v rfl rfl (by first | exact .inl rfl | exact .inr (.inl rfl) | exact .inr (.inr rfl))) SPs.nil))) (sp_v rfl rfl (by first | exact .inl rfl | exact .inr (.inl rfl) | exact .inr (.inr rfl)))), fun _ _ _ _ _ => (sp_v rfl rfl (by first | exact .inl rfl | exact .inr (.inl rfl) | exact .inr (.inr rfl)))⟩)))))
theorem f_all_hands {k : Nat} (h : Fc K mg) (k_lots_of : Cal P w K mg base (k + 1) "lots_of" 1 [] false [] c_lots_of) (k_Book_roles : Prp P w K mg base k "Book" "roles" false c_Book_roles) (k_closed : Cal P w K mg base (k + 1) "closed" 2 [] false [] c_closed) (F : FunD K "all_hands" "all_hands" (defArgs (top 37)) (defBody (top 37)) (defScope (top 37)) [] [] f fd) : FnOk P w K mg base (L2.CX P w) (k + 2) f fd ["book"] (spC K 1 [] false c_all_hands) :=
  spC_cong p_all_hands.eq ▸ fn_mk F sc_all_hands rfl (by decide) fun cdv A outer s H E hr => d_all_hands h k_lots_of k_Book_roles k_closed (gd_of sc_all_hands.nd hr)
def b_gifts : Rf.Env → Fl := (sRet (lift (nd (gCall 2 [] c_lot_of) [(ePrp "Book" "rights" c_Book_rights (eVar 0)), (fun env => mkL ((eComp2 [2, 3] [3] (fun env => itA ((eVar 1) env)) (gN 2) (Tst.f Tst.no) (fun env => itA ((eMeth "Book" "gives" 2 [] c_Book_gives (eVar 0) [(eVar 2)]) env)) (gN 3) (Tst.f Tst.no) (eVar 3)) env))])))
def c0_gifts : List D → C := runB 4 2 [] b_gifts
def p_gifts : Pe2 c0_gifts where
  f := _
  ok := fun a b => by
    simp only [c0_gifts, b_gifts, runB, env0, outs, w_ret, w_nil, w_bad, w_seq, w_ifL, w_if, w_setL, w_setLL, w_dropL, w_retL, w_retLL, w_nd0, w_nd1, w_nd2, w_nd3, g1, g2, eVar, eC, eComp, compF_gN, compF_gT, Tst.f, wipeE, mkL, O.bind, bAnd, bOr, bNot, vAnd, vOr, vNot, vIf, eChain, eSl, eSlL, oNone, oSome, eTupS, eLstS, seqSt, eBm, eMeth, gMeth, ePrp, gCall, keepI, noX, seqF, List.length_cons, List.length_nil, List.map_cons, List.map_nil, List.cons_append, List.nil_append, List.set_cons_zero, List.set_cons_succ, List.getElem?_cons_zero, List.getElem?_cons_succ, List.replicate_succ, List.replicate_zero, Nat.reduceAdd, Nat.reduceSub, Bool.true_or, Bool.false_or, Bool.true_and]
    rfl
def c_gifts : List D → C := p_gifts.c
abbrev N_gifts : List Str := ["book", "hand", "role", "right"]
theorem sc_gifts : FnScope N_gifts ["book", "hand"] (defScope (top 38)) := ⟨rfl, rfl, rfl, by decide +kernel, rfl, by decide +kernel, by decide +kernel⟩
theorem d_gifts {cdv : Value} {A : Around} {outer : List PySem.Env} {s : Shared} {H : Hp} {E : XK} {k : Nat} (h : Fc K mg) (k_lot_of : Cal P w K mg base (k + 1) "lot_of" 2 [] false [] c_lot_of) (k_Book_rights : Prp P w K mg base k "Book" "rights" false c_Book_rights) (k_Book_gives : Mth P w K mg base (k + 1) "Book" "gives" 2 [] false [] c_Book_gives) (gd : Gd (cxOf (L2.CX P w) P w K mg base N_gifts "gifts" (defScope (top 38)) f cdv A outer s H E) (fun c d _ H => E c d H) (k + 1)) :
    SSs (cxOf (L2.CX P w) P w K mg base N_gifts "gifts" (defScope (top 38)) f cdv A outer s H E) ⟨[], [], false⟩ (fun c d _ H => E c d H) (defBody (top 38)) b_gifts :=
  (ss_one (s_ret rfl (SP.se (sp_call gd k_lot_of rfl (SPs.cons (sp_prop gd k_Book_rights (sp_v rfl rfl (by first | exact .inl rfl | exact .inr (.inl rfl) | exact .inr (.inr rfl)))) (SPs.cons (SPL.sp (spl_comp2 (own := [("role", 2), ("right", 3)]) (vs1 := [3]) (T := Tst.no) (T1 := Tst.no) gd ⟨(si_any (sp_v rfl rfl (by first | exact .inl rfl | exact .inr (.inl rfl) | exact .inr (.inr rfl)))), (blkOk_by (N := N_gifts) (sc := (defScope (top 38))) (own := [("role", 2), ("right", 3)]) (by decide +kernel)), rfl, fun _ _ _ _ _ => (sg_name rfl rfl gd.blk.nd rfl (by first | exact .inl rfl | exact .inr rfl)), fun _ _ _ _ _ => trivial, fun _ _ _ _ _ => (si_any (sp_meth (pl := _) gd.blk flat0 k_Book_gives (sp_v rfl rfl (by first | exact .inl rfl | exact .inr (.inl rfl) | exact .inr (.inr rfl))) (SPs.cons (sp_v rfl rfl (by first | exact .inl rfl | exact .inr (.inl rfl) | exact .inr (.inr rfl))) SPs.nil))), fun _ _ _ _ _ => (sg_name rfl rfl gd.blk.nd rfl (by first | exact .inl rfl | exact .inr rfl)), fun _ _ _ _ _ => trivial, fun _ _ _ _ _ => (sp_v rfl rfl (by first | exact .inl rfl | exact .inr (.inl rfl) | exact .inr (.inr rfl)))⟩)) SPs.nil))))))
theorem f_gifts {k : Nat} (h : Fc K mg) (k_lot_of : Cal P w K mg base (k + 1) "lot_of" 2 [] false [] c_lot_of) (k_Book_rights : Prp P w K mg base k "Book" "rights" false c_Book_rights) (k_Book_gives : Mth P w K mg base (k + 1) "Book" "gives" 2 [] false [] c_Book_gives) (F : FunD K "gifts" "gifts" (defArgs (top 38)) (defBody (top 38)) (defScope (top 38)) [] [] f fd) : FnOk P w K mg base (L2.CX P w) (k + 2) f fd ["book", "hand"] (spC K 2 [] false c_gifts) :=
  spC_cong p_gifts.eq ▸ fn_mk F sc_gifts rfl (by decide) fun cdv A outer s H E hr => d_gifts h k_lot_of k_Book_rights k_Book_gives (gd_of sc_gifts.nd hr)
def b_bar_of : Rf.Env → Fl := (seqB (sFor (fun env => ((fun env => itEn ((eVar 0) env)) env).at env) (gT 2 (gsC (gN 2) (gsC (gT 2 (gsC (gN 3) (gsC (gN 4) gsN))) gsN))) (sIf (liftB (fun env => asB ((nd (g2 fGe) [(nd (g1 fLenX) [(fun env => mkL ((eComp true [5] (fun env => itA ((eVar 4) env)) (gN 5) (Tst.f (Tst.one (fun env => asB ((nd (g2 (fIn false)) [(eVar 5), (eVar 1)]) env)))) (eVar 5)) env))]), (eVar 3)]) env))) (sRet (lift (eVar 2))) sNil))
  (sRet (lift (eC .non))))
def c0_bar_of : List D → C := runB 6 2 [] b_bar_of
def p_bar_of : Pe2 c0_bar_of where
  f := _
  ok := fun a b => by
    simp only [c0_bar_of, b_bar_of, runB, env0, outs, w_ret, w_nil, w_bad, w_seq, w_ifL, w_if, w_setL, w_setLL, w_dropL, w_retL, w_retLL, w_nd0, w_nd1, w_nd2, w_nd3, g1, g2, eVar, eC, eComp, compF_gN, compF_gT, Tst.f, wipeE, mkL, O.bind, bAnd, bOr, bNot, vAnd, vOr, vNot, vIf, eChain, eSl, eSlL, oNone, oSome, eTupS, eLstS, seqSt, eBm, eMeth, gMeth, ePrp, gCall, keepI, noX, seqF, List.length_cons, List.length_nil, List.map_cons, List.map_nil, List.cons_append, List.nil_append, List.set_cons_zero, List.set_cons_succ, List.getElem?_cons_zero, List.getElem?_cons_succ, List.replicate_succ, List.replicate_zero, Nat.reduceAdd, Nat.reduceSub, Bool.true_or, Bool.false_or, Bool.true_and]
    rfl
def c_bar_of : List D → C := p_bar_of.c
abbrev N_bar_of : List Str := ["rules", "hand", "number", "many", "roles", "role"]
theorem sc_bar_of : FnScope N_bar_of ["rules", "hand"] (defScope (top 39)) := ⟨rfl, rfl, rfl, by decide +kernel, rfl, by decide +kernel, by decide +kernel⟩
theorem d_bar_of {cdv : Value} {A : Around} {outer : List PySem.Env} {s : Shared} {H : Hp} {E : XK} {k : Nat} (h : Fc K mg)  (gd : Gd (cxOf (L2.CX P w) P w K mg base N_bar_of "bar_of" (defScope (top 39)) f cdv A outer s H E) (fun c d _ H => E c d H) (k + 1)) :
    SSs (cxOf (L2.CX P w) P w K mg base N_bar_of "bar_of" (defScope (top 39)) f cdv A outer s H E) ⟨[], [], false⟩ (fun c d _ H => E c d H) (defBody (top 39)) b_bar_of :=
  (ss_cons (s_for (vs := [2, 3, 4]) gd (SI.sie (si_enum rfl h.n_enumerate (sp_v rfl rfl (by first | exact .inl rfl | exact .inr (.inl rfl) | exact .inr (.inr rfl))))) (sg_tup (sgs_cons (sg_name rfl rfl gd.nd rfl (by first | exact .inl rfl | exact .inr rfl)) (sgs_cons (sg_tup (sgs_cons (sg_name rfl rfl gd.nd rfl (by first | exact .inl rfl | exact .inr rfl)) (sgs_cons (sg_name rfl rfl gd.nd rfl (by first | exact .inl rfl | exact .inr rfl)) sgs_nil)) fun t h => pg_tup gd.calm h) sgs_nil)) fun t h => pg_tup gd.calm h) rfl (ss_one (s_if (STp.ste (st_cmp op_ge v2_ge (sp_b1 call_lenX vc_lenX rfl h.n_len boot_len (SPL.sp (spl_comp (own := [("role", 5)]) (T := (Tst.one (fun env => asB ((nd (g2 (fIn false)) [(eVar 5), (eVar 1)]) env)))) gd ⟨(si_any (sp_v rfl rfl (by first | exact .inl rfl | exact .inr (.inl rfl) | exact .inr (.inr rfl)))), (blkOk_by (N := N_bar_of) (sc := (defScope (top 39))) (own := [("role", 5)]) (by decide +kernel)), fun _ _ _ _ _ => (sg_name rfl rfl gd.blk.nd rfl (by first | exact .inl rfl | exact .inr rfl)), fun _ _ _ _ _ => (st_cmp (op_inAll gd.hu) (v2_in false) (sp_v rfl rfl (by first | exact .inl rfl | exact .inr (.inl rfl) | exact .inr (.inr rfl))) (sp_v rfl rfl (by first | exact .inl rfl | exact .inr (.inl rfl) | exact .inr (.inr rfl)))), fun _ _ _ _ _ => (sp_v rfl rfl (by first | exact .inl rfl | exact .inr (.inl rfl) | exact .inr (.inr rfl)))⟩))) (sp_v rfl rfl (by first | exact .inl rfl | exact .inr (.inl rfl) | exact .inr (.inr rfl))))) (ss_one (s_ret rfl (SP.se (sp_v rfl rfl (by first | exact .inl rfl | exact .inr (.inl rfl) | exact .inr (.inr rfl)))))) ss_nil)))
  (ss_one (s_ret rfl (SP.se sp_non))))
theorem f_bar_of {k : Nat} (h : Fc K mg)  (F : FunD K "bar_of" "bar_of" (defArgs (top 39)) (defBody (top 39)) (defScope (top 39)) [] [] f fd) : FnOk P w K mg base (L2.CX P w) (k + 2) f fd ["rules", "hand"] (spC K 2 [] false c_bar_of) :=
  spC_cong p_bar_of.eq ▸ fn_mk F sc_bar_of rfl (by decide) fun cdv A outer s H E hr => d_bar_of h  (gd_of sc_bar_of.nd hr)
def b_let_by : Rf.Env → Fl := (sRet (lift (fun env => mkL ((eComp true [2] (fun env => itA ((nd (gCall 1 [] c_all_hands) [(eVar 0)]) env)) (gN 2) (Tst.f (Tst.one (fun env => asB ((nd (g2 (fIs false)) [(nd (gCall 2 [] c_bar_of) [(eVar 1), (eVar 2)]), (eC .non)]) env)))) (eVar 2)) env))))
def c0_let_by : List D → C := runB 3 2 [] b_let_by
def p_let_by : Pe2 c0_let_by where
  f := _
  ok := fun a b => by
    simp only [c0_let_by, b_let_by, runB, env0, outs, w_ret, w_nil, w_bad, w_seq, w_ifL, w_if, w_setL, w_setLL, w_dropL, w_retL, w_retLL, w_nd0, w_nd1, w_nd2, w_nd3, g1, g2, eVar, eC, eComp, compF_gN, compF_gT, Tst.f, wipeE, mkL, O.bind, bAnd, bOr, bNot, vAnd, vOr, vNot, vIf, eChain, eSl, eSlL, oNone, oSome, eTupS, eLstS, seqSt, eBm, eMeth, gMeth, ePrp, gCall, keepI, noX, seqF, List.length_cons, List.length_nil, List.map_cons, List.map_nil, List.cons_append, List.nil_append, List.set_cons_zero, List.set_cons_succ, List.getElem?_cons_zero, List.getElem?_cons_succ, List.replicate_succ, List.replicate_zero, Nat.reduceAdd, Nat.reduceSub, Bool.true_or, Bool.false_or, Bool.true_and]
    rfl
def c_let_by : List D → C := p_let_by.c
abbrev N_let_by : List Str := ["book", "rules", "hand"]
theorem sc_let_by : FnScope N_let_by ["book", "rules"] (defScope (top 40)) := ⟨rfl, rfl, rfl, by decide +kernel, rfl, by decide +kernel, by decide +kernel⟩
theorem d_let_by {cdv : Value} {A : Around} {outer : List PySem.Env} {s : Shared} {H : Hp} {E : XK} {k : Nat} (h : Fc K mg) (k_all_hands : Cal P w K mg base (k + 1) "all_hands" 1 [] false [] c_all_hands) (k_bar_of : Cal P w K mg base (k + 1) "bar_of" 2 [] false [] c_bar_of) (gd : Gd (cxOf (L2.CX P w) P w K mg base N_let_by "let_by" (defScope (top 40)) f cdv A outer s H E) (fun c d _ H => E c d H) (k + 1)) :
    SSs (cxOf (L2.CX P w) P w K mg base N_let_by "let_by" (defScope (top 40)) f cdv A outer s H E) ⟨[], [], false⟩ (fun c d _ H => E c d H) (defBody (top 40)) b_let_by :=
  (ss_one (s_ret rfl (SP.se (SPL.sp (spl_comp (own := [("hand", 2)]) (T := (Tst.one (fun env => asB ((nd (g2 (fIs false)) [(nd (gCall 2 [] c_bar_of) [(eVar 1), (eVar 2)]), (eC .non)]) env)))) gd ⟨(si_any (sp_call gd k_all_hands rfl (SPs.cons (sp_v rfl rfl (by first | exact .inl rfl | exact .inr (.inl rfl) | exact .inr (.inr rfl))) SPs.nil))), (blkOk_by (N := N_let_by) (sc := (defScope (top 40))) (own := [("hand", 2)]) (by decide +kernel)), fun _ _ _ _ _ => (sg_name rfl rfl gd.blk.nd rfl (by first | exact .inl rfl | exact .inr rfl)), fun _ _ _ _ _ => (st_cmp op_isN v2_is (sp_call gd.blk k_bar_of rfl (SPs.cons (sp_v rfl rfl (by first | exact .inl rfl | exact .inr (.inl rfl) | exact .inr (.inr rfl))) (SPs.cons (sp_v rfl rfl (by first | exact .inl rfl | exact .inr (.inl rfl) | exact .inr (.inr rfl))) SPs.nil))) sp_non), fun _ _ _ _ _ => (sp_v rfl rfl (by first | exact .inl rfl | exact .inr (.inl rfl) | exact .inr (.inr rfl)))⟩)))))
theorem f_let_by {k : Nat} (h : Fc K mg) (k_all_hands : Cal P w K mg base (k + 1) "all_hands" 1 [] false [] c_all_hands) (k_bar_of : Cal P w K mg base (k + 1) "bar_of" 2 [] false [] c_bar_of) (F : FunD K "let_by" "let_by" (defArgs (top 40)) (defBody (top 40)) (defScope (top 40)) [] [] f fd) : FnOk P w K mg base (L2.CX P w) (k + 2) f fd ["book", "rules"] (spC K 2 [] false c_let_by) :=
  spC_cong p_let_by.eq ▸ fn_mk F sc_let_by rfl (by decide) fun cdv A outer s H E hr => d_let_by h k_all_hands k_bar_of (gd_of sc_let_by.nd hr)
def b_let_hands : Rf.Env → Fl := (sRet (lift (nd (gCall 2 [] c_let_by) [(eVar 0), (ePrp "Book" "rules" c_Book_rules (eVar 0))])))
def c0_let_hands : List D → C := runB 1 1 [] b_let_hands
def p_let_hands : Pe1 c0_let_hands where
  f := _
  ok := fun a => by
    simp only [c0_let_hands, b_let_hands, runB, env0, outs, w_ret, w_nil, w_bad, w_seq, w_ifL, w_if, w_setL, w_setLL, w_dropL, w_retL, w_retLL, w_nd0, w_nd1, w_nd2, w_nd3, g1, g2, eVar, eC, eComp, compF_gN, compF_gT, Tst.f, wipeE, mkL, O.bind, bAnd, bOr, bNot, vAnd, vOr, vNot, vIf, eChain, eSl, eSlL, oNone, oSome, eTupS, eLstS, seqSt, eBm, eMeth, gMeth, ePrp, gCall, keepI, noX, seqF, List.length_cons, List.length_nil, List.map_cons, List.map_nil, List.cons_append, List.nil_append, List.set_cons_zero, List.set_cons_succ, List.getElem?_cons_zero, List.getElem?_cons_succ, List.replicate_succ, List.replicate_zero, Nat.reduceAdd, Nat.reduceSub, Bool.true_or, Bool.false_or, Bool.true_and]
    rfl
def c_let_hands : List D → C := p_let_hands.c
abbrev N_let_hands : List Str := ["book"]
theorem sc_let_hands : FnScope N_let_hands ["book"] (defScope (top 41)) := ⟨rfl, rfl, rfl, by decide +kernel, rfl, by decide +kernel, by decide +kernel⟩
theorem d_let_hands {cdv : Value} {A : Around} {outer : List PySem.Env} {s : Shared} {H : Hp} {E : XK} {k : Nat} (h : Fc K mg) (k_let_by : Cal P w K mg base (k + 1) "let_by" 2 [] false [] c_let_by) (k_Book_rules : Prp P w K mg base k "Book" "rules" false c_Book_rules) (gd : Gd (cxOf (L2.CX P w) P w K mg base N_let_hands "let_hands" (defScope (top 41)) f cdv A outer s H E) (fun c d _ H => E c d H) (k + 1)) :
    SSs (cxOf (L2.CX P w) P w K mg base N_let_hands "let_hands" (defScope (top 41)) f cdv A outer s H E) ⟨[], [], false⟩ (fun c d _ H => E c d H) (defBody (top 41)) b_let_hands :=
  (ss_one (s_ret rfl (SP.se (sp_call gd k_let_by rfl (SPs.cons (sp_v rfl rfl (by first | exact .inl rfl | exact .inr (.inl rfl) | exact .inr (.inr rfl))) (SPs.cons (sp_prop gd k_Book_rules (sp_v rfl rfl (by first | exact .inl rfl | exact .inr (.inl rfl) | exact .inr (.inr rfl)))) SPs.nil))))))
theorem f_let_hands {k : Nat} (h : Fc K mg) (k_let_by : Cal P w K mg base (k + 1) "let_by" 2 [] false [] c_let_by) (k_Book_rules : Prp P w K mg base k "Book" "rules" false c_Book_rules) (F : FunD K "let_hands" "let_hands" (defArgs (top 41)) (defBody (top 41)) (defScope (top 41)) [] [] f fd) : FnOk P w K mg base (L2.CX P w) (k + 2) f fd ["book"] (spC K 1 [] false c_let_hands) :=
  spC_cong p_let_hands.eq ▸ fn_mk F sc_let_hands rfl (by decide) fun cdv A outer s H E hr => d_let_hands h k_let_by k_Book_rules (gd_of sc_let_hands.nd hr)
def b_bars_of : Rf.Env → Fl := (sRet (lift (nd (g1 fTuple) [(fun env => mkL ((nd (g1 fSort) [(nd (gCall 1 [] c_least_of) [(fun env => mkL ((eComp true [2] (fun env => itA ((nd (gCall 1 [] c_all_hands) [(eVar 0)]) env)) (gN 2) (Tst.f (Tst.one (fun env => asB ((nd (g2 (fIn true)) [(eVar 2), (eVar 1)]) env)))) (eVar 2)) env))])]) env))])))
def c0_bars_of : List D → C := runB 3 2 [] b_bars_of
def p_bars_of : Pe2 c0_bars_of where
  f := _
  ok := fun a b => by
    simp only [c0_bars_of, b_bars_of, runB, env0, outs, w_ret, w_nil, w_bad, w_seq, w_ifL, w_if, w_setL, w_setLL, w_dropL, w_retL, w_retLL, w_nd0, w_nd1, w_nd2, w_nd3, g1, g2, eVar, eC, eComp, compF_gN, compF_gT, Tst.f, wipeE, mkL, O.bind, bAnd, bOr, bNot, vAnd, vOr, vNot, vIf, eChain, eSl, eSlL, oNone, oSome, eTupS, eLstS, seqSt, eBm, eMeth, gMeth, ePrp, gCall, keepI, noX, seqF, List.length_cons, List.length_nil, List.map_cons, List.map_nil, List.cons_append, List.nil_append, List.set_cons_zero, List.set_cons_succ, List.getElem?_cons_zero, List.getElem?_cons_succ, List.replicate_succ, List.replicate_zero, Nat.reduceAdd, Nat.reduceSub, Bool.true_or, Bool.false_or, Bool.true_and]
    rfl
def c_bars_of : List D → C := p_bars_of.c
abbrev N_bars_of : List Str := ["book", "hands", "hand"]
theorem sc_bars_of : FnScope N_bars_of ["book", "hands"] (defScope (top 42)) := ⟨rfl, rfl, rfl, by decide +kernel, rfl, by decide +kernel, by decide +kernel⟩
theorem d_bars_of {cdv : Value} {A : Around} {outer : List PySem.Env} {s : Shared} {H : Hp} {E : XK} {k : Nat} (h : Fc K mg) (k_least_of : Cal P w K mg base (k + 1) "least_of" 1 [] false [] c_least_of) (k_all_hands : Cal P w K mg base (k + 1) "all_hands" 1 [] false [] c_all_hands) (gd : Gd (cxOf (L2.CX P w) P w K mg base N_bars_of "bars_of" (defScope (top 42)) f cdv A outer s H E) (fun c d _ H => E c d H) (k + 1)) :
    SSs (cxOf (L2.CX P w) P w K mg base N_bars_of "bars_of" (defScope (top 42)) f cdv A outer s H E) ⟨[], [], false⟩ (fun c d _ H => E c d H) (defBody (top 42)) b_bars_of :=
  (ss_one (s_ret rfl (SP.se (sp_t1 call_tuple_of vc_tuple rfl h.n_tuple boot_tuple (SPL.sp (spl_b1 (cr_sortD gd.hu64) vc_sort rfl h.n_sorted Rf.boot_sorted (sp_call gd k_least_of rfl (SPs.cons (SPL.sp (spl_comp (own := [("hand", 2)]) (T := (Tst.one (fun env => asB ((nd (g2 (fIn true)) [(eVar 2), (eVar 1)]) env)))) gd ⟨(si_any (sp_call gd k_all_hands rfl (SPs.cons (sp_v rfl rfl (by first | exact .inl rfl | exact .inr (.inl rfl) | exact .inr (.inr rfl))) SPs.nil))), (blkOk_by (N := N_bars_of) (sc := (defScope (top 42))) (own := [("hand", 2)]) (by decide +kernel)), fun _ _ _ _ _ => (sg_name rfl rfl gd.blk.nd rfl (by first | exact .inl rfl | exact .inr rfl)), fun _ _ _ _ _ => (st_cmp (op_notInAll gd.hu) (v2_in true) (sp_v rfl rfl (by first | exact .inl rfl | exact .inr (.inl rfl) | exact .inr (.inr rfl))) (sp_v rfl rfl (by first | exact .inl rfl | exact .inr (.inl rfl) | exact .inr (.inr rfl)))), fun _ _ _ _ _ => (sp_v rfl rfl (by first | exact .inl rfl | exact .inr (.inl rfl) | exact .inr (.inr rfl)))⟩)) SPs.nil))))))))
theorem f_bars_of {k : Nat} (h : Fc K mg) (k_least_of : Cal P w K mg base (k + 1) "least_of" 1 [] false [] c_least_of) (k_all_hands : Cal P w K mg base (k + 1) "all_hands" 1 [] false [] c_all_hands) (F : FunD K "bars_of" "bars_of" (defArgs (top 42)) (defBody (top 42)) (defScope (top 42)) [] [] f fd) : FnOk P w K mg base (L2.CX P w) (k + 2) f fd ["book", "hands"] (spC K 2 [] false c_bars_of) :=
  spC_cong p_bars_of.eq ▸ fn_mk F sc_bars_of rfl (by decide) fun cdv A outer s H E hr => d_bars_of h k_least_of k_all_hands (gd_of sc_bars_of.nd hr)
def b_hand_of : Rf.Env → Fl := (seqB (sIf (liftB (bNot (fun env => asB ((nd (gCall 2 [] c_is_lot) [(ePrp "Book" "roles" c_Book_roles (eVar 0)), (eVar 1)]) env)))) sBad sNil)
  (sRet (lift (nd (gCall 2 [] c_closed) [(eVar 0), (eVar 1)]))))
def c0_hand_of : List D → C := runB 2 2 [] b_hand_of
def p_hand_of : Pe2 c0_hand_of where
  f := _
  ok := fun a b => by
    simp only [c0_hand_of, b_hand_of, runB, env0, outs, w_ret, w_nil, w_bad, w_seq, w_ifL, w_if, w_setL, w_setLL, w_dropL, w_retL, w_retLL, w_nd0, w_nd1, w_nd2, w_nd3, g1, g2, eVar, eC, eComp, compF_gN, compF_gT, Tst.f, wipeE, mkL, O.bind, bAnd, bOr, bNot, vAnd, vOr, vNot, vIf, eChain, eSl, eSlL, oNone, oSome, eTupS, eLstS, seqSt, eBm, eMeth, gMeth, ePrp, gCall, keepI, noX, seqF, List.length_cons, List.length_nil, List.map_cons, List.map_nil, List.cons_append, List.nil_append, List.set_cons_zero, List.set_cons_succ, List.getElem?_cons_zero, List.getElem?_cons_succ, List.replicate_succ, List.replicate_zero, Nat.reduceAdd, Nat.reduceSub, Bool.true_or, Bool.false_or, Bool.true_and]
    rfl
def c_hand_of : List D → C := p_hand_of.c
abbrev N_hand_of : List Str := ["book", "roles"]
theorem sc_hand_of : FnScope N_hand_of ["book", "roles"] (defScope (top 43)) := ⟨rfl, rfl, rfl, by decide +kernel, rfl, by decide +kernel, by decide +kernel⟩
theorem d_hand_of {cdv : Value} {A : Around} {outer : List PySem.Env} {s : Shared} {H : Hp} {E : XK} {k : Nat} (h : Fc K mg) (k_is_lot : Cal P w K mg base (k + 1) "is_lot" 2 [] false [] c_is_lot) (k_Book_roles : Prp P w K mg base k "Book" "roles" false c_Book_roles) (k_closed : Cal P w K mg base (k + 1) "closed" 2 [] false [] c_closed) (gd : Gd (cxOf (L2.CX P w) P w K mg base N_hand_of "hand_of" (defScope (top 43)) f cdv A outer s H E) (fun c d _ H => E c d H) (k + 1)) :
    SSs (cxOf (L2.CX P w) P w K mg base N_hand_of "hand_of" (defScope (top 43)) f cdv A outer s H E) ⟨[], [], false⟩ (fun c d _ H => E c d H) (defBody (top 43)) b_hand_of :=
  (ss_cons (s_if (STp.ste (st_not (st_val (sp_call gd k_is_lot rfl (SPs.cons (sp_prop gd k_Book_roles (sp_v rfl rfl (by first | exact .inl rfl | exact .inr (.inl rfl) | exact .inr (.inr rfl)))) (SPs.cons (sp_v rfl rfl (by first | exact .inl rfl | exact .inr (.inl rfl) | exact .inr (.inr rfl))) SPs.nil)))))) (ss_one s_bad) ss_nil)
  (ss_one (s_ret rfl (SP.se (sp_call gd k_closed rfl (SPs.cons (sp_v rfl rfl (by first | exact .inl rfl | exact .inr (.inl rfl) | exact .inr (.inr rfl))) (SPs.cons (sp_v rfl rfl (by first | exact .inl rfl | exact .inr (.inl rfl) | exact .inr (.inr rfl))) SPs.nil)))))))
theorem f_hand_of {k : Nat} (h : Fc K mg) (k_is_lot : Cal P w K mg base (k + 1) "is_lot" 2 [] false [] c_is_lot) (k_Book_roles : Prp P w K mg base k "Book" "roles" false c_Book_roles) (k_closed : Cal P w K mg base (k + 1) "closed" 2 [] false [] c_closed) (F : FunD K "hand_of" "hand_of" (defArgs (top 43)) (defBody (top 43)) (defScope (top 43)) [] [] f fd) : FnOk P w K mg base (L2.CX P w) (k + 2) f fd ["book", "roles"] (spC K 2 [] false c_hand_of) :=
  spC_cong p_hand_of.eq ▸ fn_mk F sc_hand_of rfl (by decide) fun cdv A outer s H E hr => d_hand_of h k_is_lot k_Book_roles k_closed (gd_of sc_hand_of.nd hr)
def b_rights_of : Rf.Env → Fl := (seqB (sDrop (lift (nd (gCall 2 [] c_check_hand) [(eVar 0), (eVar 1)])))
  (sRet (lift (nd (gCall 2 [] c_gifts) [(eVar 0), (eVar 1)]))))
def c0_rights_of : List D → C := runB 2 2 [] b_rights_of
def p_rights_of : Pe2 c0_rights_of where
  f := _
  ok := fun a b => by
    simp only [c0_rights_of, b_rights_of, runB, env0, outs, w_ret, w_nil, w_bad, w_seq, w_ifL, w_if, w_setL, w_setLL, w_dropL, w_retL, w_retLL, w_nd0, w_nd1, w_nd2, w_nd3, g1, g2, eVar, eC, eComp, compF_gN, compF_gT, Tst.f, wipeE, mkL, O.bind, bAnd, bOr, bNot, vAnd, vOr, vNot, vIf, eChain, eSl, eSlL, oNone, oSome, eTupS, eLstS, seqSt, eBm, eMeth, gMeth, ePrp, gCall, keepI, noX, seqF, List.length_cons, List.length_nil, List.map_cons, List.map_nil, List.cons_append, List.nil_append, List.set_cons_zero, List.set_cons_succ, List.getElem?_cons_zero, List.getElem?_cons_succ, List.replicate_succ, List.replicate_zero, Nat.reduceAdd, Nat.reduceSub, Bool.true_or, Bool.false_or, Bool.true_and]
    rfl
def c_rights_of : List D → C := p_rights_of.c
abbrev N_rights_of : List Str := ["book", "hand"]
theorem sc_rights_of : FnScope N_rights_of ["book", "hand"] (defScope (top 44)) := ⟨rfl, rfl, rfl, by decide +kernel, rfl, by decide +kernel, by decide +kernel⟩
theorem d_rights_of {cdv : Value} {A : Around} {outer : List PySem.Env} {s : Shared} {H : Hp} {E : XK} {k : Nat} (h : Fc K mg) (k_check_hand : Cal P w K mg base (k + 1) "check_hand" 2 [] false [] c_check_hand) (k_gifts : Cal P w K mg base (k + 1) "gifts" 2 [] false [] c_gifts) (gd : Gd (cxOf (L2.CX P w) P w K mg base N_rights_of "rights_of" (defScope (top 44)) f cdv A outer s H E) (fun c d _ H => E c d H) (k + 1)) :
    SSs (cxOf (L2.CX P w) P w K mg base N_rights_of "rights_of" (defScope (top 44)) f cdv A outer s H E) ⟨[], [], false⟩ (fun c d _ H => E c d H) (defBody (top 44)) b_rights_of :=
  (ss_cons (s_expr (SP.se (sp_call gd k_check_hand rfl (SPs.cons (sp_v rfl rfl (by first | exact .inl rfl | exact .inr (.inl rfl) | exact .inr (.inr rfl))) (SPs.cons (sp_v rfl rfl (by first | exact .inl rfl | exact .inr (.inl rfl) | exact .inr (.inr rfl))) SPs.nil)))))
  (ss_one (s_ret rfl (SP.se (sp_call gd k_gifts rfl (SPs.cons (sp_v rfl rfl (by first | exact .inl rfl | exact .inr (.inl rfl) | exact .inr (.inr rfl))) (SPs.cons (sp_v rfl rfl (by first | exact .inl rfl | exact .inr (.inl rfl) | exact .inr (.inr rfl))) SPs.nil)))))))
theorem f_rights_of {k : Nat} (h : Fc K mg) (k_check_hand : Cal P w K mg base (k + 1) "check_hand" 2 [] false [] c_check_hand) (k_gifts : Cal P w K mg base (k + 1) "gifts" 2 [] false [] c_gifts) (F : FunD K "rights_of" "rights_of" (defArgs (top 44)) (defBody (top 44)) (defScope (top 44)) [] [] f fd) : FnOk P w K mg base (L2.CX P w) (k + 2) f fd ["book", "hand"] (spC K 2 [] false c_rights_of) :=
  spC_cong p_rights_of.eq ▸ fn_mk F sc_rights_of rfl (by decide) fun cdv A outer s H E hr => d_rights_of h k_check_hand k_gifts (gd_of sc_rights_of.nd hr)
def b_judged : Rf.Env → Fl := (seqB (sDrop (lift (nd (gCall 2 [] c_check_hand) [(eVar 0), (eVar 1)])))
  (seqB (sSet 2 (lift (nd (gCall 2 [] c_bar_of) [(ePrp "Book" "rules" c_Book_rules (eVar 0)), (eVar 1)])))
  (sRet (lift (vIf (fun env => asB ((nd (g2 (fIs false)) [(eVar 2), (eC .non)]) env)) (nd gTupD [(eC (.str "let"))]) (nd gTupD [(eC (.str "barred")), (eVar 2)]))))))
def c0_judged : List D → C := runB 3 2 [] b_judged
def p_judged : Pe2 c0_judged where
  f := _
  ok := fun a b => by
    simp only [c0_judged, b_judged, runB, env0, outs, w_ret, w_nil, w_bad, w_seq, w_ifL, w_if, w_setL, w_setLL, w_dropL, w_retL, w_retLL, w_nd0, w_nd1, w_nd2, w_nd3, g1, g2, eVar, eC, eComp, compF_gN, compF_gT, Tst.f, wipeE, mkL, O.bind, bAnd, bOr, bNot, vAnd, vOr, vNot, vIf, eChain, eSl, eSlL, oNone, oSome, eTupS, eLstS, seqSt, eBm, eMeth, gMeth, ePrp, gCall, keepI, noX, seqF, List.length_cons, List.length_nil, List.map_cons, List.map_nil, List.cons_append, List.nil_append, List.set_cons_zero, List.set_cons_succ, List.getElem?_cons_zero, List.getElem?_cons_succ, List.replicate_succ, List.replicate_zero, Nat.reduceAdd, Nat.reduceSub, Bool.true_or, Bool.false_or, Bool.true_and]
    rfl
def c_judged : List D → C := p_judged.c
abbrev N_judged : List Str := ["book", "hand", "number"]
theorem sc_judged : FnScope N_judged ["book", "hand"] (defScope (top 45)) := ⟨rfl, rfl, rfl, by decide +kernel, rfl, by decide +kernel, by decide +kernel⟩
theorem d_judged {cdv : Value} {A : Around} {outer : List PySem.Env} {s : Shared} {H : Hp} {E : XK} {k : Nat} (h : Fc K mg) (k_check_hand : Cal P w K mg base (k + 1) "check_hand" 2 [] false [] c_check_hand) (k_bar_of : Cal P w K mg base (k + 1) "bar_of" 2 [] false [] c_bar_of) (k_Book_rules : Prp P w K mg base k "Book" "rules" false c_Book_rules) (gd : Gd (cxOf (L2.CX P w) P w K mg base N_judged "judged" (defScope (top 45)) f cdv A outer s H E) (fun c d _ H => E c d H) (k + 1)) :
    SSs (cxOf (L2.CX P w) P w K mg base N_judged "judged" (defScope (top 45)) f cdv A outer s H E) ⟨[], [], false⟩ (fun c d _ H => E c d H) (defBody (top 45)) b_judged :=
  (ss_cons (s_expr (SP.se (sp_call gd k_check_hand rfl (SPs.cons (sp_v rfl rfl (by first | exact .inl rfl | exact .inr (.inl rfl) | exact .inr (.inr rfl))) (SPs.cons (sp_v rfl rfl (by first | exact .inl rfl | exact .inr (.inl rfl) | exact .inr (.inr rfl))) SPs.nil)))))
  (ss_cons (s_set rfl rfl (asgE gd.nd rfl (by first | exact .inl rfl | exact .inr rfl) (SP.se (sp_call gd k_bar_of rfl (SPs.cons (sp_prop gd k_Book_rules (sp_v rfl rfl (by first | exact .inl rfl | exact .inr (.inl rfl) | exact .inr (.inr rfl)))) (SPs.cons (sp_v rfl rfl (by first | exact .inl rfl | exact .inr (.inl rfl) | exact .inr (.inr rfl))) SPs.nil))))))
  (ss_one (s_ret rfl (SP.se (sp_if (st_cmp op_isN v2_is (sp_v rfl rfl (by first | exact .inl rfl | exact .inr (.inl rfl) | exact .inr (.inr rfl))) sp_non) (sp_tup (SPs.cons (sp_gstr rfl h.g_LET) SPs.nil)) (sp_tup (SPs.cons (sp_gstr rfl h.g_BARRED) (SPs.cons (sp_v rfl rfl (by first | exact .inl rfl | exact .inr (.inl rfl) | exact .inr (.inr rfl))) SPs.nil)))))))))
theorem f_judged {k : Nat} (h : Fc K mg) (k_check_hand : Cal P w K mg base (k + 1) "check_hand" 2 [] false [] c_check_hand) (k_bar_of : Cal P w K mg base (k + 1) "bar_of" 2 [] false [] c_bar_of) (k_Book_rules : Prp P w K mg base k "Book" "rules" false c_Book_rules) (F : FunD K "judged" "judged" (defArgs (top 45)) (defBody (top 45)) (defScope (top 45)) [] [] f fd) : FnOk P w K mg base (L2.CX P w) (k + 2) f fd ["book", "hand"] (spC K 2 [] false c_judged) :=
  spC_cong p_judged.eq ▸ fn_mk F sc_judged rfl (by decide) fun cdv A outer s H E hr => d_judged h k_check_hand k_bar_of k_Book_rules (gd_of sc_judged.nd hr)
def b_greatest : Rf.Env → Fl := (sRet (lift (nd (g1 fTuple) [(fun env => mkL ((nd (g1 fSort) [(nd (gCall 1 [] c_greatest_of) [(nd (gCall 1 [] c_let_hands) [(eVar 0)])])]) env))])))
def c0_greatest : List D → C := runB 1 1 [] b_greatest
def p_greatest : Pe1 c0_greatest where
  f := _
  ok := fun a => by
    simp only [c0_greatest, b_greatest, runB, env0, outs, w_ret, w_nil, w_bad, w_seq, w_ifL, w_if, w_setL, w_setLL, w_dropL, w_retL, w_retLL, w_nd0, w_nd1, w_nd2, w_nd3, g1, g2, eVar, eC, eComp, compF_gN, compF_gT, Tst.f, wipeE, mkL, O.bind, bAnd, bOr, bNot, vAnd, vOr, vNot, vIf, eChain, eSl, eSlL, oNone, oSome, eTupS, eLstS, seqSt, eBm, eMeth, gMeth, ePrp, gCall, keepI, noX, seqF, List.length_cons, List.length_nil, List.map_cons, List.map_nil, List.cons_append, List.nil_append, List.set_cons_zero, List.set_cons_succ, List.getElem?_cons_zero, List.getElem?_cons_succ, List.replicate_succ, List.replicate_zero, Nat.reduceAdd, Nat.reduceSub, Bool.true_or, Bool.false_or, Bool.true_and]
    rfl
def c_greatest : List D → C := p_greatest.c
abbrev N_greatest : List Str := ["book"]
theorem sc_greatest : FnScope N_greatest ["book"] (defScope (top 46)) := ⟨rfl, rfl, rfl, by decide +kernel, rfl, by decide +kernel, by decide +kernel⟩
theorem d_greatest {cdv : Value} {A : Around} {outer : List PySem.Env} {s : Shared} {H : Hp} {E : XK} {k : Nat} (h : Fc K mg) (k_greatest_of : Cal P w K mg base (k + 1) "greatest_of" 1 [] false [] c_greatest_of) (k_let_hands : Cal P w K mg base (k + 1) "let_hands" 1 [] false [] c_let_hands) (gd : Gd (cxOf (L2.CX P w) P w K mg base N_greatest "greatest" (defScope (top 46)) f cdv A outer s H E) (fun c d _ H => E c d H) (k + 1)) :
    SSs (cxOf (L2.CX P w) P w K mg base N_greatest "greatest" (defScope (top 46)) f cdv A outer s H E) ⟨[], [], false⟩ (fun c d _ H => E c d H) (defBody (top 46)) b_greatest :=
  (ss_one (s_ret rfl (SP.se (sp_t1 call_tuple_of vc_tuple rfl h.n_tuple boot_tuple (SPL.sp (spl_b1 (cr_sortD gd.hu64) vc_sort rfl h.n_sorted Rf.boot_sorted (sp_call gd k_greatest_of rfl (SPs.cons (sp_call gd k_let_hands rfl (SPs.cons (sp_v rfl rfl (by first | exact .inl rfl | exact .inr (.inl rfl) | exact .inr (.inr rfl))) SPs.nil)) SPs.nil))))))))
theorem f_greatest {k : Nat} (h : Fc K mg) (k_greatest_of : Cal P w K mg base (k + 1) "greatest_of" 1 [] false [] c_greatest_of) (k_let_hands : Cal P w K mg base (k + 1) "let_hands" 1 [] false [] c_let_hands) (F : FunD K "greatest" "greatest" (defArgs (top 46)) (defBody (top 46)) (defScope (top 46)) [] [] f fd) : FnOk P w K mg base (L2.CX P w) (k + 2) f fd ["book"] (spC K 1 [] false c_greatest) :=
  spC_cong p_greatest.eq ▸ fn_mk F sc_greatest rfl (by decide) fun cdv A outer s H E hr => d_greatest h k_greatest_of k_let_hands (gd_of sc_greatest.nd hr)
def b_bars : Rf.Env → Fl := (sRet (lift (nd (gCall 2 [] c_bars_of) [(eVar 0), (nd (gCall 1 [] c_let_hands) [(eVar 0)])])))
def c0_bars : List D → C := runB 1 1 [] b_bars
def p_bars : Pe1 c0_bars where
  f := _
  ok := fun a => by
    simp only [c0_bars, b_bars, runB, env0, outs, w_ret, w_nil, w_bad, w_seq, w_ifL, w_if, w_setL, w_setLL, w_dropL, w_retL, w_retLL, w_nd0, w_nd1, w_nd2, w_nd3, g1, g2, eVar, eC, eComp, compF_gN, compF_gT, Tst.f, wipeE, mkL, O.bind, bAnd, bOr, bNot, vAnd, vOr, vNot, vIf, eChain, eSl, eSlL, oNone, oSome, eTupS, eLstS, seqSt, eBm, eMeth, gMeth, ePrp, gCall, keepI, noX, seqF, List.length_cons, List.length_nil, List.map_cons, List.map_nil, List.cons_append, List.nil_append, List.set_cons_zero, List.set_cons_succ, List.getElem?_cons_zero, List.getElem?_cons_succ, List.replicate_succ, List.replicate_zero, Nat.reduceAdd, Nat.reduceSub, Bool.true_or, Bool.false_or, Bool.true_and]
    rfl
def c_bars : List D → C := p_bars.c
abbrev N_bars : List Str := ["book"]
theorem sc_bars : FnScope N_bars ["book"] (defScope (top 47)) := ⟨rfl, rfl, rfl, by decide +kernel, rfl, by decide +kernel, by decide +kernel⟩
theorem d_bars {cdv : Value} {A : Around} {outer : List PySem.Env} {s : Shared} {H : Hp} {E : XK} {k : Nat} (h : Fc K mg) (k_bars_of : Cal P w K mg base (k + 1) "bars_of" 2 [] false [] c_bars_of) (k_let_hands : Cal P w K mg base (k + 1) "let_hands" 1 [] false [] c_let_hands) (gd : Gd (cxOf (L2.CX P w) P w K mg base N_bars "bars" (defScope (top 47)) f cdv A outer s H E) (fun c d _ H => E c d H) (k + 1)) :
    SSs (cxOf (L2.CX P w) P w K mg base N_bars "bars" (defScope (top 47)) f cdv A outer s H E) ⟨[], [], false⟩ (fun c d _ H => E c d H) (defBody (top 47)) b_bars :=
  (ss_one (s_ret rfl (SP.se (sp_call gd k_bars_of rfl (SPs.cons (sp_v rfl rfl (by first | exact .inl rfl | exact .inr (.inl rfl) | exact .inr (.inr rfl))) (SPs.cons (sp_call gd k_let_hands rfl (SPs.cons (sp_v rfl rfl (by first | exact .inl rfl | exact .inr (.inl rfl) | exact .inr (.inr rfl))) SPs.nil)) SPs.nil))))))
theorem f_bars {k : Nat} (h : Fc K mg) (k_bars_of : Cal P w K mg base (k + 1) "bars_of" 2 [] false [] c_bars_of) (k_let_hands : Cal P w K mg base (k + 1) "let_hands" 1 [] false [] c_let_hands) (F : FunD K "bars" "bars" (defArgs (top 47)) (defBody (top 47)) (defScope (top 47)) [] [] f fd) : FnOk P w K mg base (L2.CX P w) (k + 2) f fd ["book"] (spC K 1 [] false c_bars) :=
  spC_cong p_bars.eq ▸ fn_mk F sc_bars rfl (by decide) fun cdv A outer s H E hr => d_bars h k_bars_of k_let_hands (gd_of sc_bars.nd hr)
def b_is_dealing : Rf.Env → Fl := (sRet (lift (vAnd (nd (gCall 3 [] c_is_tuple) [(eVar 1), (eC (.int 1)), (eVar 2)]) (nd (g1 fAll) [(fun env => mkL ((eComp true [3] (fun env => itA ((eVar 1) env)) (gN 3) (Tst.f Tst.no) (nd (gCall 2 [] c_is_hand) [(eVar 0), (eVar 3)])) env))]))))
def c0_is_dealing : List D → C := runB 4 3 [] b_is_dealing
def p_is_dealing : Pe3 c0_is_dealing where
  f := _
  ok := fun a b d => by
    simp only [c0_is_dealing, b_is_dealing, runB, env0, outs, w_ret, w_nil, w_bad, w_seq, w_ifL, w_if, w_setL, w_setLL, w_dropL, w_retL, w_retLL, w_nd0, w_nd1, w_nd2, w_nd3, g1, g2, eVar, eC, eComp, compF_gN, compF_gT, Tst.f, wipeE, mkL, O.bind, bAnd, bOr, bNot, vAnd, vOr, vNot, vIf, eChain, eSl, eSlL, oNone, oSome, eTupS, eLstS, seqSt, eBm, eMeth, gMeth, ePrp, gCall, keepI, noX, seqF, List.length_cons, List.length_nil, List.map_cons, List.map_nil, List.cons_append, List.nil_append, List.set_cons_zero, List.set_cons_succ, List.getElem?_cons_zero, List.getElem?_cons_succ, List.replicate_succ, List.replicate_zero, Nat.reduceAdd, Nat.reduceSub, Bool.true_or, Bool.false_or, Bool.true_and]
    rfl
def c_is_dealing : List D → C := p_is_dealing.c
abbrev N_is_dealing : List Str := ["book", "value", "most", "hand"]
theorem sc_is_dealing : FnScope N_is_dealing ["book", "value", "most"] (defScope (top 77)) := ⟨rfl, rfl, rfl, by decide +kernel, rfl, by decide +kernel, by decide +kernel⟩
theorem d_is_dealing {cdv : Value} {A : Around} {outer : List PySem.Env} {s : Shared} {H : Hp} {E : XK} {k : Nat} (h : Fc K mg) (k_is_hand : Cal P w K mg base (k + 1) "is_hand" 2 [] false [] c_is_hand) (k_is_tuple : Cal P w K mg base (k + 1) "is_tuple" 3 [] false [] c_is_tuple) (gd : Gd (cxOf (L2.CX P w) P w K mg base N_is_dealing "is_dealing" (defScope (top 77)) f cdv A outer s H E) (fun c d _ H => E c d H) (k + 1)) :
    SSs (cxOf (L2.CX P w) P w K mg base N_is_dealing "is_dealing" (defScope (top 77)) f cdv A outer s H E) ⟨[], [], false⟩ (fun c d _ H => E c d H) (defBody (top 77)) b_is_dealing :=
  (ss_one (s_ret rfl (SP.se (sp_and (sp_call gd k_is_tuple rfl (SPs.cons (sp_v rfl rfl (by first | exact .inl rfl | exact .inr (.inl rfl) | exact .inr (.inr rfl))) (SPs.cons sp_int (SPs.cons (sp_v rfl rfl (by first | exact .inl rfl | exact .inr (.inl rfl) | exact .inr (.inr rfl))) SPs.nil)))) (sp_one (sp_b1 (cr_all gd.calm) vc_all rfl h.n_all boot_all (SPL.sp (spl_comp (own := [("hand", 3)]) (T := Tst.no) gd ⟨(si_any (sp_v rfl rfl (by first | exact .inl rfl | exact .inr (.inl rfl) | exact .inr (.inr rfl)))), (blkOk_by (N := N_is_dealing) (sc := (defScope (top 77))) (own := [("hand", 3)]) (by decide +kernel)), fun _ _ _ _ _ => (sg_name rfl rfl gd.blk.nd rfl (by first | exact .inl rfl | exact .inr rfl)), fun _ _ _ _ _ => trivial, fun _ _ _ _ _ => (sp_call gd.blk k_is_hand rfl (SPs.cons (sp_v rfl rfl (by first | exact .inl rfl | exact .inr (.inl rfl) | exact .inr (.inr rfl))) (SPs.cons (sp_v rfl rfl (by first | exact .inl rfl | exact .inr (.inl rfl) | exact .inr (.inr rfl))) SPs.nil)))⟩))))))))
theorem f_is_dealing {k : Nat} (h : Fc K mg) (k_is_hand : Cal P w K mg base (k + 1) "is_hand" 2 [] false [] c_is_hand) (k_is_tuple : Cal P w K mg base (k + 1) "is_tuple" 3 [] false [] c_is_tuple) (F : FunD K "is_dealing" "is_dealing" (defArgs (top 77)) (defBody (top 77)) (defScope (top 77)) [.int 8] [] f fd) : FnOk P w K mg base (L2.CX P w) (k + 2) f fd ["book", "value", "most"] (spC K 3 [] false c_is_dealing) :=
  spC_cong p_is_dealing.eq ▸ fn_mk F sc_is_dealing rfl (by decide) fun cdv A outer s H E hr => d_is_dealing h k_is_hand k_is_tuple (gd_of sc_is_dealing.nd hr)
def b_check_dealing : Rf.Env → Fl := (sIf (liftB (bNot (fun env => asB ((nd (gCall 2 [(.int 8)] c_is_dealing) [(eVar 0), (eVar 1)]) env)))) sBad sNil)
def c0_check_dealing : List D → C := runB 2 2 [] b_check_dealing
def p_check_dealing : Pe2 c0_check_dealing where
  f := _
  ok := fun a b => by
    simp only [c0_check_dealing, b_check_dealing, runB, env0, outs, w_ret, w_nil, w_bad, w_seq, w_ifL, w_if, w_setL, w_setLL, w_dropL, w_retL, w_retLL, w_nd0, w_nd1, w_nd2, w_nd3, g1, g2, eVar, eC, eComp, compF_gN, compF_gT, Tst.f, wipeE, mkL, O.bind, bAnd, bOr, bNot, vAnd, vOr, vNot, vIf, eChain, eSl, eSlL, oNone, oSome, eTupS, eLstS, seqSt, eBm, eMeth, gMeth, ePrp, gCall, keepI, noX, seqF, List.length_cons, List.length_nil, List.map_cons, List.map_nil, List.cons_append, List.nil_append, List.set_cons_zero, List.set_cons_succ, List.getElem?_cons_zero, List.getElem?_cons_succ, List.replicate_succ, List.replicate_zero, Nat.reduceAdd, Nat.reduceSub, Bool.true_or, Bool.false_or, Bool.true_and]
    rfl
def c_check_dealing : List D → C := p_check_dealing.c
abbrev N_check_dealing : List Str := ["book", "dealing"]
theorem sc_check_dealing : FnScope N_check_dealing ["book", "dealing"] (defScope (top 78)) := ⟨rfl, rfl, rfl, by decide +kernel, rfl, by decide +kernel, by decide +kernel⟩
theorem d_check_dealing {cdv : Value} {A : Around} {outer : List PySem.Env} {s : Shared} {H : Hp} {E : XK} {k : Nat} (h : Fc K mg) (k_is_dealing_2 : Cal P w K mg base (k + 1) "is_dealing" 2 [] false [(.int 8)] c_is_dealing) (gd : Gd (cxOf (L2.CX P w) P w K mg base N_check_dealing "check_dealing" (defScope (top 78)) f cdv A outer s H E) (fun c d _ H => E c d H) (k + 1)) :
    SSs (cxOf (L2.CX P w) P w K mg base N_check_dealing "check_dealing" (defScope (top 78)) f cdv A outer s H E) ⟨[], [], false⟩ (fun c d _ H => E c d H) (defBody (top 78)) b_check_dealing :=
  (ss_one (s_if (STp.ste (st_not (st_val (sp_call gd k_is_dealing_2 rfl (SPs.cons (sp_v rfl rfl (by first | exact .inl rfl | exact .inr (.inl rfl) | exact .inr (.inr rfl))) (SPs.cons (sp_v rfl rfl (by first | exact .inl rfl | exact .inr (.inl rfl) | exact .inr (.inr rfl))) SPs.nil)))))) (ss_one s_bad) ss_nil))
theorem f_check_dealing {k : Nat} (h : Fc K mg) (k_is_dealing_2 : Cal P w K mg base (k + 1) "is_dealing" 2 [] false [(.int 8)] c_is_dealing) (F : FunD K "check_dealing" "check_dealing" (defArgs (top 78)) (defBody (top 78)) (defScope (top 78)) [] [] f fd) : FnOk P w K mg base (L2.CX P w) (k + 2) f fd ["book", "dealing"] (spC K 2 [] false c_check_dealing) :=
  spC_cong p_check_dealing.eq ▸ fn_mk F sc_check_dealing rfl (by decide) fun cdv A outer s H E hr => d_check_dealing h k_is_dealing_2 (gd_of sc_check_dealing.nd hr)
def b_mask_by : Rf.Env → Fl := (sRet (lift (nd (g1 fSumX) [(fun env => mkL ((eComp true [2, 3] (nd (g2 itZip) [(eC (.tup v_POWERS)), (eVar 0)]) (gT 2 (gsC (gN 2) (gsC (gN 3) gsN))) (Tst.f (Tst.one (fun env => asB ((nd (g2 (fIn false)) [(eVar 3), (eVar 1)]) env)))) (eVar 2)) env))])))
def c0_mask_by : List D → C := runB 4 2 [] b_mask_by
def p_mask_by : Pe2 c0_mask_by where
  f := _
  ok := fun a b => by
    simp only [c0_mask_by, b_mask_by, runB, env0, outs, w_ret, w_nil, w_bad, w_seq, w_ifL, w_if, w_setL, w_setLL, w_dropL, w_retL, w_retLL, w_nd0, w_nd1, w_nd2, w_nd3, g1, g2, eVar, eC, eComp, compF_gN, compF_gT, Tst.f, wipeE, mkL, O.bind, bAnd, bOr, bNot, vAnd, vOr, vNot, vIf, eChain, eSl, eSlL, oNone, oSome, eTupS, eLstS, seqSt, eBm, eMeth, gMeth, ePrp, gCall, keepI, noX, seqF, List.length_cons, List.length_nil, List.map_cons, List.map_nil, List.cons_append, List.nil_append, List.set_cons_zero, List.set_cons_succ, List.getElem?_cons_zero, List.getElem?_cons_succ, List.replicate_succ, List.replicate_zero, Nat.reduceAdd, Nat.reduceSub, Bool.true_or, Bool.false_or, Bool.true_and]
    rfl
def c_mask_by : List D → C := p_mask_by.c
abbrev N_mask_by : List Str := ["rights", "mine", "power", "right"]
theorem sc_mask_by : FnScope N_mask_by ["rights", "mine"] (defScope (top 79)) := ⟨rfl, rfl, rfl, by decide +kernel, rfl, by decide +kernel, by decide +kernel⟩
theorem d_mask_by {cdv : Value} {A : Around} {outer : List PySem.Env} {s : Shared} {H : Hp} {E : XK} {k : Nat} (h : Fc K mg)  (gd : Gd (cxOf (L2.CX P w) P w K mg base N_mask_by "mask_by" (defScope (top 79)) f cdv A outer s H E) (fun c d _ H => E c d H) (k + 1)) :
    SSs (cxOf (L2.CX P w) P w K mg base N_mask_by "mask_by" (defScope (top 79)) f cdv A outer s H E) ⟨[], [], false⟩ (fun c d _ H => E c d H) (defBody (top 79)) b_mask_by :=
  (ss_one (s_ret rfl (SP.se (sp_b1 (call_sumX gd.calm) vc_sumX rfl h.n_sum boot_sum (SPL.sp (spl_comp (own := [("power", 2), ("right", 3)]) (T := (Tst.one (fun env => asB ((nd (g2 (fIn false)) [(eVar 3), (eVar 1)]) env)))) gd ⟨(si_zip rfl h.n_zip (sp_glob rfl h.g_POWERS h.r_POWERS) (sp_v rfl rfl (by first | exact .inl rfl | exact .inr (.inl rfl) | exact .inr (.inr rfl)))), (blkOk_by (N := N_mask_by) (sc := (defScope (top 79))) (own := [("power", 2), ("right", 3)]) (by decide +kernel)), fun _ _ _ _ _ => (sg_tup (sgs_cons (sg_name rfl rfl gd.blk.nd rfl (by first | exact .inl rfl | exact .inr rfl)) (sgs_cons (sg_name rfl rfl gd.blk.nd rfl (by first | exact .inl rfl | exact .inr rfl)) sgs_nil)) fun t h => pg_tup gd.blk.calm h), fun _ _ _ _ _ => (st_cmp (op_inAll gd.hu) (v2_in false) (sp_v rfl rfl (by first | exact .inl rfl | exact .inr (.inl rfl) | exact .inr (.inr rfl))) (sp_v rfl rfl (by first | exact .inl rfl | exact .inr (.inl rfl) | exact .inr (.inr rfl)))), fun _ _ _ _ _ => (sp_v rfl rfl (by first | exact .inl rfl | exact .inr (.inl rfl) | exact .inr (.inr rfl)))⟩))))))
theorem f_mask_by {k : Nat} (h : Fc K mg)  (F : FunD K "mask_by" "mask_by" (defArgs (top 79)) (defBody (top 79)) (defScope (top 79)) [] [] f fd) : FnOk P w K mg base (L2.CX P w) (k + 2) f fd ["rights", "mine"] (spC K 2 [] false c_mask_by) :=
  spC_cong p_mask_by.eq ▸ fn_mk F sc_mask_by rfl (by decide) fun cdv A outer s H E hr => d_mask_by h  (gd_of sc_mask_by.nd hr)
def b_mask_of : Rf.Env → Fl := (sRet (lift (nd (gCall 2 [] c_mask_by) [(eVar 2), (nd (gCall 2 [] c_gifts) [(eVar 0), (eVar 1)])])))
def c0_mask_of : List D → C := runB 3 3 [] b_mask_of
def p_mask_of : Pe3 c0_mask_of where
  f := _
  ok := fun a b d => by
    simp only [c0_mask_of, b_mask_of, runB, env0, outs, w_ret, w_nil, w_bad, w_seq, w_ifL, w_if, w_setL, w_setLL, w_dropL, w_retL, w_retLL, w_nd0, w_nd1, w_nd2, w_nd3, g1, g2, eVar, eC, eComp, compF_gN, compF_gT, Tst.f, wipeE, mkL, O.bind, bAnd, bOr, bNot, vAnd, vOr, vNot, vIf, eChain, eSl, eSlL, oNone, oSome, eTupS, eLstS, seqSt, eBm, eMeth, gMeth, ePrp, gCall, keepI, noX, seqF, List.length_cons, List.length_nil, List.map_cons, List.map_nil, List.cons_append, List.nil_append, List.set_cons_zero, List.set_cons_succ, List.getElem?_cons_zero, List.getElem?_cons_succ, List.replicate_succ, List.replicate_zero, Nat.reduceAdd, Nat.reduceSub, Bool.true_or, Bool.false_or, Bool.true_and]
    rfl
def c_mask_of : List D → C := p_mask_of.c
abbrev N_mask_of : List Str := ["book", "hand", "rights"]
theorem sc_mask_of : FnScope N_mask_of ["book", "hand", "rights"] (defScope (top 80)) := ⟨rfl, rfl, rfl, by decide +kernel, rfl, by decide +kernel, by decide +kernel⟩
theorem d_mask_of {cdv : Value} {A : Around} {outer : List PySem.Env} {s : Shared} {H : Hp} {E : XK} {k : Nat} (h : Fc K mg) (k_mask_by : Cal P w K mg base (k + 1) "mask_by" 2 [] false [] c_mask_by) (k_gifts : Cal P w K mg base (k + 1) "gifts" 2 [] false [] c_gifts) (gd : Gd (cxOf (L2.CX P w) P w K mg base N_mask_of "mask_of" (defScope (top 80)) f cdv A outer s H E) (fun c d _ H => E c d H) (k + 1)) :
    SSs (cxOf (L2.CX P w) P w K mg base N_mask_of "mask_of" (defScope (top 80)) f cdv A outer s H E) ⟨[], [], false⟩ (fun c d _ H => E c d H) (defBody (top 80)) b_mask_of :=
  (ss_one (s_ret rfl (SP.se (sp_call gd k_mask_by rfl (SPs.cons (sp_v rfl rfl (by first | exact .inl rfl | exact .inr (.inl rfl) | exact .inr (.inr rfl))) (SPs.cons (sp_call gd k_gifts rfl (SPs.cons (sp_v rfl rfl (by first | exact .inl rfl | exact .inr (.inl rfl) | exact .inr (.inr rfl))) (SPs.cons (sp_v rfl rfl (by first | exact .inl rfl | exact .inr (.inl rfl) | exact .inr (.inr rfl))) SPs.nil))) SPs.nil))))))
theorem f_mask_of {k : Nat} (h : Fc K mg) (k_mask_by : Cal P w K mg base (k + 1) "mask_by" 2 [] false [] c_mask_by) (k_gifts : Cal P w K mg base (k + 1) "gifts" 2 [] false [] c_gifts) (F : FunD K "mask_of" "mask_of" (defArgs (top 80)) (defBody (top 80)) (defScope (top 80)) [] [] f fd) : FnOk P w K mg base (L2.CX P w) (k + 2) f fd ["book", "hand", "rights"] (spC K 3 [] false c_mask_of) :=
  spC_cong p_mask_of.eq ▸ fn_mk F sc_mask_of rfl (by decide) fun cdv A outer s H E hr => d_mask_of h k_mask_by k_gifts (gd_of sc_mask_of.nd hr)
def b_joined_mask : Rf.Env → Fl := (seqB (sSet 1 (lift (eC (.int 0))))
  (seqB (sFor (fun env => ((fun env => itA ((eVar 0) env)) env).at env) (gN 2) (sAug 1 fOr (lift (eVar 2))))
  (sRet (lift (eVar 1)))))
def c0_joined_mask : List D → C := runB 3 1 [] b_joined_mask
def p_joined_mask : Pe1 c0_joined_mask where
  f := _
  ok := fun a => by
    simp only [c0_joined_mask, b_joined_mask, runB, env0, outs, w_ret, w_nil, w_bad, w_seq, w_ifL, w_if, w_setL, w_setLL, w_dropL, w_retL, w_retLL, w_nd0, w_nd1, w_nd2, w_nd3, g1, g2, eVar, eC, eComp, compF_gN, compF_gT, Tst.f, wipeE, mkL, O.bind, bAnd, bOr, bNot, vAnd, vOr, vNot, vIf, eChain, eSl, eSlL, oNone, oSome, eTupS, eLstS, seqSt, eBm, eMeth, gMeth, ePrp, gCall, keepI, noX, seqF, List.length_cons, List.length_nil, List.map_cons, List.map_nil, List.cons_append, List.nil_append, List.set_cons_zero, List.set_cons_succ, List.getElem?_cons_zero, List.getElem?_cons_succ, List.replicate_succ, List.replicate_zero, Nat.reduceAdd, Nat.reduceSub, Bool.true_or, Bool.false_or, Bool.true_and]
    rfl
def c_joined_mask : List D → C := p_joined_mask.c
abbrev N_joined_mask : List Str := ["masks", "found", "mask"]
theorem sc_joined_mask : FnScope N_joined_mask ["masks"] (defScope (top 81)) := ⟨rfl, rfl, rfl, by decide +kernel, rfl, by decide +kernel, by decide +kernel⟩
theorem d_joined_mask {cdv : Value} {A : Around} {outer : List PySem.Env} {s : Shared} {H : Hp} {E : XK} {k : Nat} (h : Fc K mg)  (gd : Gd (cxOf (L2.CX P w) P w K mg base N_joined_mask "joined_mask" (defScope (top 81)) f cdv A outer s H E) (fun c d _ H => E c d H) (k + 1)) :
    SSs (cxOf (L2.CX P w) P w K mg base N_joined_mask "joined_mask" (defScope (top 81)) f cdv A outer s H E) ⟨[], [], false⟩ (fun c d _ H => E c d H) (defBody (top 81)) b_joined_mask :=
  (ss_cons (s_set rfl rfl (asgE gd.nd rfl (by first | exact .inl rfl | exact .inr rfl) (SP.se sp_int)))
  (ss_cons (s_for (vs := [2]) gd (SI.sie (si_any (sp_v rfl rfl (by first | exact .inl rfl | exact .inr (.inl rfl) | exact .inr (.inr rfl))))) (sg_name rfl rfl gd.nd rfl (by first | exact .inl rfl | exact .inr rfl)) rfl (ss_one (s_aug iop_or v2_or gd.nd rfl (by first | exact .inl rfl | exact .inr rfl) (SP.se (sp_v rfl rfl (by first | exact .inl rfl | exact .inr (.inl rfl) | exact .inr (.inr rfl)))))))
  (ss_one (s_ret rfl (SP.se (sp_v rfl rfl (by first | exact .inl rfl | exact .inr (.inl rfl) | exact .inr (.inr rfl))))))))
theorem f_joined_mask {k : Nat} (h : Fc K mg)  (F : FunD K "joined_mask" "joined_mask" (defArgs (top 81)) (defBody (top 81)) (defScope (top 81)) [] [] f fd) : FnOk P w K mg base (L2.CX P w) (k + 2) f fd ["masks"] (spC K 1 [] false c_joined_mask) :=
  spC_cong p_joined_mask.eq ▸ fn_mk F sc_joined_mask rfl (by decide) fun cdv A outer s H E hr => d_joined_mask h  (gd_of sc_joined_mask.nd hr)
def b_whole_of : Rf.Env → Fl := (sRet (lift (nd (g1 fSumX) [(eSl (eC (.tup v_POWERS)) oNone (oSome (nd (g1 fLenX) [(eVar 0)])))])))
def c0_whole_of : List D → C := runB 1 1 [] b_whole_of
def p_whole_of : Pe1 c0_whole_of where
  f := _
  ok := fun a => by
    simp only [c0_whole_of, b_whole_of, runB, env0, outs, w_ret, w_nil, w_bad, w_seq, w_ifL, w_if, w_setL, w_setLL, w_dropL, w_retL, w_retLL, w_nd0, w_nd1, w_nd2, w_nd3, g1, g2, eVar, eC, eComp, compF_gN, compF_gT, Tst.f, wipeE, mkL, O.bind, bAnd, bOr, bNot, vAnd, vOr, vNot, vIf, eChain, eSl, eSlL, oNone, oSome, eTupS, eLstS, seqSt, eBm, eMeth, gMeth, ePrp, gCall, keepI, noX, seqF, List.length_cons, List.length_nil, List.map_cons, List.map_nil, List.cons_append, List.nil_append, List.set_cons_zero, List.set_cons_succ, List.getElem?_cons_zero, List.getElem?_cons_succ, List.replicate_succ, List.replicate_zero, Nat.reduceAdd, Nat.reduceSub, Bool.true_or, Bool.false_or, Bool.true_and]
    rfl
def c_whole_of : List D → C := p_whole_of.c
abbrev N_whole_of : List Str := ["rights"]
theorem sc_whole_of : FnScope N_whole_of ["rights"] (defScope (top 82)) := ⟨rfl, rfl, rfl, by decide +kernel, rfl, by decide +kernel, by decide +kernel⟩
theorem d_whole_of {cdv : Value} {A : Around} {outer : List PySem.Env} {s : Shared} {H : Hp} {E : XK} {k : Nat} (h : Fc K mg)  (gd : Gd (cxOf (L2.CX P w) P w K mg base N_whole_of "whole_of" (defScope (top 82)) f cdv A outer s H E) (fun c d _ H => E c d H) (k + 1)) :
    SSs (cxOf (L2.CX P w) P w K mg base N_whole_of "whole_of" (defScope (top 82)) f cdv A outer s H E) ⟨[], [], false⟩ (fun c d _ H => E c d H) (defBody (top 82)) b_whole_of :=
  (ss_one (s_ret rfl (SP.se (sp_b1 (call_sumX gd.calm) vc_sumX rfl h.n_sum boot_sum (sp_sl (sp_glob rfl h.g_POWERS h.r_POWERS) spo_none (spo_some (sp_b1 call_lenX vc_lenX rfl h.n_len boot_len (sp_v rfl rfl (by first | exact .inl rfl | exact .inr (.inl rfl) | exact .inr (.inr rfl))))))))))
theorem f_whole_of {k : Nat} (h : Fc K mg)  (F : FunD K "whole_of" "whole_of" (defArgs (top 82)) (defBody (top 82)) (defScope (top 82)) [] [] f fd) : FnOk P w K mg base (L2.CX P w) (k + 2) f fd ["rights"] (spC K 1 [] false c_whole_of) :=
  spC_cong p_whole_of.eq ▸ fn_mk F sc_whole_of rfl (by decide) fun cdv A outer s H E hr => d_whole_of h  (gd_of sc_whole_of.nd hr)
def b_fewest_of : Rf.Env → Fl := (seqB (sPar [2, 3, 4] [(lift (eDisp1 (eC (.int 0)) (eC (.int 0)))), (lift (fun env => mkL ((nd gLstD [(eC (.int 0))]) env))), (lift (eC (.int 0)))])
  (seqB (sIf (liftB (fun env => asB ((nd (g2 (fEq true)) [(nd (gCall 1 [] c_joined_mask) [(eVar 0)]), (eVar 1)]) env))) (sRet (lift (eC (.int 0)))) sNil)
  (seqB (whileN (liftB (fun env => noX ((fun env => asB ((nd (g2 (fIn true)) [(eVar 1), (eVar 2)]) env)) env))) (seqB (sPar [5, 4] [(liftL (nd gLstD [])), (lift (nd (g2 fAdd) [(eVar 4), (eC (.int 1))]))])
  (seqB (sFor (fun env => ((fun env => itA ((eVar 3) env)) env).at env) (gN 6) (sFor (fun env => ((fun env => itA ((eVar 0) env)) env).at env) (gN 7) (sIf (liftB (fun env => noX ((fun env => asB ((nd (g2 (fIn true)) [(nd (g2 fOr) [(eVar 6), (eVar 7)]), (eVar 2)]) env)) env))) (seqB (sDput 2 (fun env => ownI ((lift (eVar 4)) env)) (nd (g2 fOr) [(eVar 6), (eVar 7)]))
  (sMut 5 (fun env => ownI ((lift (nd (g2 fOr) [(eVar 6), (eVar 7)])) env)) fApp)) sNil)))
  (sSet 3 (eMove 5)))) 70)
  (sRet (lift (eVar 4))))))
def c0_fewest_of : List D → C := runB 8 2 [] b_fewest_of
def p_fewest_of : Pe2 c0_fewest_of where
  f := _
  ok := fun a b => by
    simp only [c0_fewest_of, b_fewest_of, runB, env0, outs, w_ret, w_nil, w_bad, w_seq, w_ifL, w_if, w_setL, w_setLL, w_dropL, w_retL, w_retLL, w_nd0, w_nd1, w_nd2, w_nd3, g1, g2, eVar, eC, eComp, compF_gN, compF_gT, Tst.f, wipeE, mkL, O.bind, bAnd, bOr, bNot, vAnd, vOr, vNot, vIf, eChain, eSl, eSlL, oNone, oSome, eTupS, eLstS, seqSt, eBm, eMeth, gMeth, ePrp, gCall, keepI, noX, seqF, List.length_cons, List.length_nil, List.map_cons, List.map_nil, List.cons_append, List.nil_append, List.set_cons_zero, List.set_cons_succ, List.getElem?_cons_zero, List.getElem?_cons_succ, List.replicate_succ, List.replicate_zero, Nat.reduceAdd, Nat.reduceSub, Bool.true_or, Bool.false_or, Bool.true_and]
    rfl
def c_fewest_of : List D → C := p_fewest_of.c
abbrev N_fewest_of : List Str := ["masks", "whole", "met", "level", "many", "later", "one", "mask"]
theorem sc_fewest_of : FnScope N_fewest_of ["masks", "whole"] (defScope (top 83)) := ⟨rfl, rfl, rfl, by decide +kernel, rfl, by decide +kernel, by decide +kernel⟩
theorem d_fewest_of {cdv : Value} {A : Around} {outer : List PySem.Env} {s : Shared} {H : Hp} {E : XK} {k : Nat} (h : Fc K mg) (k_joined_mask : Cal P w K mg base (k + 1) "joined_mask" 1 [] false [] c_joined_mask) (gd : Gd (cxOf (L2.CX P w) P w K mg base N_fewest_of "fewest_of" (defScope (top 83)) f cdv A outer s H E) (fun c d _ H => E c d H) (k + 1)) :
    SSs (cxOf (L2.CX P w) P w K mg base N_fewest_of "fewest_of" (defScope (top 83)) f cdv A outer s H E) ⟨[2, 5], [], false⟩ (fun c d _ H => E c d H) (defBody (top 83)) b_fewest_of :=
  (ss_cons (by first | exact (s_par3 gd rfl rfl rfl rfl rfl rfl (SVs.own (SPN.so (spn_disp1 sp_int sp_int)) (SVs.kep (SP.se (SPL.sp (spl_lst (SPs.cons sp_int SPs.nil)))) (SVs.kep (SP.se sp_int) SVs.nil)))) | exact (s_parC (is := [2, 3, 4]) gd (pgs_cons (pg_name gd.nd rfl (by first | exact .inl rfl | exact .inr rfl)) (pgs_cons (pg_name gd.nd rfl (by first | exact .inl rfl | exact .inr rfl)) (pgs_cons (pg_name gd.nd rfl (by first | exact .inl rfl | exact .inr rfl)) pgs_nil))) (SVs.own (SPN.so (spn_disp1 sp_int sp_int)) (SVs.kep (SP.se (SPL.sp (spl_lst (SPs.cons sp_int SPs.nil)))) (SVs.kep (SP.se sp_int) SVs.nil))) rfl rfl))
  (ss_cons (s_if (STp.ste (st_cmp (op_neD gd.hu64) v2_ne (sp_call gd k_joined_mask rfl (SPs.cons (sp_v rfl rfl (by first | exact .inl rfl | exact .inr (.inl rfl) | exact .inr (.inr rfl))) SPs.nil)) (sp_v rfl rfl (by first | exact .inl rfl | exact .inr (.inl rfl) | exact .inr (.inr rfl))))) (ss_one (s_ret rfl (SP.se sp_int))) ss_nil)
  (ss_cons (s_while 70 gd (STp.ste (STp.look (st_cmp (op_notInAll gd.hu) (v2_in true) (sp_v rfl rfl (by first | exact .inl rfl | exact .inr (.inl rfl) | exact .inr (.inr rfl))) (sp_own rfl rfl (by first | exact .inl rfl | exact .inr (.inl rfl) | exact .inr (.inr rfl)))))) (ss_cons (by first | exact (s_par2 gd rfl rfl rfl rfl (SVs.own (SPL.so (b := true) (spl_lst SPs.nil)) (SVs.kep (SP.se (sp_op op_addAll v2_add (sp_v rfl rfl (by first | exact .inl rfl | exact .inr (.inl rfl) | exact .inr (.inr rfl))) sp_int)) SVs.nil))) | exact (s_parC (is := [5, 4]) gd (pgs_cons (pg_name gd.nd rfl (by first | exact .inl rfl | exact .inr rfl)) (pgs_cons (pg_name gd.nd rfl (by first | exact .inl rfl | exact .inr rfl)) pgs_nil)) (SVs.own (SPL.so (b := true) (spl_lst SPs.nil)) (SVs.kep (SP.se (sp_op op_addAll v2_add (sp_v rfl rfl (by first | exact .inl rfl | exact .inr (.inl rfl) | exact .inr (.inr rfl))) sp_int)) SVs.nil)) rfl rfl))
  (ss_cons (s_for (vs := [6]) gd (SI.sie (si_any (sp_v rfl rfl (by first | exact .inl rfl | exact .inr (.inl rfl) | exact .inr (.inr rfl))))) (sg_name rfl rfl gd.nd rfl (by first | exact .inl rfl | exact .inr rfl)) rfl (ss_one (s_for (vs := [7]) gd (SI.sie (si_any (sp_v rfl rfl (by first | exact .inl rfl | exact .inr (.inl rfl) | exact .inr (.inr rfl))))) (sg_name rfl rfl gd.nd rfl (by first | exact .inl rfl | exact .inr rfl)) rfl (ss_one (s_if (STp.ste (STp.look (st_cmp (op_notInAll gd.hu) (v2_in true) (sp_op op_or v2_or (sp_v rfl rfl (by first | exact .inl rfl | exact .inr (.inl rfl) | exact .inr (.inr rfl))) (sp_v rfl rfl (by first | exact .inl rfl | exact .inr (.inl rfl) | exact .inr (.inr rfl)))) (sp_own rfl rfl (by first | exact .inl rfl | exact .inr (.inl rfl) | exact .inr (.inr rfl)))))) (ss_cons (s_dput gd rfl rfl (by first | exact .inl rfl | exact .inr (.inl rfl) | exact .inr (.inr rfl)) (SE.so (SP.se (sp_v rfl rfl (by first | exact .inl rfl | exact .inr (.inl rfl) | exact .inr (.inr rfl))))) (sp_op op_or v2_or (sp_v rfl rfl (by first | exact .inl rfl | exact .inr (.inl rfl) | exact .inr (.inr rfl))) (sp_v rfl rfl (by first | exact .inl rfl | exact .inr (.inl rfl) | exact .inr (.inr rfl)))))
  (ss_one (s_append rfl rfl (by first | exact .inl rfl | exact .inr (.inl rfl) | exact .inr (.inr rfl)) (SE.so (SP.se (sp_op op_or v2_or (sp_v rfl rfl (by first | exact .inl rfl | exact .inr (.inl rfl) | exact .inr (.inr rfl))) (sp_v rfl rfl (by first | exact .inl rfl | exact .inr (.inl rfl) | exact .inr (.inr rfl))))))))) ss_nil)))))
  (ss_one (s_set rfl rfl (asgE gd.nd rfl (by first | exact .inl rfl | exact .inr rfl) (SO.se (so_move rfl rfl (by first | exact .inl rfl | exact .inr (.inl rfl) | exact .inr (.inr rfl))))))))))
  (ss_one (s_ret rfl (SP.se (sp_v rfl rfl (by first | exact .inl rfl | exact .inr (.inl rfl) | exact .inr (.inr rfl)))))))))
theorem f_fewest_of {k : Nat} (h : Fc K mg) (k_joined_mask : Cal P w K mg base (k + 1) "joined_mask" 1 [] false [] c_joined_mask) (F : FunD K "fewest_of" "fewest_of" (defArgs (top 83)) (defBody (top 83)) (defScope (top 83)) [] [] f fd) : FnOk P w K mg base (L2.CX P w) (k + 2) f fd ["masks", "whole"] (spC K 2 [] false c_fewest_of) :=
  spC_cong p_fewest_of.eq ▸ fn_mk F sc_fewest_of rfl (by decide) fun cdv A outer s H E hr => d_fewest_of h k_joined_mask (gd_of sc_fewest_of.nd hr)
def b_able_lots : Rf.Env → Fl := (seqB (sPar [3, 4] [(lift (fun env => mkL ((eComp true [6] (fun env => itA ((eVar 1) env)) (gN 6) (Tst.f Tst.no) (nd (gCall 3 [] c_mask_of) [(eVar 0), (eVar 6), (eVar 2)])) env))), (lift (nd (gCall 1 [] c_whole_of) [(eVar 2)]))])
  (seqB (sSet 5 (lift (nd (gCall 1 [] c_lots_of) [(fun env => mkT (rgD ((nd (g1 fLenX) [(eVar 1)]) env)))])))
  (sRet (lift (fun env => mkL ((eComp true [7] (fun env => itA ((eVar 5) env)) (gN 7) (Tst.f (Tst.one (fun env => asB ((nd (g2 (fEq false)) [(nd (gCall 1 [] c_joined_mask) [(fun env => mkL ((eComp true [8] (fun env => itA ((eVar 7) env)) (gN 8) (Tst.f Tst.no) (nd (g2 fIx) [(eVar 3), (eVar 8)])) env))]), (eVar 4)]) env)))) (eVar 7)) env))))))
def c0_able_lots : List D → C := runB 9 3 [] b_able_lots
def p_able_lots : Pe3 c0_able_lots where
  f := _
  ok := fun a b d => by
    simp only [c0_able_lots, b_able_lots, runB, env0, outs, w_ret, w_nil, w_bad, w_seq, w_ifL, w_if, w_setL, w_setLL, w_dropL, w_retL, w_retLL, w_nd0, w_nd1, w_nd2, w_nd3, g1, g2, eVar, eC, eComp, compF_gN, compF_gT, Tst.f, wipeE, mkL, O.bind, bAnd, bOr, bNot, vAnd, vOr, vNot, vIf, eChain, eSl, eSlL, oNone, oSome, eTupS, eLstS, seqSt, eBm, eMeth, gMeth, ePrp, gCall, keepI, noX, seqF, List.length_cons, List.length_nil, List.map_cons, List.map_nil, List.cons_append, List.nil_append, List.set_cons_zero, List.set_cons_succ, List.getElem?_cons_zero, List.getElem?_cons_succ, List.replicate_succ, List.replicate_zero, Nat.reduceAdd, Nat.reduceSub, Bool.true_or, Bool.false_or, Bool.true_and]
    rfl
def c_able_lots : List D → C := p_able_lots.c
abbrev N_able_lots : List Str := ["book", "dealing", "rights", "masks", "whole", "lots", "hand", "lot", "person"]
theorem sc_able_lots : FnScope N_able_lots ["book", "dealing", "rights"] (defScope (top 84)) := ⟨rfl, rfl, rfl, by decide +kernel, rfl, by decide +kernel, by decide +kernel⟩
theorem d_able_lots {cdv : Value} {A : Around} {outer : List PySem.Env} {s : Shared} {H : Hp} {E : XK} {k : Nat} (h : Fc K mg) (k_mask_of : Cal P w K mg base (k + 1) "mask_of" 3 [] false [] c_mask_of) (k_whole_of : Cal P w K mg base (k + 1) "whole_of" 1 [] false [] c_whole_of) (k_lots_of : Cal P w K mg base (k + 1) "lots_of" 1 [] false [] c_lots_of) (k_joined_mask : Cal P w K mg base (k + 1) "joined_mask" 1 [] false [] c_joined_mask) (gd : Gd (cxOf (L2.CX P w) P w K mg base N_able_lots "able_lots" (defScope (top 84)) f cdv A outer s H E) (fun c d _ H => E c d H) (k + 1)) :
    SSs (cxOf (L2.CX P w) P w K mg base N_able_lots "able_lots" (defScope (top 84)) f cdv A outer s H E) ⟨[], [], false⟩ (fun c d _ H => E c d H) (defBody (top 84)) b_able_lots :=
  (ss_cons (by first | exact (s_par2 gd rfl rfl rfl rfl (SVs.kep (SP.se (SPL.sp (spl_comp (own := [("hand", 6)]) (T := Tst.no) gd ⟨(si_any (sp_v rfl rfl (by first | exact .inl rfl | exact .inr (.inl rfl) | exact .inr (.inr rfl)))), (blkOk_by (N := N_able_lots) (sc := (defScope (top 84))) (own := [("hand", 6)]) (by decide +kernel)), fun _ _ _ _ _ => (sg_name rfl rfl gd.blk.nd rfl (by first | exact .inl rfl | exact .inr rfl)), fun _ _ _ _ _ => trivial, fun _ _ _ _ _ => (sp_call gd.blk k_mask_of rfl (SPs.cons (sp_v rfl rfl (by first | exact .inl rfl | exact .inr (.inl rfl) | exact .inr (.inr rfl))) (SPs.cons (sp_v rfl rfl (by first | exact .inl rfl | exact .inr (.inl rfl) | exact .inr (.inr rfl))) (SPs.cons (sp_v rfl rfl (by first | exact .inl rfl | exact .inr (.inl rfl) | exact .inr (.inr rfl))) SPs.nil))))⟩))) (SVs.kep (SP.se (sp_call gd k_whole_of rfl (SPs.cons (sp_v rfl rfl (by first | exact .inl rfl | exact .inr (.inl rfl) | exact .inr (.inr rfl))) SPs.nil))) SVs.nil))) | exact (s_parC (is := [3, 4]) gd (pgs_cons (pg_name gd.nd rfl (by first | exact .inl rfl | exact .inr rfl)) (pgs_cons (pg_name gd.nd rfl (by first | exact .inl rfl | exact .inr rfl)) pgs_nil)) (SVs.kep (SP.se (SPL.sp (spl_comp (own := [("hand", 6)]) (T := Tst.no) gd ⟨(si_any (sp_v rfl rfl (by first | exact .inl rfl | exact .inr (.inl rfl) | exact .inr (.inr rfl)))), (blkOk_by (N := N_able_lots) (sc := (defScope (top 84))) (own := [("hand", 6)]) (by decide +kernel)), fun _ _ _ _ _ => (sg_name rfl rfl gd.blk.nd rfl (by first | exact .inl rfl | exact .inr rfl)), fun _ _ _ _ _ => trivial, fun _ _ _ _ _ => (sp_call gd.blk k_mask_of rfl (SPs.cons (sp_v rfl rfl (by first | exact .inl rfl | exact .inr (.inl rfl) | exact .inr (.inr rfl))) (SPs.cons (sp_v rfl rfl (by first | exact .inl rfl | exact .inr (.inl rfl) | exact .inr (.inr rfl))) (SPs.cons (sp_v rfl rfl (by first | exact .inl rfl | exact .inr (.inl rfl) | exact .inr (.inr rfl))) SPs.nil))))⟩))) (SVs.kep (SP.se (sp_call gd k_whole_of rfl (SPs.cons (sp_v rfl rfl (by first | exact .inl rfl | exact .inr (.inl rfl) | exact .inr (.inr rfl))) SPs.nil))) SVs.nil)) rfl rfl))
  (ss_cons (s_set rfl rfl (asgE gd.nd rfl (by first | exact .inl rfl | exact .inr rfl) (SP.se (sp_call gd k_lots_of rfl (SPs.cons (sp_tupRg gd rfl h.n_tuple rfl h.n_range (sp_b1 call_lenX vc_lenX rfl h.n_len boot_len (sp_v rfl rfl (by first | exact .inl rfl | exact .inr (.inl rfl) | exact .inr (.inr rfl))))) SPs.nil)))))
  (ss_one (s_ret rfl (SP.se (SPL.sp (spl_comp (own := [("lot", 7)]) (T := (Tst.one (fun env => asB ((nd (g2 (fEq false)) [(nd (gCall 1 [] c_joined_mask) [(fun env => mkL ((eComp true [8] (fun env => itA ((eVar 7) env)) (gN 8) (Tst.f Tst.no) (nd (g2 fIx) [(eVar 3), (eVar 8)])) env))]), (eVar 4)]) env)))) gd ⟨(si_any (sp_v rfl rfl (by first | exact .inl rfl | exact .inr (.inl rfl) | exact .inr (.inr rfl)))), (blkOk_by (N := N_able_lots) (sc := (defScope (top 84))) (own := [("lot", 7)]) (by decide +kernel)), fun _ _ _ _ _ => (sg_name rfl rfl gd.blk.nd rfl (by first | exact .inl rfl | exact .inr rfl)), fun _ _ _ _ _ => (st_cmp (op_eqD gd.hu64) v2_eq (sp_call gd.blk k_joined_mask rfl (SPs.cons (SPL.sp (spl_comp (own := [("person", 8)]) (T := Tst.no) gd.blk ⟨(si_any (sp_v rfl rfl (by first | exact .inl rfl | exact .inr (.inl rfl) | exact .inr (.inr rfl)))), (blkOk_by (N := N_able_lots) (sc := (relS _ (defScope (top 84)))) (own := [("person", 8)]) (by decide +kernel)), fun _ _ _ _ _ => (sg_name rfl rfl gd.blk.blk.nd rfl (by first | exact .inl rfl | exact .inr rfl)), fun _ _ _ _ _ => trivial, fun _ _ _ _ _ => (sp_ix (sp_v rfl rfl (by first | exact .inl rfl | exact .inr (.inl rfl) | exact .inr (.inr rfl))) (sp_v rfl rfl (by first | exact .inl rfl | exact .inr (.inl rfl) | exact .inr (.inr rfl))))⟩)) SPs.nil)) (sp_v rfl rfl (by first | exact .inl rfl | exact .inr (.inl rfl) | exact .inr (.inr rfl)))), fun _ _ _ _ _ => (sp_v rfl rfl (by first | exact .inl rfl | exact .inr (.inl rfl) | exact .inr (.inr rfl)))⟩)))))))
theorem f_able_lots {k : Nat} (h : Fc K mg) (k_mask_of : Cal P w K mg base (k + 1) "mask_of" 3 [] false [] c_mask_of) (k_whole_of : Cal P w K mg base (k + 1) "whole_of" 1 [] false [] c_whole_of) (k_lots_of : Cal P w K mg base (k + 1) "lots_of" 1 [] false [] c_lots_of) (k_joined_mask : Cal P w K mg base (k + 1) "joined_mask" 1 [] false [] c_joined_mask) (F : FunD K "able_lots" "able_lots" (defArgs (top 84)) (defBody (top 84)) (defScope (top 84)) [] [] f fd) : FnOk P w K mg base (L2.CX P w) (k + 2) f fd ["book", "dealing", "rights"] (spC K 3 [] false c_able_lots) :=
  spC_cong p_able_lots.eq ▸ fn_mk F sc_able_lots rfl (by decide) fun cdv A outer s H E hr => d_able_lots h k_mask_of k_whole_of k_lots_of k_joined_mask (gd_of sc_able_lots.nd hr)
def b_told_people : Rf.Env → Fl := (seqB (sSet 3 (lift (nd (g2 fIx) [(nd (g2 fIx) [(ePrp "Book" "duties" c_Book_duties (eVar 0)), (eVar 2)]), (eC (.int 1))])))
  (seqB (sPar [4, 5] [(lift (fun env => mkL ((eComp true [10] (fun env => itA ((eVar 1) env)) (gN 10) (Tst.f Tst.no) (nd (gCall 3 [] c_mask_of) [(eVar 0), (eVar 10), (eVar 3)])) env))), (lift (nd (gCall 1 [] c_whole_of) [(eVar 3)]))])
  (seqB (sFor (fun env => ((nd (g2 itZip) [(eC (.tup v_POWERS)), (eVar 3)]) env).at env) (gT 2 (gsC (gN 6) (gsC (gN 7) gsN))) (sIf (liftB (fun env => asB ((nd (g2 (fEq false)) [(nd (g2 fAnd) [(nd (gCall 1 [] c_joined_mask) [(eVar 4)]), (eVar 6)]), (eC (.int 0))]) env))) (sRet (lift (nd gTupD [(eC (.str "nobody")), (eVar 7)]))) sNil))
  (seqB (sSet 8 (lift (nd (gCall 2 [] c_fewest_of) [(eVar 4), (eVar 5)])))
  (seqB (sSet 9 (lift (fun env => mkL ((nd (g1 fSort) [(fun env => mkL ((eComp true [11] (fun env => itA ((nd (gCall 1 [] c_lots_of) [(fun env => mkT (rgD ((nd (g1 fLenX) [(eVar 1)]) env)))]) env)) (gN 11) (Tst.f (Tst.one (fun env => asB ((nd (g2 (fEq false)) [(nd (g1 fLenX) [(eVar 11)]), (eVar 8)]) env)))) (eVar 11)) env))]) env))))
  (sRet (lift (nd gTupD [(eC (.str "people")), (nd (g2 fIx) [(fun env => mkL ((eComp true [11] (fun env => itA ((eVar 9) env)) (gN 11) (Tst.f (Tst.one (fun env => asB ((nd (g2 (fEq false)) [(nd (gCall 1 [] c_joined_mask) [(fun env => mkL ((eComp true [12] (fun env => itA ((eVar 11) env)) (gN 12) (Tst.f Tst.no) (nd (g2 fIx) [(eVar 4), (eVar 12)])) env))]), (eVar 5)]) env)))) (eVar 11)) env)), (eC (.int 0))])]))))))))
def c0_told_people : List D → C := runB 13 3 [] b_told_people
def p_told_people : Pe3 c0_told_people where
  f := _
  ok := fun a b d => by
    simp only [c0_told_people, b_told_people, runB, env0, outs, w_ret, w_nil, w_bad, w_seq, w_ifL, w_if, w_setL, w_setLL, w_dropL, w_retL, w_retLL, w_nd0, w_nd1, w_nd2, w_nd3, g1, g2, eVar, eC, eComp, compF_gN, compF_gT, Tst.f, wipeE, mkL, O.bind, bAnd, bOr, bNot, vAnd, vOr, vNot, vIf, eChain, eSl, eSlL, oNone, oSome, eTupS, eLstS, seqSt, eBm, eMeth, gMeth, ePrp, gCall, keepI, noX, seqF, List.length_cons, List.length_nil, List.map_cons, List.map_nil, List.cons_append, List.nil_append, List.set_cons_zero, List.set_cons_succ, List.getElem?_cons_zero, List.getElem?_cons_succ, List.replicate_succ, List.replicate_zero, Nat.reduceAdd, Nat.reduceSub, Bool.true_or, Bool.false_or, Bool.true_and]
    rfl
def c_told_people : List D → C := p_told_people.c
abbrev N_told_people : List Str := ["book", "dealing", "duty", "rights", "masks", "whole", "power", "right", "number", "lots", "hand", "lot", "person"]
theorem sc_told_people : FnScope N_told_people ["book", "dealing", "duty"] (defScope (top 85)) := ⟨rfl, rfl, rfl, by decide +kernel, rfl, by decide +kernel, by decide +kernel⟩
theorem d_told_people {cdv : Value} {A : Around} {outer : List PySem.Env} {s : Shared} {H : Hp} {E : XK} {k : Nat} (h : Fc K mg) (k_Book_duties : Prp P w K mg base k "Book" "duties" false c_Book_duties) (k_mask_of : Cal P w K mg base (k + 1) "mask_of" 3 [] false [] c_mask_of) (k_whole_of : Cal P w K mg base (k + 1) "whole_of" 1 [] false [] c_whole_of) (k_joined_mask : Cal P w K mg base (k + 1) "joined_mask" 1 [] false [] c_joined_mask) (k_fewest_of : Cal P w K mg base (k + 1) "fewest_of" 2 [] false [] c_fewest_of) (k_lots_of : Cal P w K mg base (k + 1) "lots_of" 1 [] false [] c_lots_of) (gd : Gd (cxOf (L2.CX P w) P w K mg base N_told_people "told_people" (defScope (top 85)) f cdv A outer s H E) (fun c d _ H => E c d H) (k + 1)) :
    SSs (cxOf (L2.CX P w) P w K mg base N_told_people "told_people" (defScope (top 85)) f cdv A outer s H E) ⟨[], [], false⟩ (fun c d _ H => E c d H) (defBody (top 85)) b_told_people :=
  (ss_cons (s_set rfl rfl (asgE gd.nd rfl (by first | exact .inl rfl | exact .inr rfl) (SP.se (sp_ix (sp_ix (sp_prop gd k_Book_duties (sp_v rfl rfl (by first | exact .inl rfl | exact .inr (.inl rfl) | exact .inr (.inr rfl)))) (sp_v rfl rfl (by first | exact .inl rfl | exact .inr (.inl rfl) | exact .inr (.inr rfl)))) sp_int))))
  (ss_cons (by first | exact (s_par2 gd rfl rfl rfl rfl (SVs.kep (SP.se (SPL.sp (spl_comp (own := [("hand", 10)]) (T := Tst.no) gd ⟨(si_any (sp_v rfl rfl (by first | exact .inl rfl | exact .inr (.inl rfl) | exact .inr (.inr rfl)))), (blkOk_by (N := N_told_people) (sc := (defScope (top 85))) (own := [("hand", 10)]) (by decide +kernel)), fun _ _ _ _ _ => (sg_name rfl rfl gd.blk.nd rfl (by first | exact .inl rfl | exact .inr rfl)), fun _ _ _ _ _ => trivial, fun _ _ _ _ _ => (sp_call gd.blk k_mask_of rfl (SPs.cons (sp_v rfl rfl (by first | exact .inl rfl | exact .inr (.inl rfl) | exact .inr (.inr rfl))) (SPs.cons (sp_v rfl rfl (by first | exact .inl rfl | exact .inr (.inl rfl) | exact .inr (.inr rfl))) (SPs.cons (sp_v rfl rfl (by first | exact .inl rfl | exact .inr (.inl rfl) | exact .inr (.inr rfl))) SPs.nil))))⟩))) (SVs.kep (SP.se (sp_call gd k_whole_of rfl (SPs.cons (sp_v rfl rfl (by first | exact .inl rfl | exact .inr (.inl rfl) | exact .inr (.inr rfl))) SPs.nil))) SVs.nil))) | exact (s_parC (is := [4, 5]) gd (pgs_cons (pg_name gd.nd rfl (by first | exact .inl rfl | exact .inr rfl)) (pgs_cons (pg_name gd.nd rfl (by first | exact .inl rfl | exact .inr rfl)) pgs_nil)) (SVs.kep (SP.se (SPL.sp (spl_comp (own := [("hand", 10)]) (T := Tst.no) gd ⟨(si_any (sp_v rfl rfl (by first | exact .inl rfl | exact .inr (.inl rfl) | exact .inr (.inr rfl)))), (blkOk_by (N := N_told_people) (sc := (defScope (top 85))) (own := [("hand", 10)]) (by decide +kernel)), fun _ _ _ _ _ => (sg_name rfl rfl gd.blk.nd rfl (by first | exact .inl rfl | exact .inr rfl)), fun _ _ _ _ _ => trivial, fun _ _ _ _ _ => (sp_call gd.blk k_mask_of rfl (SPs.cons (sp_v rfl rfl (by first | exact .inl rfl | exact .inr (.inl rfl) | exact .inr (.inr rfl))) (SPs.cons (sp_v rfl rfl (by first | exact .inl rfl | exact .inr (.inl rfl) | exact .inr (.inr rfl))) (SPs.cons (sp_v rfl rfl (by first | exact .inl rfl | exact .inr (.inl rfl) | exact .inr (.inr rfl))) SPs.nil))))⟩))) (SVs.kep (SP.se (sp_call gd k_whole_of rfl (SPs.cons (sp_v rfl rfl (by first | exact .inl rfl | exact .inr (.inl rfl) | exact .inr (.inr rfl))) SPs.nil))) SVs.nil)) rfl rfl))
  (ss_cons (s_for (vs := [6, 7]) gd (SI.sie (si_zip rfl h.n_zip (sp_glob rfl h.g_POWERS h.r_POWERS) (sp_v rfl rfl (by first | exact .inl rfl | exact .inr (.inl rfl) | exact .inr (.inr rfl))))) (sg_tup (sgs_cons (sg_name rfl rfl gd.nd rfl (by first | exact .inl rfl | exact .inr rfl)) (sgs_cons (sg_name rfl rfl gd.nd rfl (by first | exact .inl rfl | exact .inr rfl)) sgs_nil)) fun t h => pg_tup gd.calm h) rfl (ss_one (s_if (STp.ste (st_cmp (op_eqD gd.hu64) v2_eq (sp_op op_and v2_and (sp_call gd k_joined_mask rfl (SPs.cons (sp_v rfl rfl (by first | exact .inl rfl | exact .inr (.inl rfl) | exact .inr (.inr rfl))) SPs.nil)) (sp_v rfl rfl (by first | exact .inl rfl | exact .inr (.inl rfl) | exact .inr (.inr rfl)))) sp_int)) (ss_one (s_ret rfl (SP.se (sp_tup (SPs.cons (sp_gstr rfl h.g_NOBODY) (SPs.cons (sp_v rfl rfl (by first | exact .inl rfl | exact .inr (.inl rfl) | exact .inr (.inr rfl))) SPs.nil)))))) ss_nil)))
  (ss_cons (s_set rfl rfl (asgE gd.nd rfl (by first | exact .inl rfl | exact .inr rfl) (SP.se (sp_call gd k_fewest_of rfl (SPs.cons (sp_v rfl rfl (by first | exact .inl rfl | exact .inr (.inl rfl) | exact .inr (.inr rfl))) (SPs.cons (sp_v rfl rfl (by first | exact .inl rfl | exact .inr (.inl rfl) | exact .inr (.inr rfl))) SPs.nil))))))
  (ss_cons (s_set rfl rfl (asgE gd.nd rfl (by first | exact .inl rfl | exact .inr rfl) (SP.se (SPL.sp (spl_b1 (cr_sortD gd.hu64) vc_sort rfl h.n_sorted Rf.boot_sorted (SPL.sp (spl_comp (own := [("lot", 11)]) (T := (Tst.one (fun env => asB ((nd (g2 (fEq false)) [(nd (g1 fLenX) [(eVar 11)]), (eVar 8)]) env)))) gd ⟨(si_any (sp_call gd k_lots_of rfl (SPs.cons (sp_tupRg gd rfl h.n_tuple rfl h.n_range (sp_b1 call_lenX vc_lenX rfl h.n_len boot_len (sp_v rfl rfl (by first | exact .inl rfl | exact .inr (.inl rfl) | exact .inr (.inr rfl))))) SPs.nil))), (blkOk_by (N := N_told_people) (sc := (defScope (top 85))) (own := [("lot", 11)]) (by decide +kernel)), fun _ _ _ _ _ => (sg_name rfl rfl gd.blk.nd rfl (by first | exact .inl rfl | exact .inr rfl)), fun _ _ _ _ _ => (st_cmp (op_eqD gd.hu64) v2_eq (sp_b1 call_lenX vc_lenX rfl h.n_len boot_len (sp_v rfl rfl (by first | exact .inl rfl | exact .inr (.inl rfl) | exact .inr (.inr rfl)))) (sp_v rfl rfl (by first | exact .inl rfl | exact .inr (.inl rfl) | exact .inr (.inr rfl)))), fun _ _ _ _ _ => (sp_v rfl rfl (by first | exact .inl rfl | exact .inr (.inl rfl) | exact .inr (.inr rfl)))⟩)))))))
  (ss_one (s_ret rfl (SP.se (sp_tup (SPs.cons (sp_gstr rfl h.g_PEOPLE) (SPs.cons (sp_ix (SPL.sp (spl_comp (own := [("lot", 11)]) (T := (Tst.one (fun env => asB ((nd (g2 (fEq false)) [(nd (gCall 1 [] c_joined_mask) [(fun env => mkL ((eComp true [12] (fun env => itA ((eVar 11) env)) (gN 12) (Tst.f Tst.no) (nd (g2 fIx) [(eVar 4), (eVar 12)])) env))]), (eVar 5)]) env)))) gd ⟨(si_any (sp_v rfl rfl (by first | exact .inl rfl | exact .inr (.inl rfl) | exact .inr (.inr rfl)))), (blkOk_by (N := N_told_people) (sc := (defScope (top 85))) (own := [("lot", 11)]) (by decide +kernel)), fun _ _ _ _ _ => (sg_name rfl rfl gd.blk.nd rfl (by first | exact .inl rfl | exact .inr rfl)), fun _ _ _ _ _ => (st_cmp (op_eqD gd.hu64) v2_eq (sp_call gd.blk k_joined_mask rfl (SPs.cons (SPL.sp (spl_comp (own := [("person", 12)]) (T := Tst.no) gd.blk ⟨(si_any (sp_v rfl rfl (by first | exact .inl rfl | exact .inr (.inl rfl) | exact .inr (.inr rfl)))), (blkOk_by (N := N_told_people) (sc := (relS _ (defScope (top 85)))) (own := [("person", 12)]) (by decide +kernel)), fun _ _ _ _ _ => (sg_name rfl rfl gd.blk.blk.nd rfl (by first | exact .inl rfl | exact .inr rfl)), fun _ _ _ _ _ => trivial, fun _ _ _ _ _ => (sp_ix (sp_v rfl rfl (by first | exact .inl rfl | exact .inr (.inl rfl) | exact .inr (.inr rfl))) (sp_v rfl rfl (by first | exact .inl rfl | exact .inr (.inl rfl) | exact .inr (.inr rfl))))⟩)) SPs.nil)) (sp_v rfl rfl (by first | exact .inl rfl | exact .inr (.inl rfl) | exact .inr (.inr rfl)))), fun _ _ _ _ _ => (sp_v rfl rfl (by first | exact .inl rfl | exact .inr (.inl rfl) | exact .inr (.inr rfl)))⟩)) sp_int) SPs.nil)))))))))))
theorem f_told_people {k : Nat} (h : Fc K mg) (k_Book_duties : Prp P w K mg base k "Book" "duties" false c_Book_duties) (k_mask_of : Cal P w K mg base (k + 1) "mask_of" 3 [] false [] c_mask_of) (k_whole_of : Cal P w K mg base (k + 1) "whole_of" 1 [] false [] c_whole_of) (k_joined_mask : Cal P w K mg base (k + 1) "joined_mask" 1 [] false [] c_joined_mask) (k_fewest_of : Cal P w K mg base (k + 1) "fewest_of" 2 [] false [] c_fewest_of) (k_lots_of : Cal P w K mg base (k + 1) "lots_of" 1 [] false [] c_lots_of) (F : FunD K "told_people" "told_people" (defArgs (top 85)) (defBody (top 85)) (defScope (top 85)) [] [] f fd) : FnOk P w K mg base (L2.CX P w) (k + 2) f fd ["book", "dealing", "duty"] (spC K 3 [] false c_told_people) :=
  spC_cong p_told_people.eq ▸ fn_mk F sc_told_people rfl (by decide) fun cdv A outer s H E hr => d_told_people h k_Book_duties k_mask_of k_whole_of k_joined_mask k_fewest_of k_lots_of (gd_of sc_told_people.nd hr)
def b_people : Rf.Env → Fl := (seqB (sDrop (lift (nd (gCall 2 [] c_check_dealing) [(eVar 0), (eVar 1)])))
  (seqB (sDrop (lift (nd (gCall 2 [] c_check_duty) [(eVar 0), (eVar 2)])))
  (sRet (lift (nd (gCall 3 [] c_told_people) [(eVar 0), (eVar 1), (eVar 2)])))))
def c0_people : List D → C := runB 3 3 [] b_people
def p_people : Pe3 c0_people where
  f := _
  ok := fun a b d => by
    simp only [c0_people, b_people, runB, env0, outs, w_ret, w_nil, w_bad, w_seq, w_ifL, w_if, w_setL, w_setLL, w_dropL, w_retL, w_retLL, w_nd0, w_nd1, w_nd2, w_nd3, g1, g2, eVar, eC, eComp, compF_gN, compF_gT, Tst.f, wipeE, mkL, O.bind, bAnd, bOr, bNot, vAnd, vOr, vNot, vIf, eChain, eSl, eSlL, oNone, oSome, eTupS, eLstS, seqSt, eBm, eMeth, gMeth, ePrp, gCall, keepI, noX, seqF, List.length_cons, List.length_nil, List.map_cons, List.map_nil, List.cons_append, List.nil_append, List.set_cons_zero, List.set_cons_succ, List.getElem?_cons_zero, List.getElem?_cons_succ, List.replicate_succ, List.replicate_zero, Nat.reduceAdd, Nat.reduceSub, Bool.true_or, Bool.false_or, Bool.true_and]
    rfl
def c_people : List D → C := p_people.c
abbrev N_people : List Str := ["book", "dealing", "duty"]
theorem sc_people : FnScope N_people ["book", "dealing", "duty"] (defScope (top 86)) := ⟨rfl, rfl, rfl, by decide +kernel, rfl, by decide +kernel, by decide +kernel⟩
theorem d_people {cdv : Value} {A : Around} {outer : List PySem.Env} {s : Shared} {H : Hp} {E : XK} {k : Nat} (h : Fc K mg) (k_check_dealing : Cal P w K mg base (k + 1) "check_dealing" 2 [] false [] c_check_dealing) (k_check_duty : Cal P w K mg base (k + 1) "check_duty" 2 [] false [] c_check_duty) (k_told_people : Cal P w K mg base (k + 1) "told_people" 3 [] false [] c_told_people) (gd : Gd (cxOf (L2.CX P w) P w K mg base N_people "people" (defScope (top 86)) f cdv A outer s H E) (fun c d _ H => E c d H) (k + 1)) :
    SSs (cxOf (L2.CX P w) P w K mg base N_people "people" (defScope (top 86)) f cdv A outer s H E) ⟨[], [], false⟩ (fun c d _ H => E c d H) (defBody (top 86)) b_people :=
  (ss_cons (s_expr (SP.se (sp_call gd k_check_dealing rfl (SPs.cons (sp_v rfl rfl (by first | exact .inl rfl | exact .inr (.inl rfl) | exact .inr (.inr rfl))) (SPs.cons (sp_v rfl rfl (by first | exact .inl rfl | exact .inr (.inl rfl) | exact .inr (.inr rfl))) SPs.nil)))))
  (ss_cons (s_expr (SP.se (sp_call gd k_check_duty rfl (SPs.cons (sp_v rfl rfl (by first | exact .inl rfl | exact .inr (.inl rfl) | exact .inr (.inr rfl))) (SPs.cons (sp_v rfl rfl (by first | exact .inl rfl | exact .inr (.inl rfl) | exact .inr (.inr rfl))) SPs.nil)))))
  (ss_one (s_ret rfl (SP.se (sp_call gd k_told_people rfl (SPs.cons (sp_v rfl rfl (by first | exact .inl rfl | exact .inr (.inl rfl) | exact .inr (.inr rfl))) (SPs.cons (sp_v rfl rfl (by first | exact .inl rfl | exact .inr (.inl rfl) | exact .inr (.inr rfl))) (SPs.cons (sp_v rfl rfl (by first | exact .inl rfl | exact .inr (.inl rfl) | exact .inr (.inr rfl))) SPs.nil)))))))))
theorem f_people {k : Nat} (h : Fc K mg) (k_check_dealing : Cal P w K mg base (k + 1) "check_dealing" 2 [] false [] c_check_dealing) (k_check_duty : Cal P w K mg base (k + 1) "check_duty" 2 [] false [] c_check_duty) (k_told_people : Cal P w K mg base (k + 1) "told_people" 3 [] false [] c_told_people) (F : FunD K "people" "people" (defArgs (top 86)) (defBody (top 86)) (defScope (top 86)) [] [] f fd) : FnOk P w K mg base (L2.CX P w) (k + 2) f fd ["book", "dealing", "duty"] (spC K 3 [] false c_people) :=
  spC_cong p_people.eq ▸ fn_mk F sc_people rfl (by decide) fun cdv A outer s H E hr => d_people h k_check_dealing k_check_duty k_told_people (gd_of sc_people.nd hr)
def b_keeps : Rf.Env → Fl := (seqB (sSet 3 (lift (nd (gCall 3 [] c_told_people) [(eVar 0), (eVar 1), (eVar 2)])))
  (sRet (lift (vOr (nd (g2 (fEq false)) [(nd (g2 fIx) [(eVar 3), (eC (.int 0))]), (eC (.str "nobody"))]) (nd (g2 fGe) [(nd (g1 fLenX) [(nd (g2 fIx) [(eVar 3), (eC (.int 1))])]), (nd (g2 fIx) [(nd (g2 fIx) [(ePrp "Book" "duties" c_Book_duties (eVar 0)), (eVar 2)]), (eC (.int 0))])])))))
def c0_keeps : List D → C := runB 4 3 [] b_keeps
def p_keeps : Pe3 c0_keeps where
  f := _
  ok := fun a b d => by
    simp only [c0_keeps, b_keeps, runB, env0, outs, w_ret, w_nil, w_bad, w_seq, w_ifL, w_if, w_setL, w_setLL, w_dropL, w_retL, w_retLL, w_nd0, w_nd1, w_nd2, w_nd3, g1, g2, eVar, eC, eComp, compF_gN, compF_gT, Tst.f, wipeE, mkL, O.bind, bAnd, bOr, bNot, vAnd, vOr, vNot, vIf, eChain, eSl, eSlL, oNone, oSome, eTupS, eLstS, seqSt, eBm, eMeth, gMeth, ePrp, gCall, keepI, noX, seqF, List.length_cons, List.length_nil, List.map_cons, List.map_nil, List.cons_append, List.nil_append, List.set_cons_zero, List.set_cons_succ, List.getElem?_cons_zero, List.getElem?_cons_succ, List.replicate_succ, List.replicate_zero, Nat.reduceAdd, Nat.reduceSub, Bool.true_or, Bool.false_or, Bool.true_and]
    rfl
def c_keeps : List D → C := p_keeps.c
abbrev N_keeps : List Str := ["book", "dealing", "duty", "told"]
theorem sc_keeps : FnScope N_keeps ["book", "dealing", "duty"] (defScope (top 87)) := ⟨rfl, rfl, rfl, by decide +kernel, rfl, by decide +kernel, by decide +kernel⟩
theorem d_keeps {cdv : Value} {A : Around} {outer : List PySem.Env} {s : Shared} {H : Hp} {E : XK} {k : Nat} (h : Fc K mg) (k_told_people : Cal P w K mg base (k + 1) "told_people" 3 [] false [] c_told_people) (k_Book_duties : Prp P w K mg base k "Book" "duties" false c_Book_duties) (gd : Gd (cxOf (L2.CX P w) P w K mg base N_keeps "keeps" (defScope (top 87)) f cdv A outer s H E) (fun c d _ H => E c d H) (k + 1)) :
    SSs (cxOf (L2.CX P w) P w K mg base N_keeps "keeps" (defScope (top 87)) f cdv A outer s H E) ⟨[], [], false⟩ (fun c d _ H => E c d H) (defBody (top 87)) b_keeps :=
  (ss_cons (s_set rfl rfl (asgE gd.nd rfl (by first | exact .inl rfl | exact .inr rfl) (SP.se (sp_call gd k_told_people rfl (SPs.cons (sp_v rfl rfl (by first | exact .inl rfl | exact .inr (.inl rfl) | exact .inr (.inr rfl))) (SPs.cons (sp_v rfl rfl (by first | exact .inl rfl | exact .inr (.inl rfl) | exact .inr (.inr rfl))) (SPs.cons (sp_v rfl rfl (by first | exact .inl rfl | exact .inr (.inl rfl) | exact .inr (.inr rfl))) SPs.nil)))))))
  (ss_one (s_ret rfl (SP.se (sp_or (sp_cmp (op_eqD gd.hu64) v2_eq (sp_ix (sp_v rfl rfl (by first | exact .inl rfl | exact .inr (.inl rfl) | exact .inr (.inr rfl))) sp_int) (sp_gstr rfl h.g_NOBODY)) (sp_one (sp_cmp op_ge v2_ge (sp_b1 call_lenX vc_lenX rfl h.n_len boot_len (sp_ix (sp_v rfl rfl (by first | exact .inl rfl | exact .inr (.inl rfl) | exact .inr (.inr rfl))) sp_int)) (sp_ix (sp_ix (sp_prop gd k_Book_duties (sp_v rfl rfl (by first | exact .inl rfl | exact .inr (.inl rfl) | exact .inr (.inr rfl)))) (sp_v rfl rfl (by first | exact .inl rfl | exact .inr (.inl rfl) | exact .inr (.inr rfl)))) sp_int))))))))
theorem f_keeps {k : Nat} (h : Fc K mg) (k_told_people : Cal P w K mg base (k + 1) "told_people" 3 [] false [] c_told_people) (k_Book_duties : Prp P w K mg base k "Book" "duties" false c_Book_duties) (F : FunD K "keeps" "keeps" (defArgs (top 87)) (defBody (top 87)) (defScope (top 87)) [] [] f fd) : FnOk P w K mg base (L2.CX P w) (k + 2) f fd ["book", "dealing", "duty"] (spC K 3 [] false c_keeps) :=
  spC_cong p_keeps.eq ▸ fn_mk F sc_keeps rfl (by decide) fun cdv A outer s H E hr => d_keeps h k_told_people k_Book_duties (gd_of sc_keeps.nd hr)
def b_broken_by : Rf.Env → Fl := (sRet (lift (nd (g1 fTuple) [(fun env => mkL ((eComp true [2] (fun env => itR1 ((nd (g1 fLenX) [(ePrp "Book" "duties" c_Book_duties (eVar 0))]) env)) (gN 2) (Tst.f (Tst.one (bNot (fun env => asB ((nd (gCall 3 [] c_keeps) [(eVar 0), (eVar 1), (eVar 2)]) env))))) (eVar 2)) env))])))
def c0_broken_by : List D → C := runB 3 2 [] b_broken_by
def p_broken_by : Pe2 c0_broken_by where
  f := _
  ok := fun a b => by
    simp only [c0_broken_by, b_broken_by, runB, env0, outs, w_ret, w_nil, w_bad, w_seq, w_ifL, w_if, w_setL, w_setLL, w_dropL, w_retL, w_retLL, w_nd0, w_nd1, w_nd2, w_nd3, g1, g2, eVar, eC, eComp, compF_gN, compF_gT, Tst.f, wipeE, mkL, O.bind, bAnd, bOr, bNot, vAnd, vOr, vNot, vIf, eChain, eSl, eSlL, oNone, oSome, eTupS, eLstS, seqSt, eBm, eMeth, gMeth, ePrp, gCall, keepI, noX, seqF, List.length_cons, List.length_nil, List.map_cons, List.map_nil, List.cons_append, List.nil_append, List.set_cons_zero, List.set_cons_succ, List.getElem?_cons_zero, List.getElem?_cons_succ, List.replicate_succ, List.replicate_zero, Nat.reduceAdd, Nat.reduceSub, Bool.true_or, Bool.false_or, Bool.true_and]
    rfl
def c_broken_by : List D → C := p_broken_by.c
abbrev N_broken_by : List Str := ["book", "dealing", "duty"]
theorem sc_broken_by : FnScope N_broken_by ["book", "dealing"] (defScope (top 88)) := ⟨rfl, rfl, rfl, by decide +kernel, rfl, by decide +kernel, by decide +kernel⟩
theorem d_broken_by {cdv : Value} {A : Around} {outer : List PySem.Env} {s : Shared} {H : Hp} {E : XK} {k : Nat} (h : Fc K mg) (k_Book_duties : Prp P w K mg base k "Book" "duties" false c_Book_duties) (k_keeps : Cal P w K mg base (k + 1) "keeps" 3 [] false [] c_keeps) (gd : Gd (cxOf (L2.CX P w) P w K mg base N_broken_by "broken_by" (defScope (top 88)) f cdv A outer s H E) (fun c d _ H => E c d H) (k + 1)) :
    SSs (cxOf (L2.CX P w) P w K mg base N_broken_by "broken_by" (defScope (top 88)) f cdv A outer s H E) ⟨[], [], false⟩ (fun c d _ H => E c d H) (defBody (top 88)) b_broken_by :=
  (ss_one (s_ret rfl (SP.se (sp_t1 call_tuple_of vc_tuple rfl h.n_tuple boot_tuple (SPL.sp (spl_comp (own := [("duty", 2)]) (T := (Tst.one (bNot (fun env => asB ((nd (gCall 3 [] c_keeps) [(eVar 0), (eVar 1), (eVar 2)]) env))))) gd ⟨(si_range1 rfl h.n_range (sp_b1 call_lenX vc_lenX rfl h.n_len boot_len (sp_prop gd k_Book_duties (sp_v rfl rfl (by first | exact .inl rfl | exact .inr (.inl rfl) | exact .inr (.inr rfl)))))), (blkOk_by (N := N_broken_by) (sc := (defScope (top 88))) (own := [("duty", 2)]) (by decide +kernel)), fun _ _ _ _ _ => (sg_name rfl rfl gd.blk.nd rfl (by first | exact .inl rfl | exact .inr rfl)), fun _ _ _ _ _ => (st_not (st_val (sp_call gd.blk k_keeps rfl (SPs.cons (sp_v rfl rfl (by first | exact .inl rfl | exact .inr (.inl rfl) | exact .inr (.inr rfl))) (SPs.cons (sp_v rfl rfl (by first | exact .inl rfl | exact .inr (.inl rfl) | exact .inr (.inr rfl))) (SPs.cons (sp_v rfl rfl (by first | exact .inl rfl | exact .inr (.inl rfl) | exact .inr (.inr rfl))) SPs.nil)))))), fun _ _ _ _ _ => (sp_v rfl rfl (by first | exact .inl rfl | exact .inr (.inl rfl) | exact .inr (.inr rfl)))⟩))))))
theorem f_broken_by {k : Nat} (h : Fc K mg) (k_Book_duties : Prp P w K mg base k "Book" "duties" false c_Book_duties) (k_keeps : Cal P w K mg base (k + 1) "keeps" 3 [] false [] c_keeps) (F : FunD K "broken_by" "broken_by" (defArgs (top 88)) (defBody (top 88)) (defScope (top 88)) [] [] f fd) : FnOk P w K mg base (L2.CX P w) (k + 2) f fd ["book", "dealing"] (spC K 2 [] false c_broken_by) :=
  spC_cong p_broken_by.eq ▸ fn_mk F sc_broken_by rfl (by decide) fun cdv A outer s H E hr => d_broken_by h k_Book_duties k_keeps (gd_of sc_broken_by.nd hr)
def b_broken : Rf.Env → Fl := (seqB (sDrop (lift (nd (gCall 2 [] c_check_dealing) [(eVar 0), (eVar 1)])))
  (sRet (lift (nd (gCall 2 [] c_broken_by) [(eVar 0), (eVar 1)]))))
def c0_broken : List D → C := runB 2 2 [] b_broken
def p_broken : Pe2 c0_broken where
  f := _
  ok := fun a b => by
    simp only [c0_broken, b_broken, runB, env0, outs, w_ret, w_nil, w_bad, w_seq, w_ifL, w_if, w_setL, w_setLL, w_dropL, w_retL, w_retLL, w_nd0, w_nd1, w_nd2, w_nd3, g1, g2, eVar, eC, eComp, compF_gN, compF_gT, Tst.f, wipeE, mkL, O.bind, bAnd, bOr, bNot, vAnd, vOr, vNot, vIf, eChain, eSl, eSlL, oNone, oSome, eTupS, eLstS, seqSt, eBm, eMeth, gMeth, ePrp, gCall, keepI, noX, seqF, List.length_cons, List.length_nil, List.map_cons, List.map_nil, List.cons_append, List.nil_append, List.set_cons_zero, List.set_cons_succ, List.getElem?_cons_zero, List.getElem?_cons_succ, List.replicate_succ, List.replicate_zero, Nat.reduceAdd, Nat.reduceSub, Bool.true_or, Bool.false_or, Bool.true_and]
    rfl
def c_broken : List D → C := p_broken.c
abbrev N_broken : List Str := ["book", "dealing"]
theorem sc_broken : FnScope N_broken ["book", "dealing"] (defScope (top 89)) := ⟨rfl, rfl, rfl, by decide +kernel, rfl, by decide +kernel, by decide +kernel⟩
theorem d_broken {cdv : Value} {A : Around} {outer : List PySem.Env} {s : Shared} {H : Hp} {E : XK} {k : Nat} (h : Fc K mg) (k_check_dealing : Cal P w K mg base (k + 1) "check_dealing" 2 [] false [] c_check_dealing) (k_broken_by : Cal P w K mg base (k + 1) "broken_by" 2 [] false [] c_broken_by) (gd : Gd (cxOf (L2.CX P w) P w K mg base N_broken "broken" (defScope (top 89)) f cdv A outer s H E) (fun c d _ H => E c d H) (k + 1)) :
    SSs (cxOf (L2.CX P w) P w K mg base N_broken "broken" (defScope (top 89)) f cdv A outer s H E) ⟨[], [], false⟩ (fun c d _ H => E c d H) (defBody (top 89)) b_broken :=
  (ss_cons (s_expr (SP.se (sp_call gd k_check_dealing rfl (SPs.cons (sp_v rfl rfl (by first | exact .inl rfl | exact .inr (.inl rfl) | exact .inr (.inr rfl))) (SPs.cons (sp_v rfl rfl (by first | exact .inl rfl | exact .inr (.inl rfl) | exact .inr (.inr rfl))) SPs.nil)))))
  (ss_one (s_ret rfl (SP.se (sp_call gd k_broken_by rfl (SPs.cons (sp_v rfl rfl (by first | exact .inl rfl | exact .inr (.inl rfl) | exact .inr (.inr rfl))) (SPs.cons (sp_v rfl rfl (by first | exact .inl rfl | exact .inr (.inl rfl) | exact .inr (.inr rfl))) SPs.nil)))))))
theorem f_broken {k : Nat} (h : Fc K mg) (k_check_dealing : Cal P w K mg base (k + 1) "check_dealing" 2 [] false [] c_check_dealing) (k_broken_by : Cal P w K mg base (k + 1) "broken_by" 2 [] false [] c_broken_by) (F : FunD K "broken" "broken" (defArgs (top 89)) (defBody (top 89)) (defScope (top 89)) [] [] f fd) : FnOk P w K mg base (L2.CX P w) (k + 2) f fd ["book", "dealing"] (spC K 2 [] false c_broken) :=
  spC_cong p_broken.eq ▸ fn_mk F sc_broken rfl (by decide) fun cdv A outer s H E hr => d_broken h k_check_dealing k_broken_by (gd_of sc_broken.nd hr)
def b_barred : Rf.Env → Fl := (seqB (sDrop (lift (nd (gCall 2 [] c_check_dealing) [(eVar 0), (eVar 1)])))
  (seqB (sSet 2 (liftL (nd gLstD [])))
  (seqB (sFor (fun env => ((fun env => itEn ((eVar 1) env)) env).at env) (gT 2 (gsC (gN 3) (gsC (gN 4) gsN))) (sMut 2 (lift (fun env => mkL ((eComp true [5, 6] (fun env => itEn ((ePrp "Book" "rules" c_Book_rules (eVar 0)) env)) (gT 2 (gsC (gN 5) (gsC (gN 6) gsN))) (Tst.f (Tst.one (fun env => asB ((nd (g2 (fIs true)) [(nd (gCall 2 [] c_bar_of) [(nd gTupD [(eVar 6)]), (eVar 4)]), (eC .non)]) env)))) (nd gTupD [(eVar 3), (eVar 5)])) env))) fExt))
  (sRet (lift (fun env => keepI ((nd (g1 fTuple) [(eVar 2)]) env)))))))
def c0_barred : List D → C := runB 7 2 [] b_barred
def p_barred : Pe2 c0_barred where
  f := _
  ok := fun a b => by
    simp only [c0_barred, b_barred, runB, env0, outs, w_ret, w_nil, w_bad, w_seq, w_ifL, w_if, w_setL, w_setLL, w_dropL, w_retL, w_retLL, w_nd0, w_nd1, w_nd2, w_nd3, g1, g2, eVar, eC, eComp, compF_gN, compF_gT, Tst.f, wipeE, mkL, O.bind, bAnd, bOr, bNot, vAnd, vOr, vNot, vIf, eChain, eSl, eSlL, oNone, oSome, eTupS, eLstS, seqSt, eBm, eMeth, gMeth, ePrp, gCall, keepI, noX, seqF, List.length_cons, List.length_nil, List.map_cons, List.map_nil, List.cons_append, List.nil_append, List.set_cons_zero, List.set_cons_succ, List.getElem?_cons_zero, List.getElem?_cons_succ, List.replicate_succ, List.replicate_zero, Nat.reduceAdd, Nat.reduceSub, Bool.true_or, Bool.false_or, Bool.true_and]
    rfl
def c_barred : List D → C := p_barred.c
abbrev N_barred : List Str := ["book", "dealing", "found", "person", "hand", "number", "rule"]
theorem sc_barred : FnScope N_barred ["book", "dealing"] (defScope (top 90)) := ⟨rfl, rfl, rfl, by decide +kernel, rfl, by decide +kernel, by decide +kernel⟩
theorem d_barred {cdv : Value} {A : Around} {outer : List PySem.Env} {s : Shared} {H : Hp} {E : XK} {k : Nat} (h : Fc K mg) (k_check_dealing : Cal P w K mg base (k + 1) "check_dealing" 2 [] false [] c_check_dealing) (k_Book_rules : Prp P w K mg base k "Book" "rules" false c_Book_rules) (k_bar_of : Cal P w K mg base (k + 1) "bar_of" 2 [] false [] c_bar_of) (gd : Gd (cxOf (L2.CX P w) P w K mg base N_barred "barred" (defScope (top 90)) f cdv A outer s H E) (fun c d _ H => E c d H) (k + 1)) :
    SSs (cxOf (L2.CX P w) P w K mg base N_barred "barred" (defScope (top 90)) f cdv A outer s H E) ⟨[2], [], false⟩ (fun c d _ H => E c d H) (defBody (top 90)) b_barred :=
  (ss_cons (s_expr (SP.se (sp_call gd k_check_dealing rfl (SPs.cons (sp_v rfl rfl (by first | exact .inl rfl | exact .inr (.inl rfl) | exact .inr (.inr rfl))) (SPs.cons (sp_v rfl rfl (by first | exact .inl rfl | exact .inr (.inl rfl) | exact .inr (.inr rfl))) SPs.nil)))))
  (ss_cons (s_setO rfl rfl (asgO gd.nd rfl (by first | exact .inl rfl | exact .inr rfl) (SPL.so (b := true) (spl_lst SPs.nil))))
  (ss_cons (s_for (vs := [3, 4]) gd (SI.sie (si_enum rfl h.n_enumerate (sp_v rfl rfl (by first | exact .inl rfl | exact .inr (.inl rfl) | exact .inr (.inr rfl))))) (sg_tup (sgs_cons (sg_name rfl rfl gd.nd rfl (by first | exact .inl rfl | exact .inr rfl)) (sgs_cons (sg_name rfl rfl gd.nd rfl (by first | exact .inl rfl | exact .inr rfl)) sgs_nil)) fun t h => pg_tup gd.calm h) rfl (ss_one (s_extend rfl rfl (by first | exact .inl rfl | exact .inr (.inl rfl) | exact .inr (.inr rfl)) (SP.se (SPL.sp (spl_comp (own := [("number", 5), ("rule", 6)]) (T := (Tst.one (fun env => asB ((nd (g2 (fIs true)) [(nd (gCall 2 [] c_bar_of) [(nd gTupD [(eVar 6)]), (eVar 4)]), (eC .non)]) env)))) gd ⟨(si_enum rfl h.n_enumerate (sp_prop gd k_Book_rules (sp_v rfl rfl (by first | exact .inl rfl | exact .inr (.inl rfl) | exact .inr (.inr rfl))))), (blkOk_by (N := N_barred) (sc := (defScope (top 90))) (own := [("number", 5), ("rule", 6)]) (by decide +kernel)), fun _ _ _ _ _ => (sg_tup (sgs_cons (sg_name rfl rfl gd.blk.nd rfl (by first | exact .inl rfl | exact .inr rfl)) (sgs_cons (sg_name rfl rfl gd.blk.nd rfl (by first | exact .inl rfl | exact .inr rfl)) sgs_nil)) fun t h => pg_tup gd.blk.calm h), fun _ _ _ _ _ => (st_cmp op_notN v2_isnot (sp_call gd.blk k_bar_of rfl (SPs.cons (sp_tup (SPs.cons (sp_v rfl rfl (by first | exact .inl rfl | exact .inr (.inl rfl) | exact .inr (.inr rfl))) SPs.nil)) (SPs.cons (sp_v rfl rfl (by first | exact .inl rfl | exact .inr (.inl rfl) | exact .inr (.inr rfl))) SPs.nil))) sp_non), fun _ _ _ _ _ => (sp_tup (SPs.cons (sp_v rfl rfl (by first | exact .inl rfl | exact .inr (.inl rfl) | exact .inr (.inr rfl))) (SPs.cons (sp_v rfl rfl (by first | exact .inl rfl | exact .inr (.inl rfl) | exact .inr (.inr rfl))) SPs.nil)))⟩))))))
  (ss_one (s_ret rfl (SP.se (SP.kept (sp_t1 call_tuple_of vc_tuple rfl h.n_tuple boot_tuple (sp_own rfl rfl (by first | exact .inl rfl | exact .inr (.inl rfl) | exact .inr (.inr rfl)))))))))))
theorem f_barred {k : Nat} (h : Fc K mg) (k_check_dealing : Cal P w K mg base (k + 1) "check_dealing" 2 [] false [] c_check_dealing) (k_Book_rules : Prp P w K mg base k "Book" "rules" false c_Book_rules) (k_bar_of : Cal P w K mg base (k + 1) "bar_of" 2 [] false [] c_bar_of) (F : FunD K "barred" "barred" (defArgs (top 90)) (defBody (top 90)) (defScope (top 90)) [] [] f fd) : FnOk P w K mg base (L2.CX P w) (k + 2) f fd ["book", "dealing"] (spC K 2 [] false c_barred) :=
  spC_cong p_barred.eq ▸ fn_mk F sc_barred rfl (by decide) fun cdv A outer s H E hr => d_barred h k_check_dealing k_Book_rules k_bar_of (gd_of sc_barred.nd hr)
def b_bands : Rf.Env → Fl := (seqB (sDrop (lift (nd (gCall 2 [] c_check_dealing) [(eVar 0), (eVar 1)])))
  (seqB (sDrop (lift (nd (gCall 2 [] c_check_duty) [(eVar 0), (eVar 2)])))
  (sRet (lift (nd (g1 fTuple) [(fun env => mkL ((nd (g1 fSort) [(nd (gCall 1 [] c_least_of) [(nd (gCall 3 [] c_able_lots) [(eVar 0), (eVar 1), (nd (g2 fIx) [(nd (g2 fIx) [(ePrp "Book" "duties" c_Book_duties (eVar 0)), (eVar 2)]), (eC (.int 1))])])])]) env))])))))
def c0_bands : List D → C := runB 3 3 [] b_bands
def p_bands : Pe3 c0_bands where
  f := _
  ok := fun a b d => by
    simp only [c0_bands, b_bands, runB, env0, outs, w_ret, w_nil, w_bad, w_seq, w_ifL, w_if, w_setL, w_setLL, w_dropL, w_retL, w_retLL, w_nd0, w_nd1, w_nd2, w_nd3, g1, g2, eVar, eC, eComp, compF_gN, compF_gT, Tst.f, wipeE, mkL, O.bind, bAnd, bOr, bNot, vAnd, vOr, vNot, vIf, eChain, eSl, eSlL, oNone, oSome, eTupS, eLstS, seqSt, eBm, eMeth, gMeth, ePrp, gCall, keepI, noX, seqF, List.length_cons, List.length_nil, List.map_cons, List.map_nil, List.cons_append, List.nil_append, List.set_cons_zero, List.set_cons_succ, List.getElem?_cons_zero, List.getElem?_cons_succ, List.replicate_succ, List.replicate_zero, Nat.reduceAdd, Nat.reduceSub, Bool.true_or, Bool.false_or, Bool.true_and]
    rfl
def c_bands : List D → C := p_bands.c
abbrev N_bands : List Str := ["book", "dealing", "duty"]
theorem sc_bands : FnScope N_bands ["book", "dealing", "duty"] (defScope (top 91)) := ⟨rfl, rfl, rfl, by decide +kernel, rfl, by decide +kernel, by decide +kernel⟩
theorem d_bands {cdv : Value} {A : Around} {outer : List PySem.Env} {s : Shared} {H : Hp} {E : XK} {k : Nat} (h : Fc K mg) (k_check_dealing : Cal P w K mg base (k + 1) "check_dealing" 2 [] false [] c_check_dealing) (k_check_duty : Cal P w K mg base (k + 1) "check_duty" 2 [] false [] c_check_duty) (k_least_of : Cal P w K mg base (k + 1) "least_of" 1 [] false [] c_least_of) (k_able_lots : Cal P w K mg base (k + 1) "able_lots" 3 [] false [] c_able_lots) (k_Book_duties : Prp P w K mg base k "Book" "duties" false c_Book_duties) (gd : Gd (cxOf (L2.CX P w) P w K mg base N_bands "bands" (defScope (top 91)) f cdv A outer s H E) (fun c d _ H => E c d H) (k + 1)) :
    SSs (cxOf (L2.CX P w) P w K mg base N_bands "bands" (defScope (top 91)) f cdv A outer s H E) ⟨[], [], false⟩ (fun c d _ H => E c d H) (defBody (top 91)) b_bands :=
  (ss_cons (s_expr (SP.se (sp_call gd k_check_dealing rfl (SPs.cons (sp_v rfl rfl (by first | exact .inl rfl | exact .inr (.inl rfl) | exact .inr (.inr rfl))) (SPs.cons (sp_v rfl rfl (by first | exact .inl rfl | exact .inr (.inl rfl) | exact .inr (.inr rfl))) SPs.nil)))))
  (ss_cons (s_expr (SP.se (sp_call gd k_check_duty rfl (SPs.cons (sp_v rfl rfl (by first | exact .inl rfl | exact .inr (.inl rfl) | exact .inr (.inr rfl))) (SPs.cons (sp_v rfl rfl (by first | exact .inl rfl | exact .inr (.inl rfl) | exact .inr (.inr rfl))) SPs.nil)))))
  (ss_one (s_ret rfl (SP.se (sp_t1 call_tuple_of vc_tuple rfl h.n_tuple boot_tuple (SPL.sp (spl_b1 (cr_sortD gd.hu64) vc_sort rfl h.n_sorted Rf.boot_sorted (sp_call gd k_least_of rfl (SPs.cons (sp_call gd k_able_lots rfl (SPs.cons (sp_v rfl rfl (by first | exact .inl rfl | exact .inr (.inl rfl) | exact .inr (.inr rfl))) (SPs.cons (sp_v rfl rfl (by first | exact .inl rfl | exact .inr (.inl rfl) | exact .inr (.inr rfl))) (SPs.cons (sp_ix (sp_ix (sp_prop gd k_Book_duties (sp_v rfl rfl (by first | exact .inl rfl | exact .inr (.inl rfl) | exact .inr (.inr rfl)))) (sp_v rfl rfl (by first | exact .inl rfl | exact .inr (.inl rfl) | exact .inr (.inr rfl)))) sp_int) SPs.nil)))) SPs.nil))))))))))
theorem f_bands {k : Nat} (h : Fc K mg) (k_check_dealing : Cal P w K mg base (k + 1) "check_dealing" 2 [] false [] c_check_dealing) (k_check_duty : Cal P w K mg base (k + 1) "check_duty" 2 [] false [] c_check_duty) (k_least_of : Cal P w K mg base (k + 1) "least_of" 1 [] false [] c_least_of) (k_able_lots : Cal P w K mg base (k + 1) "able_lots" 3 [] false [] c_able_lots) (k_Book_duties : Prp P w K mg base k "Book" "duties" false c_Book_duties) (F : FunD K "bands" "bands" (defArgs (top 91)) (defBody (top 91)) (defScope (top 91)) [] [] f fd) : FnOk P w K mg base (L2.CX P w) (k + 2) f fd ["book", "dealing", "duty"] (spC K 3 [] false c_bands) :=
  spC_cong p_bands.eq ▸ fn_mk F sc_bands rfl (by decide) fun cdv A outer s H E hr => d_bands h k_check_dealing k_check_duty k_least_of k_able_lots k_Book_duties (gd_of sc_bands.nd hr)
def b_blocks : Rf.Env → Fl := (seqB (sSet 3 (lift (nd (gCall 3 [] c_bands) [(eVar 0), (eVar 1), (eVar 2)])))
  (seqB (sSet 4 (lift (nd (gCall 1 [] c_lots_of) [(fun env => mkT (rgD ((nd (g1 fLenX) [(eVar 1)]) env)))])))
  (sRet (lift (nd (g1 fTuple) [(fun env => mkL ((nd (g1 fSort) [(nd (gCall 1 [] c_least_of) [(fun env => mkL ((eComp true [5] (fun env => itA ((eVar 4) env)) (gN 5) (Tst.f (Tst.one (fun env => asB ((nd (g1 fAll) [(fun env => mkL ((eComp true [6] (fun env => itA ((eVar 3) env)) (gN 6) (Tst.f Tst.no) (nd (g1 fAny) [(fun env => mkL ((eComp true [7] (fun env => itA ((eVar 6) env)) (gN 7) (Tst.f Tst.no) (nd (g2 (fIn false)) [(eVar 7), (eVar 5)])) env))])) env))]) env)))) (eVar 5)) env))])]) env))])))))
def c0_blocks : List D → C := runB 8 3 [] b_blocks
def p_blocks : Pe3 c0_blocks where
  f := _
  ok := fun a b d => by
    simp only [c0_blocks, b_blocks, runB, env0, outs, w_ret, w_nil, w_bad, w_seq, w_ifL, w_if, w_setL, w_setLL, w_dropL, w_retL, w_retLL, w_nd0, w_nd1, w_nd2, w_nd3, g1, g2, eVar, eC, eComp, compF_gN, compF_gT, Tst.f, wipeE, mkL, O.bind, bAnd, bOr, bNot, vAnd, vOr, vNot, vIf, eChain, eSl, eSlL, oNone, oSome, eTupS, eLstS, seqSt, eBm, eMeth, gMeth, ePrp, gCall, keepI, noX, seqF, List.length_cons, List.length_nil, List.map_cons, List.map_nil, List.cons_append, List.nil_append, List.set_cons_zero, List.set_cons_succ, List.getElem?_cons_zero, List.getElem?_cons_succ, List.replicate_succ, List.replicate_zero, Nat.reduceAdd, Nat.reduceSub, Bool.true_or, Bool.false_or, Bool.true_and]
    rfl
def c_blocks : List D → C := p_blocks.c
abbrev N_blocks : List Str := ["book", "dealing", "duty", "some", "lots", "lot", "band", "one"]
theorem sc_blocks : FnScope N_blocks ["book", "dealing", "duty"] (defScope (top 92)) := ⟨rfl, rfl, rfl, by decide +kernel, rfl, by decide +kernel, by decide +kernel⟩
theorem d_blocks {cdv : Value} {A : Around} {outer : List PySem.Env} {s : Shared} {H : Hp} {E : XK} {k : Nat} (h : Fc K mg) (k_bands : Cal P w K mg base (k + 1) "bands" 3 [] false [] c_bands) (k_lots_of : Cal P w K mg base (k + 1) "lots_of" 1 [] false [] c_lots_of) (k_least_of : Cal P w K mg base (k + 1) "least_of" 1 [] false [] c_least_of) (gd : Gd (cxOf (L2.CX P w) P w K mg base N_blocks "blocks" (defScope (top 92)) f cdv A outer s H E) (fun c d _ H => E c d H) (k + 1)) :
    SSs (cxOf (L2.CX P w) P w K mg base N_blocks "blocks" (defScope (top 92)) f cdv A outer s H E) ⟨[], [], false⟩ (fun c d _ H => E c d H) (defBody (top 92)) b_blocks :=
  (ss_cons (s_set rfl rfl (asgE gd.nd rfl (by first | exact .inl rfl | exact .inr rfl) (SP.se (sp_call gd k_bands rfl (SPs.cons (sp_v rfl rfl (by first | exact .inl rfl | exact .inr (.inl rfl) | exact .inr (.inr rfl))) (SPs.cons (sp_v rfl rfl (by first | exact .inl rfl | exact .inr (.inl rfl) | exact .inr (.inr rfl))) (SPs.cons (sp_v rfl rfl (by first | exact .inl rfl | exact .inr (.inl rfl) | exact .inr (.inr rfl))) SPs.nil)))))))
  (ss_cons (s_set rfl rfl (asgE gd.nd rfl (by first | exact .inl rfl | exact .inr rfl) (SP.se (sp_call gd k_lots_of rfl (SPs.cons (sp_tupRg gd rfl h.n_tuple rfl h.n_range (sp_b1 call_lenX vc_lenX rfl h.n_len boot_len (sp_v rfl rfl (by first | exact .inl rfl | exact .inr (.inl rfl) | exact .inr (.inr rfl))))) SPs.nil)))))
  (ss_one (s_ret rfl (SP.se (sp_t1 call_tuple_of vc_tuple rfl h.n_tuple boot_tuple (SPL.sp (spl_b1 (cr_sortD gd.hu64) vc_sort rfl h.n_sorted Rf.boot_sorted (sp_call gd k_least_of rfl (SPs.cons (SPL.sp (spl_comp (own := [("lot", 5)]) (T := (Tst.one (fun env => asB ((nd (g1 fAll) [(fun env => mkL ((eComp true [6] (fun env => itA ((eVar 3) env)) (gN 6) (Tst.f Tst.no) (nd (g1 fAny) [(fun env => mkL ((eComp true [7] (fun env => itA ((eVar 6) env)) (gN 7) (Tst.f Tst.no) (nd (g2 (fIn false)) [(eVar 7), (eVar 5)])) env))])) env))]) env)))) gd ⟨(si_any (sp_v rfl rfl (by first | exact .inl rfl | exact .inr (.inl rfl) | exact .inr (.inr rfl)))), (blkOk_by (N := N_blocks) (sc := (defScope (top 92))) (own := [("lot", 5)]) (by decide +kernel)), fun _ _ _ _ _ => (sg_name rfl rfl gd.blk.nd rfl (by first | exact .inl rfl | exact .inr rfl)), fun _ _ _ _ _ => (st_val (sp_b1 (cr_all gd.blk.calm) vc_all rfl h.n_all boot_all (SPL.sp (spl_comp (own := [("band", 6)]) (T := Tst.no) gd.blk ⟨(si_any (sp_v rfl rfl (by first | exact .inl rfl | exact .inr (.inl rfl) | exact .inr (.inr rfl)))), (blkOk_by (N := N_blocks) (sc := (relS _ (defScope (top 92)))) (own := [("band", 6)]) (by decide +kernel)), fun _ _ _ _ _ => (sg_name rfl rfl gd.blk.blk.nd rfl (by first | exact .inl rfl | exact .inr rfl)), fun _ _ _ _ _ => trivial, fun _ _ _ _ _ => (sp_b1 (cr_any gd.blk.blk.calm) vc_any rfl h.n_any boot_any (SPL.sp (spl_comp (own := [("one", 7)]) (T := Tst.no) gd.blk.blk ⟨(si_any (sp_v rfl rfl (by first | exact .inl rfl | exact .inr (.inl rfl) | exact .inr (.inr rfl)))), (blkOk_by (N := N_blocks) (sc := (relS _ (relS _ (defScope (top 92))))) (own := [("one", 7)]) (by decide +kernel)), fun _ _ _ _ _ => (sg_name rfl rfl gd.blk.blk.blk.nd rfl (by first | exact .inl rfl | exact .inr rfl)), fun _ _ _ _ _ => trivial, fun _ _ _ _ _ => (sp_cmp (op_inAll gd.hu) (v2_in false) (sp_v rfl rfl (by first | exact .inl rfl | exact .inr (.inl rfl) | exact .inr (.inr rfl))) (sp_v rfl rfl (by first | exact .inl rfl | exact .inr (.inl rfl) | exact .inr (.inr rfl))))⟩)))⟩)))), fun _ _ _ _ _ => (sp_v rfl rfl (by first | exact .inl rfl | exact .inr (.inl rfl) | exact .inr (.inr rfl)))⟩)) SPs.nil))))))))))
theorem f_blocks {k : Nat} (h : Fc K mg) (k_bands : Cal P w K mg base (k + 1) "bands" 3 [] false [] c_bands) (k_lots_of : Cal P w K mg base (k + 1) "lots_of" 1 [] false [] c_lots_of) (k_least_of : Cal P w K mg base (k + 1) "least_of" 1 [] false [] c_least_of) (F : FunD K "blocks" "blocks" (defArgs (top 92)) (defBody (top 92)) (defScope (top 92)) [] [] f fd) : FnOk P w K mg base (L2.CX P w) (k + 2) f fd ["book", "dealing", "duty"] (spC K 3 [] false c_blocks) :=
  spC_cong p_blocks.eq ▸ fn_mk F sc_blocks rfl (by decide) fun cdv A outer s H E hr => d_blocks h k_bands k_lots_of k_least_of (gd_of sc_blocks.nd hr)
def b__law_pot : Rf.Env → Fl := (seqB (sSet 2 (lift (vIf (fun env => asB ((nd (g2 fLt) [(eVar 1), (nd (g1 fLenX) [(eVar 0)])]) env)) (nd (g2 fIx) [(eVar 0), (eVar 1)]) (nd (g2 fAdd) [(nd (g2 fMulI) [(eC (.int 33)), (eVar 1)]), (eC (.int 19))]))))
  (seqB (sSet 3 (lift (nd (g2 fMulI) [(nd (g2 fMod) [(nd (g1 fInt) [(nd (g1 fAbs) [(eVar 2)])]), (nd (g2 fPow) [(nd (g2 fPow) [(eC (.int 10)), (eC (.int 60))]), (eC (.int 5))])]), (nd (g1 fInt) [(nd (g2 fGe) [(nd (g1 fAbs) [(eVar 2)]), (nd (g2 fPow) [(eC (.int 10)), (eC (.int 18))])])])])))
  (seqB (sSet 4 (lift (nd (g2 fMod) [(nd (g1 fInt) [(eVar 2)]), (eC (.int 2305843009213693951))])))
  (sRet (liftL (nd gLstD [(eVar 3), (nd (g2 fMod) [(nd (g1 fInt) [(nd (g2 fAdd) [(nd (g2 fAdd) [(nd (g2 fMulI) [(eVar 4), (eC (.int 78349))]), (nd (g2 fMulI) [(nd (g2 fMulI) [(eC (.int 9001)), (eVar 1)]), (eVar 1)])]), (eC (.int 223))])]), (eC (.int 2305843009213693921))]), (eC (.int 0))]))))))
def c__law_pot : List D → C := runB 5 2 [] b__law_pot
abbrev N__law_pot : List Str := ["_law_script", "_law_k", "_law_cell", "_law_first", "_law_small"]
theorem sc__law_pot : FnScope N__law_pot ["_law_script", "_law_k"] (defScope (top 94)) := ⟨rfl, rfl, rfl, by decide +kernel, rfl, by decide +kernel, by decide +kernel⟩
theorem d__law_pot {cdv : Value} {A : Around} {outer : List PySem.Env} {s : Shared} {H : Hp} {E : XK} {k : Nat} (h : Fc K mg)  (gd : Gd (cxOf (L2.CX P w) P w K mg base N__law_pot "_law_pot" (defScope (top 94)) f cdv A outer s H E) (fun c d _ H => E c d H) (k + 1)) :
    SSs (cxOf (L2.CX P w) P w K mg base N__law_pot "_law_pot" (defScope (top 94)) f cdv A outer s H E) ⟨[], [], true⟩ (fun c d _ H => E c d H) (defBody (top 94)) b__law_pot :=
  (ss_cons (s_set rfl rfl (asgE gd.nd rfl (by first | exact .inl rfl | exact .inr rfl) (SP.se (sp_if (st_cmp op_lt v2_lt (sp_v rfl rfl (by first | exact .inl rfl | exact .inr (.inl rfl) | exact .inr (.inr rfl))) (sp_b1 call_lenX vc_lenX rfl h.n_len boot_len (sp_v rfl rfl (by first | exact .inl rfl | exact .inr (.inl rfl) | exact .inr (.inr rfl))))) (sp_ix (sp_v rfl rfl (by first | exact .inl rfl | exact .inr (.inl rfl) | exact .inr (.inr rfl))) (sp_v rfl rfl (by first | exact .inl rfl | exact .inr (.inl rfl) | exact .inr (.inr rfl)))) (sp_op op_addAll v2_add (sp_op op_mulW v2_mul sp_int (sp_v rfl rfl (by first | exact .inl rfl | exact .inr (.inl rfl) | exact .inr (.inr rfl)))) sp_int)))))
  (ss_cons (s_set rfl rfl (asgE gd.nd rfl (by first | exact .inl rfl | exact .inr rfl) (SP.se (sp_op op_mulW v2_mul (sp_op op_mod v2_mod (sp_t1 call_intAll vc_int rfl h.n_int boot_int (sp_b1 call_abs vc_abs rfl h.n_abs boot_abs (sp_v rfl rfl (by first | exact .inl rfl | exact .inr (.inl rfl) | exact .inr (.inr rfl))))) (sp_op op_powW v2_pow (sp_op op_powW v2_pow sp_int sp_int) sp_int)) (sp_t1 call_intAll vc_int rfl h.n_int boot_int (sp_cmp op_ge v2_ge (sp_b1 call_abs vc_abs rfl h.n_abs boot_abs (sp_v rfl rfl (by first | exact .inl rfl | exact .inr (.inl rfl) | exact .inr (.inr rfl)))) (sp_op op_powW v2_pow sp_int sp_int)))))))
  (ss_cons (s_set rfl rfl (asgE gd.nd rfl (by first | exact .inl rfl | exact .inr rfl) (SP.se (sp_op op_mod v2_mod (sp_t1 call_intAll vc_int rfl h.n_int boot_int (sp_v rfl rfl (by first | exact .inl rfl | exact .inr (.inl rfl) | exact .inr (.inr rfl)))) sp_int))))
  (ss_one (s_retO rfl (SPL.so (b := true) (spl_lst (SPs.cons (sp_v rfl rfl (by first | exact .inl rfl | exact .inr (.inl rfl) | exact .inr (.inr rfl))) (SPs.cons (sp_op op_mod v2_mod (sp_t1 call_intAll vc_int rfl h.n_int boot_int (sp_op op_addAll v2_add (sp_op op_addAll v2_add (sp_op op_mulW v2_mul (sp_v rfl rfl (by first | exact .inl rfl | exact .inr (.inl rfl) | exact .inr (.inr rfl))) sp_int) (sp_op op_mulW v2_mul (sp_op op_mulW v2_mul sp_int (sp_v rfl rfl (by first | exact .inl rfl | exact .inr (.inl rfl) | exact .inr (.inr rfl)))) (sp_v rfl rfl (by first | exact .inl rfl | exact .inr (.inl rfl) | exact .inr (.inr rfl))))) sp_int)) sp_int) (SPs.cons sp_int SPs.nil))))))))))
theorem f__law_pot {k : Nat} (h : Fc K mg)  (F : FunD K "_law_pot" "_law_pot" (defArgs (top 94)) (defBody (top 94)) (defScope (top 94)) [] [] f fd) : FnOk P w K mg base (L2.CX P w) (k + 2) f fd ["_law_script", "_law_k"] (spC K 2 [] true c__law_pot) :=
  fn_mk F sc__law_pot rfl (by decide) fun cdv A outer s H E hr => d__law_pot h  (gd_of sc__law_pot.nd hr)
def b__law_take : Rf.Env → Fl := (seqB (sIf (liftB (fun env => noX ((fun env => asB ((nd (g2 fGt) [(nd (g2 fIx) [(eVar 0), (eC (.int 0))]), (eC (.int 0))]) env)) env))) (seqB (sSet 2 (lift (fun env => keepI ((nd (g2 fMod) [(nd (g1 fInt) [(nd (g2 fIx) [(eVar 0), (eC (.int 0))])]), (eVar 1)]) env))))
  (seqB (sSetIx 0 (lift (fun env => keepI ((nd (g2 fDiv) [(nd (g2 fIx) [(eVar 0), (eC (.int 0))]), (eVar 1)]) env))) (eC (.int 0)))
  (sRet (lift (eVar 2))))) sNil)
  (seqB (sSetIx 0 (lift (fun env => keepI ((nd (g2 fAdd) [(nd (g2 fIx) [(eVar 0), (eC (.int 2))]), (eC (.int 1))]) env))) (eC (.int 2)))
  (seqB (sSet 3 (lift (fun env => keepI ((nd (g2 fIx) [(fun env => mkL ((nd gLstD [(eC (.int 2147483647)), (eC (.int 2147483629)), (eC (.int 2147483587)), (eC (.int 2147483579)), (eC (.int 2147483563))]) env)), (nd (g2 fMod) [(nd (g1 fInt) [(nd (g2 fIx) [(eVar 0), (eC (.int 2))])]), (eC (.int 5))])]) env))))
  (seqB (sSet 4 (lift (fun env => keepI ((nd (g2 fMod) [(nd (g1 fInt) [(nd (g2 fPow) [(nd (g1 fInt) [(nd (g2 fAdd) [(nd (g2 fAdd) [(nd (g2 fIx) [(eVar 0), (eC (.int 1))]), (nd (g2 fMulI) [(nd (g2 fMulI) [(eC (.int 92099)), (nd (g2 fIx) [(eVar 0), (eC (.int 2))])]), (nd (g2 fIx) [(eVar 0), (eC (.int 2))])])]), (eC (.int 35))])]), (eC (.int 3))])]), (eVar 3)]) env))))
  (sRet (lift (fun env => keepI ((nd (g2 fMod) [(nd (g1 fInt) [(nd (g2 fDiv) [(nd (g2 fMulI) [(eVar 4), (nd (g2 fAdd) [(nd (g2 fMod) [(nd (g1 fInt) [(eVar 4)]), (eC (.int 10007))]), (nd (g2 fMulI) [(eC (.int 97)), (nd (g2 fIx) [(eVar 0), (eC (.int 2))])])])]), (eC (.int 127))])]), (eVar 1)]) env))))))))
def c__law_take : List D → C := runB 5 2 [0] b__law_take
abbrev N__law_take : List Str := ["_law_pot_here", "_law_upto", "_law_digit", "_law_prime", "_law_blend"]
theorem sc__law_take : FnScope N__law_take ["_law_pot_here", "_law_upto"] (defScope (top 95)) := ⟨rfl, rfl, rfl, by decide +kernel, rfl, by decide +kernel, by decide +kernel⟩
theorem d__law_take {cdv : Value} {A : Around} {outer : List PySem.Env} {s : Shared} {H : Hp} {E : XK} {k : Nat} (h : Fc K mg)  (gd : Gd (cxOf (L2.CX P w) P w K mg base N__law_take "_law_take" (defScope (top 95)) f cdv A outer s H E) (fun c d _ H => E c d H) (k + 1)) :
    SSs (cxOf (L2.CX P w) P w K mg base N__law_take "_law_take" (defScope (top 95)) f cdv A outer s H E) ⟨[0], [0], false⟩ (fun c d _ H => E c d H) (defBody (top 95)) b__law_take :=
  (ss_cons (s_if (STp.ste (STp.look (st_cmp op_gt v2_gt (sp_ix (sp_own rfl rfl (by first | exact .inl rfl | exact .inr (.inl rfl) | exact .inr (.inr rfl))) sp_int) sp_int))) (ss_cons (s_set rfl rfl (asgE gd.nd rfl (by first | exact .inl rfl | exact .inr rfl) (SP.se (SP.kept (sp_op op_mod v2_mod (sp_t1 call_intAll vc_int rfl h.n_int boot_int (sp_ix (sp_own rfl rfl (by first | exact .inl rfl | exact .inr (.inl rfl) | exact .inr (.inr rfl))) sp_int)) (sp_v rfl rfl (by first | exact .inl rfl | exact .inr (.inl rfl) | exact .inr (.inr rfl))))))))
  (ss_cons (s_setIx rfl rfl (by first | exact .inl rfl | exact .inr (.inl rfl) | exact .inr (.inr rfl)) (SP.se (SP.kept (sp_op op_fdiv v2_div (sp_ix (sp_own rfl rfl (by first | exact .inl rfl | exact .inr (.inl rfl) | exact .inr (.inr rfl))) sp_int) (sp_v rfl rfl (by first | exact .inl rfl | exact .inr (.inl rfl) | exact .inr (.inr rfl)))))) sp_int)
  (ss_one (s_ret rfl (SP.se (sp_v rfl rfl (by first | exact .inl rfl | exact .inr (.inl rfl) | exact .inr (.inr rfl)))))))) ss_nil)
  (ss_cons (s_setIx rfl rfl (by first | exact .inl rfl | exact .inr (.inl rfl) | exact .inr (.inr rfl)) (SP.se (SP.kept (sp_op op_addAll v2_add (sp_ix (sp_own rfl rfl (by first | exact .inl rfl | exact .inr (.inl rfl) | exact .inr (.inr rfl))) sp_int) sp_int))) sp_int)
  (ss_cons (s_set rfl rfl (asgE gd.nd rfl (by first | exact .inl rfl | exact .inr rfl) (SP.se (SP.kept (sp_ix (SPL.sp (spl_lst (SPs.cons sp_int (SPs.cons sp_int (SPs.cons sp_int (SPs.cons sp_int (SPs.cons sp_int SPs.nil))))))) (sp_op op_mod v2_mod (sp_t1 call_intAll vc_int rfl h.n_int boot_int (sp_ix (sp_own rfl rfl (by first | exact .inl rfl | exact .inr (.inl rfl) | exact .inr (.inr rfl))) sp_int)) sp_int))))))
  (ss_cons (s_set rfl rfl (asgE gd.nd rfl (by first | exact .inl rfl | exact .inr rfl) (SP.se (SP.kept (sp_op op_mod v2_mod (sp_t1 call_intAll vc_int rfl h.n_int boot_int (sp_op op_powW v2_pow (sp_t1 call_intAll vc_int rfl h.n_int boot_int (sp_op op_addAll v2_add (sp_op op_addAll v2_add (sp_ix (sp_own rfl rfl (by first | exact .inl rfl | exact .inr (.inl rfl) | exact .inr (.inr rfl))) sp_int) (sp_op op_mulW v2_mul (sp_op op_mulW v2_mul sp_int (sp_ix (sp_own rfl rfl (by first | exact .inl rfl | exact .inr (.inl rfl) | exact .inr (.inr rfl))) sp_int)) (sp_ix (sp_own rfl rfl (by first | exact .inl rfl | exact .inr (.inl rfl) | exact .inr (.inr rfl))) sp_int))) sp_int)) sp_int)) (sp_v rfl rfl (by first | exact .inl rfl | exact .inr (.inl rfl) | exact .inr (.inr rfl))))))))
  (ss_one (s_ret rfl (SP.se (SP.kept (sp_op op_mod v2_mod (sp_t1 call_intAll vc_int rfl h.n_int boot_int (sp_op op_fdiv v2_div (sp_op op_mulW v2_mul (sp_v rfl rfl (by first | exact .inl rfl | exact .inr (.inl rfl) | exact .inr (.inr rfl))) (sp_op op_addAll v2_add (sp_op op_mod v2_mod (sp_t1 call_intAll vc_int rfl h.n_int boot_int (sp_v rfl rfl (by first | exact .inl rfl | exact .inr (.inl rfl) | exact .inr (.inr rfl)))) sp_int) (sp_op op_mulW v2_mul sp_int (sp_ix (sp_own rfl rfl (by first | exact .inl rfl | exact .inr (.inl rfl) | exact .inr (.inr rfl))) sp_int)))) sp_int)) (sp_v rfl rfl (by first | exact .inl rfl | exact .inr (.inl rfl) | exact .inr (.inr rfl))))))))))))
theorem f__law_take {k : Nat} (h : Fc K mg)  (F : FunD K "_law_take" "_law_take" (defArgs (top 95)) (defBody (top 95)) (defScope (top 95)) [] [] f fd) : FnOk P w K mg base (L2.CX P w) (k + 2) f fd ["_law_pot_here", "_law_upto"] (spC K 2 [0] false c__law_take) :=
  fn_mk F sc__law_take rfl (by decide) fun cdv A outer s H E hr => d__law_take h  (gd_of sc__law_take.nd hr)
def b__law_some : Rf.Env → Fl := (seqB (sPar [3, 4] [(liftL (nd (g1 fListL) [(eVar 1)])), (liftL (nd gLstD []))])
  (seqB (sFor (fun env => ((fun env => itR1 ((eVar 2) env)) env).at env) (gN 5) (sMut 4 (fun env => ownI ((ePopAt 3 (eCallR [.io 0, .ex (lift (fun env => keepI ((nd (g1 fLenX) [(eVar 3)]) env)))] c__law_take)) env)) fApp))
  (sRet (eMove 4))))
def c__law_some : List D → C := runB 6 3 [0] b__law_some
abbrev N__law_some : List Str := ["_law_pot_here", "_law_pool", "_law_amount", "_law_left", "_law_found", "_law_turn"]
theorem sc__law_some : FnScope N__law_some ["_law_pot_here", "_law_pool", "_law_amount"] (defScope (top 96)) := ⟨rfl, rfl, rfl, by decide +kernel, rfl, by decide +kernel, by decide +kernel⟩
theorem d__law_some {cdv : Value} {A : Around} {outer : List PySem.Env} {s : Shared} {H : Hp} {E : XK} {k : Nat} (h : Fc K mg) (k__law_take : Cal P w K mg base (k + 1) "_law_take" 2 [0] false [] c__law_take) (gd : Gd (cxOf (L2.CX P w) P w K mg base N__law_some "_law_some" (defScope (top 96)) f cdv A outer s H E) (fun c d _ H => E c d H) (k + 1)) :
    SSs (cxOf (L2.CX P w) P w K mg base N__law_some "_law_some" (defScope (top 96)) f cdv A outer s H E) ⟨[0, 3, 4], [0], false⟩ (fun c d _ H => E c d H) (defBody (top 96)) b__law_some :=
  (ss_cons (by first | exact (s_par2 gd rfl rfl rfl rfl (SVs.own (SPL.so (b := true) (spl_t1 call_list_of vc_list rfl h.n_list boot_list (sp_v rfl rfl (by first | exact .inl rfl | exact .inr (.inl rfl) | exact .inr (.inr rfl))))) (SVs.own (SPL.so (b := true) (spl_lst SPs.nil)) SVs.nil))) | exact (s_parC (is := [3, 4]) gd (pgs_cons (pg_name gd.nd rfl (by first | exact .inl rfl | exact .inr rfl)) (pgs_cons (pg_name gd.nd rfl (by first | exact .inl rfl | exact .inr rfl)) pgs_nil)) (SVs.own (SPL.so (b := true) (spl_t1 call_list_of vc_list rfl h.n_list boot_list (sp_v rfl rfl (by first | exact .inl rfl | exact .inr (.inl rfl) | exact .inr (.inr rfl))))) (SVs.own (SPL.so (b := true) (spl_lst SPs.nil)) SVs.nil)) rfl rfl))
  (ss_cons (s_for (vs := [5]) gd (SI.sie (si_range1 rfl h.n_range (sp_v rfl rfl (by first | exact .inl rfl | exact .inr (.inl rfl) | exact .inr (.inr rfl))))) (sg_name rfl rfl gd.nd rfl (by first | exact .inl rfl | exact .inr rfl)) rfl (ss_one (s_append rfl rfl (by first | exact .inl rfl | exact .inr (.inl rfl) | exact .inr (.inr rfl)) (SE.so (se_popAt rfl rfl (by first | exact .inl rfl | exact .inr (.inl rfl) | exact .inr (.inr rfl)) (se_callR gd k__law_take rfl (SAs.io rfl (by first | exact .inl rfl | exact .inr (.inl rfl) | exact .inr (.inr rfl)) (by decide) (by decide) rfl (SAs.ex (SP.se (SP.kept (sp_b1 call_lenX vc_lenX rfl h.n_len boot_len (sp_own rfl rfl (by first | exact .inl rfl | exact .inr (.inl rfl) | exact .inr (.inr rfl)))))) SAs.nil))))))))
  (ss_one (s_ret rfl (SO.se (so_move rfl rfl (by first | exact .inl rfl | exact .inr (.inl rfl) | exact .inr (.inr rfl))))))))
theorem f__law_some {k : Nat} (h : Fc K mg) (k__law_take : Cal P w K mg base (k + 1) "_law_take" 2 [0] false [] c__law_take) (F : FunD K "_law_some" "_law_some" (defArgs (top 96)) (defBody (top 96)) (defScope (top 96)) [] [] f fd) : FnOk P w K mg base (L2.CX P w) (k + 2) f fd ["_law_pot_here", "_law_pool", "_law_amount"] (spC K 3 [0] false c__law_some) :=
  fn_mk F sc__law_some rfl (by decide) fun cdv A outer s H E hr => d__law_some h k__law_take (gd_of sc__law_some.nd hr)
def b__law_places : Rf.Env → Fl := (sRet (lift (fun env => mkL ((fun env => rgD ((nd (g2 fMax2) [(eC (.int 1)), (nd (g2 fMin2) [(eVar 1), (nd (g1 fLenX) [(eVar 0)])])]) env)) env))))
def c0__law_places : List D → C := runB 2 2 [] b__law_places
def p__law_places : Pe2 c0__law_places where
  f := _
  ok := fun a b => by
    simp only [c0__law_places, b__law_places, runB, env0, outs, w_ret, w_nil, w_bad, w_seq, w_ifL, w_if, w_setL, w_setLL, w_dropL, w_retL, w_retLL, w_nd0, w_nd1, w_nd2, w_nd3, g1, g2, eVar, eC, eComp, compF_gN, compF_gT, Tst.f, wipeE, mkL, O.bind, bAnd, bOr, bNot, vAnd, vOr, vNot, vIf, eChain, eSl, eSlL, oNone, oSome, eTupS, eLstS, seqSt, eBm, eMeth, gMeth, ePrp, gCall, keepI, noX, seqF, List.length_cons, List.length_nil, List.map_cons, List.map_nil, List.cons_append, List.nil_append, List.set_cons_zero, List.set_cons_succ, List.getElem?_cons_zero, List.getElem?_cons_succ, List.replicate_succ, List.replicate_zero, Nat.reduceAdd, Nat.reduceSub, Bool.true_or, Bool.false_or, Bool.true_and]
    rfl
def c__law_places : List D → C := p__law_places.c
abbrev N__law_places : List Str := ["_law_script", "_law_most"]
theorem sc__law_places : FnScope N__law_places ["_law_script", "_law_most"] (defScope (top 97)) := ⟨rfl, rfl, rfl, by decide +kernel, rfl, by decide +kernel, by decide +kernel⟩
theorem d__law_places {cdv : Value} {A : Around} {outer : List PySem.Env} {s : Shared} {H : Hp} {E : XK} {k : Nat} (h : Fc K mg)  (gd : Gd (cxOf (L2.CX P w) P w K mg base N__law_places "_law_places" (defScope (top 97)) f cdv A outer s H E) (fun c d _ H => E c d H) (k + 1)) :
    SSs (cxOf (L2.CX P w) P w K mg base N__law_places "_law_places" (defScope (top 97)) f cdv A outer s H E) ⟨[], [], false⟩ (fun c d _ H => E c d H) (defBody (top 97)) b__law_places :=
  (ss_one (s_ret rfl (SP.se (SPL.sp (spl_lstRg gd rfl h.n_list rfl h.n_range (sp_b2 (call_max2 gd.calm) vc_max2 rfl h.n_max boot_max sp_int (sp_b2 (call_min2 gd.calm) vc_min2 rfl h.n_min boot_min (sp_v rfl rfl (by first | exact .inl rfl | exact .inr (.inl rfl) | exact .inr (.inr rfl))) (sp_b1 call_lenX vc_lenX rfl h.n_len boot_len (sp_v rfl rfl (by first | exact .inl rfl | exact .inr (.inl rfl) | exact .inr (.inr rfl)))))))))))
theorem f__law_places {k : Nat} (h : Fc K mg)  (F : FunD K "_law_places" "_law_places" (defArgs (top 97)) (defBody (top 97)) (defScope (top 97)) [] [] f fd) : FnOk P w K mg base (L2.CX P w) (k + 2) f fd ["_law_script", "_law_most"] (spC K 2 [] false c__law_places) :=
  spC_cong p__law_places.eq ▸ fn_mk F sc__law_places rfl (by decide) fun cdv A outer s H E hr => d__law_places h  (gd_of sc__law_places.nd hr)
def b__law_right : Rf.Env → Fl := (seqB (sUnp [1, 2, 3] (eCallR [.io 0, .ex (lift (fun env => mkL ((nd gLstD [(eC (.str "a")), (eC (.str "boss")), (eC (.str "clerk")), (eC (.str "role")), (eC (.str "duty")), (eC (.str "zzzzzzzz"))]) env))), .ex (lift (eC (.int 3)))] c__law_some))
  (seqB (sSet 4 (liftL (nd gLstD [(eC (.str "rights p q r")), (nd (g2 fAdd) [(nd (g2 fAdd) [(eC (.str "role ")), (eVar 1)]), (eC (.str " p"))]), (nd (g2 fAdd) [(nd (g2 fAdd) [(eC (.str "role ")), (eVar 2)]), (eC (.str " q r"))]), (nd (g2 fAdd) [(eC (.str "role ")), (eVar 3)])])))
  (seqB (sMut 4 (lift (fun env => mkL ((nd gLstD [(nd (g2 fAdd) [(nd (g2 fAdd) [(nd (g2 fAdd) [(eC (.str "above ")), (eVar 3)]), (eC (.str " "))]), (eVar 1)]), (eC (.str "duty 2 p q"))]) env))) fExt)
  (seqB (sSet 5 (lift (nd (gMkK "Book" 1 [0] c_Book___init__) [(fun env => keepI ((eBm isStr fJoin (eC (.str "\n")) (eVar 4)) env))])))
  (seqB (sPar [6, 7] [(lift (nd gTupD [(nd gTupD [(eVar 1)]), (nd gTupD [(eVar 2)]), (nd gTupD [])])), (lift (nd gTupD [(eVar 1), (eVar 2)]))])
  (seqB (sSet 8 (liftL (nd gLstD [(nd (g2 (fEqOwn "Book" c_Book___eq__)) [(eVar 5), (nd (gMkO "Book" 2 c_Book___init__) [(eBm isStr fJoin (eC (.str "\n")) (eVar 4))])]), (nd (g2 (fEq false)) [(eMethK "Book" "gives" 1 [0] c_Book_gives (eVar 5) [(eVar 2)]), (eMeth "Book" "gives" 2 [] c_Book_gives (eVar 5) [(eVar 2)])]), (nd (g2 (fEq false)) [(eMethK "Book" "below" 1 [0] c_Book_below (eVar 5) [(eVar 3)]), (eMeth "Book" "below" 2 [] c_Book_below (eVar 5) [(eVar 3)])])])))
  (seqB (sSet 9 (lift (eMethK "Book" "with_rule" 2 [1, 0] c_Book_with_rule (eVar 5) [(eVar 7), (eC (.int 2))])))
  (seqB (sMut 8 (fun env => ownI ((lift (nd (g2 (fEqOwn "Book" c_Book___eq__)) [(eVar 9), (eMeth "Book" "with_rule" 3 [] c_Book_with_rule (eVar 5) [(eC (.int 2)), (eVar 7)])])) env)) fApp)
  (seqB (sMut 8 (fun env => ownI ((lift (nd (g2 (fEqOwn "Book" c_Book___eq__)) [(eMethK "Book" "without_rule" 1 [0] c_Book_without_rule (eVar 9) [(eC (.int 0))]), (eVar 5)])) env)) fApp)
  (seqB (sMut 8 (fun env => ownI ((lift (nd (g2 (fEqOwn "Book" c_Book___eq__)) [(eMethK "Book" "with_right" 2 [1, 0] c_Book_with_right (eVar 5) [(eC (.str "q")), (eVar 1)]), (eMeth "Book" "with_right" 3 [] c_Book_with_right (eVar 5) [(eVar 1), (eC (.str "q"))])])) env)) fApp)
  (seqB (sMut 8 (fun env => ownI ((lift (nd (g2 (fEqOwn "Book" c_Book___eq__)) [(eMethK "Book" "without_right" 2 [1, 0] c_Book_without_right (eVar 5) [(eC (.str "q")), (eVar 2)]), (eMeth "Book" "without_right" 3 [] c_Book_without_right (eVar 5) [(eVar 2), (eC (.str "q"))])])) env)) fApp)
  (seqB (sMut 8 (fun env => ownI ((lift (nd (g2 (fEq false)) [(nd (gCallK 2 [1, 0] c_hand_of) [(nd gTupD [(eVar 3)]), (eVar 5)]), (nd (gCall 2 [] c_hand_of) [(eVar 5), (nd gTupD [(eVar 3)])])])) env)) fApp)
  (seqB (sMut 8 (fun env => ownI ((lift (nd (g2 (fEq false)) [(nd (gCallK 2 [1, 0] c_rights_of) [(eVar 7), (eVar 5)]), (nd (gCall 2 [] c_rights_of) [(eVar 5), (eVar 7)])])) env)) fApp)
  (seqB (sMut 8 (fun env => ownI ((lift (nd (g2 (fEq false)) [(nd (gCallK 2 [1, 0] c_judged) [(eVar 7), (eVar 9)]), (nd (gCall 2 [] c_judged) [(eVar 9), (eVar 7)])])) env)) fApp)
  (seqB (sMut 8 (fun env => ownI ((lift (vAnd (nd (g2 (fEq false)) [(nd (gCallK 1 [0] c_greatest) [(eVar 9)]), (nd (gCall 1 [] c_greatest) [(eVar 9)])]) (nd (g2 (fEq false)) [(nd (gCallK 1 [0] c_bars) [(eVar 9)]), (nd (gCall 1 [] c_bars) [(eVar 9)])]))) env)) fApp)
  (seqB (sMut 8 (fun env => ownI ((lift (nd (g2 (fEq false)) [(nd (gCallK 3 [2, 1, 0] c_people) [(eC (.int 0)), (eVar 6), (eVar 5)]), (nd (gCall 3 [] c_people) [(eVar 5), (eVar 6), (eC (.int 0))])])) env)) fApp)
  (seqB (sMut 8 (fun env => ownI ((lift (nd (g2 (fEq false)) [(nd (gCallK 3 [2, 1, 0] c_bands) [(eC (.int 0)), (eVar 6), (eVar 5)]), (nd (gCall 3 [] c_bands) [(eVar 5), (eVar 6), (eC (.int 0))])])) env)) fApp)
  (seqB (sMut 8 (fun env => ownI ((lift (nd (g2 (fEq false)) [(nd (gCallK 3 [2, 1, 0] c_blocks) [(eC (.int 0)), (eVar 6), (eVar 5)]), (nd (gCall 3 [] c_blocks) [(eVar 5), (eVar 6), (eC (.int 0))])])) env)) fApp)
  (seqB (sMut 8 (fun env => ownI ((lift (nd (g2 (fEq false)) [(nd (gCallK 2 [1, 0] c_broken) [(eVar 6), (eVar 5)]), (nd (gCall 2 [] c_broken) [(eVar 5), (eVar 6)])])) env)) fApp)
  (seqB (sMut 8 (fun env => ownI ((lift (nd (g2 (fEq false)) [(nd (gCallK 2 [1, 0] c_barred) [(eVar 6), (eVar 9)]), (nd (gCall 2 [] c_barred) [(eVar 9), (eVar 6)])])) env)) fApp)
  (sRet (lift (fun env => keepI ((nd (g1 fAll) [(eVar 8)]) env))))))))))))))))))))))))
def c__law_right : List D → C := runB 10 1 [0] b__law_right
abbrev N__law_right : List Str := ["_law_pot_here", "_law_a", "_law_b", "_law_c", "_law_rows", "_law_made", "_law_men", "_law_mine", "_law_marks", "_law_late"]
theorem sc__law_right : FnScope N__law_right ["_law_pot_here"] (defScope (top 98)) := ⟨rfl, rfl, rfl, by decide +kernel, rfl, by decide +kernel, by decide +kernel⟩
theorem d__law_right {cdv : Value} {A : Around} {outer : List PySem.Env} {s : Shared} {H : Hp} {E : XK} {k : Nat} (h : Fc K mg) (k__law_some : Cal P w K mg base (k + 1) "_law_some" 3 [0] false [] c__law_some) (q_Book : MkrK P w K mg base k "Book" ["text"] [0] c_Book___init__) (c_Book_eq : Spl P w K mg base (k + 1) "Book" "__eq__" false c_Book___eq__) (k_Book : Mkr P w K mg base k "Book" 2 c_Book___init__) (q_Book_gives : MthK P w K mg base (k + 1) "Book" "gives" ["role"] [0] false c_Book_gives) (k_Book_gives : Mth P w K mg base (k + 1) "Book" "gives" 2 [] false [] c_Book_gives) (q_Book_below : MthK P w K mg base (k + 1) "Book" "below" ["role"] [0] false c_Book_below) (k_Book_below : Mth P w K mg base (k + 1) "Book" "below" 2 [] false [] c_Book_below) (q_Book_with_rule : MthK P w K mg base (k + 1) "Book" "with_rule" ["roles", "number"] [1, 0] false c_Book_with_rule) (k_Book_with_rule : Mth P w K mg base (k + 1) "Book" "with_rule" 3 [] false [] c_Book_with_rule) (q_Book_without_rule : MthK P w K mg base (k + 1) "Book" "without_rule" ["number"] [0] false c_Book_without_rule) (q_Book_with_right : MthK P w K mg base (k + 1) "Book" "with_right" ["right", "role"] [1, 0] false c_Book_with_right) (k_Book_with_right : Mth P w K mg base (k + 1) "Book" "with_right" 3 [] false [] c_Book_with_right) (q_Book_without_right : MthK P w K mg base (k + 1) "Book" "without_right" ["right", "role"] [1, 0] false c_Book_without_right) (k_Book_without_right : Mth P w K mg base (k + 1) "Book" "without_right" 3 [] false [] c_Book_without_right) (q_hand_of : CalK P w K mg base (k + 1) "hand_of" ["roles", "book"] [1, 0] false c_hand_of) (k_hand_of : Cal P w K mg base (k + 1) "hand_of" 2 [] false [] c_hand_of) (q_rights_of : CalK P w K mg base (k + 1) "rights_of" ["hand", "book"] [1, 0] false c_rights_of) (k_rights_of : Cal P w K mg base (k + 1) "rights_of" 2 [] false [] c_rights_of) (q_judged : CalK P w K mg base (k + 1) "judged" ["hand", "book"] [1, 0] false c_judged) (k_judged : Cal P w K mg base (k + 1) "judged" 2 [] false [] c_judged) (q_bars : CalK P w K mg base (k + 1) "bars" ["book"] [0] false c_bars) (k_bars : Cal P w K mg base (k + 1) "bars" 1 [] false [] c_bars) (q_greatest : CalK P w K mg base (k + 1) "greatest" ["book"] [0] false c_greatest) (k_greatest : Cal P w K mg base (k + 1) "greatest" 1 [] false [] c_greatest) (q_people : CalK P w K mg base (k + 1) "people" ["duty", "dealing", "book"] [2, 1, 0] false c_people) (k_people : Cal P w K mg base (k + 1) "people" 3 [] false [] c_people) (q_bands : CalK P w K mg base (k + 1) "bands" ["duty", "dealing", "book"] [2, 1, 0] false c_bands) (k_bands : Cal P w K mg base (k + 1) "bands" 3 [] false [] c_bands) (q_blocks : CalK P w K mg base (k + 1) "blocks" ["duty", "dealing", "book"] [2, 1, 0] false c_blocks) (k_blocks : Cal P w K mg base (k + 1) "blocks" 3 [] false [] c_blocks) (q_broken : CalK P w K mg base (k + 1) "broken" ["dealing", "book"] [1, 0] false c_broken) (k_broken : Cal P w K mg base (k + 1) "broken" 2 [] false [] c_broken) (q_barred : CalK P w K mg base (k + 1) "barred" ["dealing", "book"] [1, 0] false c_barred) (k_barred : Cal P w K mg base (k + 1) "barred" 2 [] false [] c_barred) (gd : Gd (cxOf (L2.CX P w) P w K mg base N__law_right "_law_right" (defScope (top 98)) f cdv A outer s H E) (fun c d _ H => E c d H) (k + 1)) :
    SSs (cxOf (L2.CX P w) P w K mg base N__law_right "_law_right" (defScope (top 98)) f cdv A outer s H E) ⟨[0, 4, 8], [0], false⟩ (fun c d _ H => E c d H) (defBody (top 98)) b__law_right :=
  (ss_cons (s_unp (is := [1, 2, 3]) gd (pgs_cons (pg_name gd.nd rfl (by first | exact .inl rfl | exact .inr rfl)) (pgs_cons (pg_name gd.nd rfl (by first | exact .inl rfl | exact .inr rfl)) (pgs_cons (pg_name gd.nd rfl (by first | exact .inl rfl | exact .inr rfl)) pgs_nil))) (se_callR gd k__law_some rfl (SAs.io rfl (by first | exact .inl rfl | exact .inr (.inl rfl) | exact .inr (.inr rfl)) (by decide) (by decide) rfl (SAs.ex (SP.se (SPL.sp (spl_lst (SPs.cons sp_str (SPs.cons sp_str (SPs.cons sp_str (SPs.cons sp_str (SPs.cons sp_str (SPs.cons sp_str SPs.nil))))))))) (SAs.ex (SP.se sp_int) SAs.nil)))) rfl rfl)
  (ss_cons (s_setO rfl rfl (asgO gd.nd rfl (by first | exact .inl rfl | exact .inr rfl) (SPL.so (b := true) (spl_lst (SPs.cons sp_str (SPs.cons (sp_op op_addAll v2_add (sp_op op_addAll v2_add sp_str (sp_v rfl rfl (by first | exact .inl rfl | exact .inr (.inl rfl) | exact .inr (.inr rfl)))) sp_str) (SPs.cons (sp_op op_addAll v2_add (sp_op op_addAll v2_add sp_str (sp_v rfl rfl (by first | exact .inl rfl | exact .inr (.inl rfl) | exact .inr (.inr rfl)))) sp_str) (SPs.cons (sp_op op_addAll v2_add sp_str (sp_v rfl rfl (by first | exact .inl rfl | exact .inr (.inl rfl) | exact .inr (.inr rfl)))) SPs.nil))))))))
  (ss_cons (s_extend rfl rfl (by first | exact .inl rfl | exact .inr (.inl rfl) | exact .inr (.inr rfl)) (SP.se (SPL.sp (spl_lst (SPs.cons (sp_op op_addAll v2_add (sp_op op_addAll v2_add (sp_op op_addAll v2_add sp_str (sp_v rfl rfl (by first | exact .inl rfl | exact .inr (.inl rfl) | exact .inr (.inr rfl)))) sp_str) (sp_v rfl rfl (by first | exact .inl rfl | exact .inr (.inl rfl) | exact .inr (.inr rfl)))) (SPs.cons sp_str SPs.nil))))))
  (ss_cons (s_set rfl rfl (asgE gd.nd rfl (by first | exact .inl rfl | exact .inr rfl) (SP.se (sp_makeK gd flatE q_Book rfl (SKs.cons (SP.kept (sp_join sp_str (sp_own rfl rfl (by first | exact .inl rfl | exact .inr (.inl rfl) | exact .inr (.inr rfl))))) SKs.nil)))))
  (ss_cons (by first | exact (s_par2 gd rfl rfl rfl rfl (SVs.kep (SP.se (sp_tup (SPs.cons (sp_tup (SPs.cons (sp_v rfl rfl (by first | exact .inl rfl | exact .inr (.inl rfl) | exact .inr (.inr rfl))) SPs.nil)) (SPs.cons (sp_tup (SPs.cons (sp_v rfl rfl (by first | exact .inl rfl | exact .inr (.inl rfl) | exact .inr (.inr rfl))) SPs.nil)) (SPs.cons (sp_tup SPs.nil) SPs.nil))))) (SVs.kep (SP.se (sp_tup (SPs.cons (sp_v rfl rfl (by first | exact .inl rfl | exact .inr (.inl rfl) | exact .inr (.inr rfl))) (SPs.cons (sp_v rfl rfl (by first | exact .inl rfl | exact .inr (.inl rfl) | exact .inr (.inr rfl))) SPs.nil)))) SVs.nil))) | exact (s_parC (is := [6, 7]) gd (pgs_cons (pg_name gd.nd rfl (by first | exact .inl rfl | exact .inr rfl)) (pgs_cons (pg_name gd.nd rfl (by first | exact .inl rfl | exact .inr rfl)) pgs_nil)) (SVs.kep (SP.se (sp_tup (SPs.cons (sp_tup (SPs.cons (sp_v rfl rfl (by first | exact .inl rfl | exact .inr (.inl rfl) | exact .inr (.inr rfl))) SPs.nil)) (SPs.cons (sp_tup (SPs.cons (sp_v rfl rfl (by first | exact .inl rfl | exact .inr (.inl rfl) | exact .inr (.inr rfl))) SPs.nil)) (SPs.cons (sp_tup SPs.nil) SPs.nil))))) (SVs.kep (SP.se (sp_tup (SPs.cons (sp_v rfl rfl (by first | exact .inl rfl | exact .inr (.inl rfl) | exact .inr (.inr rfl))) (SPs.cons (sp_v rfl rfl (by first | exact .inl rfl | exact .inr (.inl rfl) | exact .inr (.inr rfl))) SPs.nil)))) SVs.nil)) rfl rfl))
  (ss_cons (s_setO rfl rfl (asgO gd.nd rfl (by first | exact .inl rfl | exact .inr rfl) (SPL.so (b := false) (spl_lst (SPs.cons (sp_cmp (op_eqOwn (by have := gd.hu; omega) gd.room c_Book_eq) v2_eqOwn (sp_v rfl rfl (by first | exact .inl rfl | exact .inr (.inl rfl) | exact .inr (.inr rfl))) (sp_make gd flatE k_Book rfl (SPs.cons (sp_join sp_str (sp_own rfl rfl (by first | exact .inl rfl | exact .inr (.inl rfl) | exact .inr (.inr rfl)))) SPs.nil))) (SPs.cons (sp_cmp (op_eqD gd.hu64) v2_eq (sp_methK (pl := _) gd flatE q_Book_gives (sp_v rfl rfl (by first | exact .inl rfl | exact .inr (.inl rfl) | exact .inr (.inr rfl))) (SKs.cons (sp_v rfl rfl (by first | exact .inl rfl | exact .inr (.inl rfl) | exact .inr (.inr rfl))) SKs.nil)) (sp_meth (pl := _) gd flatE k_Book_gives (sp_v rfl rfl (by first | exact .inl rfl | exact .inr (.inl rfl) | exact .inr (.inr rfl))) (SPs.cons (sp_v rfl rfl (by first | exact .inl rfl | exact .inr (.inl rfl) | exact .inr (.inr rfl))) SPs.nil))) (SPs.cons (sp_cmp (op_eqD gd.hu64) v2_eq (sp_methK (pl := _) gd flatE q_Book_below (sp_v rfl rfl (by first | exact .inl rfl | exact .inr (.inl rfl) | exact .inr (.inr rfl))) (SKs.cons (sp_v rfl rfl (by first | exact .inl rfl | exact .inr (.inl rfl) | exact .inr (.inr rfl))) SKs.nil)) (sp_meth (pl := _) gd flatE k_Book_below (sp_v rfl rfl (by first | exact .inl rfl | exact .inr (.inl rfl) | exact .inr (.inr rfl))) (SPs.cons (sp_v rfl rfl (by first | exact .inl rfl | exact .inr (.inl rfl) | exact .inr (.inr rfl))) SPs.nil))) SPs.nil)))))))
  (ss_cons (s_set rfl rfl (asgE gd.nd rfl (by first | exact .inl rfl | exact .inr rfl) (SP.se (sp_methK (pl := _) gd flatE q_Book_with_rule (sp_v rfl rfl (by first | exact .inl rfl | exact .inr (.inl rfl) | exact .inr (.inr rfl))) (SKs.cons (sp_v rfl rfl (by first | exact .inl rfl | exact .inr (.inl rfl) | exact .inr (.inr rfl))) (SKs.cons sp_int SKs.nil))))))
  (ss_cons (s_append rfl rfl (by first | exact .inl rfl | exact .inr (.inl rfl) | exact .inr (.inr rfl)) (SE.so (SP.se (sp_cmp (op_eqOwn (by have := gd.hu; omega) gd.room c_Book_eq) v2_eqOwn (sp_v rfl rfl (by first | exact .inl rfl | exact .inr (.inl rfl) | exact .inr (.inr rfl))) (sp_meth (pl := _) gd flatE k_Book_with_rule (sp_v rfl rfl (by first | exact .inl rfl | exact .inr (.inl rfl) | exact .inr (.inr rfl))) (SPs.cons sp_int (SPs.cons (sp_v rfl rfl (by first | exact .inl rfl | exact .inr (.inl rfl) | exact .inr (.inr rfl))) SPs.nil)))))))
  (ss_cons (s_append rfl rfl (by first | exact .inl rfl | exact .inr (.inl rfl) | exact .inr (.inr rfl)) (SE.so (SP.se (sp_cmp (op_eqOwn (by have := gd.hu; omega) gd.room c_Book_eq) v2_eqOwn (sp_methK (pl := _) gd flatE q_Book_without_rule (sp_v rfl rfl (by first | exact .inl rfl | exact .inr (.inl rfl) | exact .inr (.inr rfl))) (SKs.cons sp_int SKs.nil)) (sp_v rfl rfl (by first | exact .inl rfl | exact .inr (.inl rfl) | exact .inr (.inr rfl)))))))
  (ss_cons (s_append rfl rfl (by first | exact .inl rfl | exact .inr (.inl rfl) | exact .inr (.inr rfl)) (SE.so (SP.se (sp_cmp (op_eqOwn (by have := gd.hu; omega) gd.room c_Book_eq) v2_eqOwn (sp_methK (pl := _) gd flatE q_Book_with_right (sp_v rfl rfl (by first | exact .inl rfl | exact .inr (.inl rfl) | exact .inr (.inr rfl))) (SKs.cons sp_str (SKs.cons (sp_v rfl rfl (by first | exact .inl rfl | exact .inr (.inl rfl) | exact .inr (.inr rfl))) SKs.nil))) (sp_meth (pl := _) gd flatE k_Book_with_right (sp_v rfl rfl (by first | exact .inl rfl | exact .inr (.inl rfl) | exact .inr (.inr rfl))) (SPs.cons (sp_v rfl rfl (by first | exact .inl rfl | exact .inr (.inl rfl) | exact .inr (.inr rfl))) (SPs.cons sp_str SPs.nil)))))))
  (ss_cons (s_append rfl rfl (by first | exact .inl rfl | exact .inr (.inl rfl) | exact .inr (.inr rfl)) (SE.so (SP.se (sp_cmp (op_eqOwn (by have := gd.hu; omega) gd.room c_Book_eq) v2_eqOwn (sp_methK (pl := _) gd flatE q_Book_without_right (sp_v rfl rfl (by first | exact .inl rfl | exact .inr (.inl rfl) | exact .inr (.inr rfl))) (SKs.cons sp_str (SKs.cons (sp_v rfl rfl (by first | exact .inl rfl | exact .inr (.inl rfl) | exact .inr (.inr rfl))) SKs.nil))) (sp_meth (pl := _) gd flatE k_Book_without_right (sp_v rfl rfl (by first | exact .inl rfl | exact .inr (.inl rfl) | exact .inr (.inr rfl))) (SPs.cons (sp_v rfl rfl (by first | exact .inl rfl | exact .inr (.inl rfl) | exact .inr (.inr rfl))) (SPs.cons sp_str SPs.nil)))))))
  (ss_cons (s_append rfl rfl (by first | exact .inl rfl | exact .inr (.inl rfl) | exact .inr (.inr rfl)) (SE.so (SP.se (sp_cmp (op_eqD gd.hu64) v2_eq (sp_callK gd flatE q_hand_of rfl (SKs.cons (sp_tup (SPs.cons (sp_v rfl rfl (by first | exact .inl rfl | exact .inr (.inl rfl) | exact .inr (.inr rfl))) SPs.nil)) (SKs.cons (sp_v rfl rfl (by first | exact .inl rfl | exact .inr (.inl rfl) | exact .inr (.inr rfl))) SKs.nil))) (sp_call gd k_hand_of rfl (SPs.cons (sp_v rfl rfl (by first | exact .inl rfl | exact .inr (.inl rfl) | exact .inr (.inr rfl))) (SPs.cons (sp_tup (SPs.cons (sp_v rfl rfl (by first | exact .inl rfl | exact .inr (.inl rfl) | exact .inr (.inr rfl))) SPs.nil)) SPs.nil)))))))
  (ss_cons (s_append rfl rfl (by first | exact .inl rfl | exact .inr (.inl rfl) | exact .inr (.inr rfl)) (SE.so (SP.se (sp_cmp (op_eqD gd.hu64) v2_eq (sp_callK gd flatE q_rights_of rfl (SKs.cons (sp_v rfl rfl (by first | exact .inl rfl | exact .inr (.inl rfl) | exact .inr (.inr rfl))) (SKs.cons (sp_v rfl rfl (by first | exact .inl rfl | exact .inr (.inl rfl) | exact .inr (.inr rfl))) SKs.nil))) (sp_call gd k_rights_of rfl (SPs.cons (sp_v rfl rfl (by first | exact .inl rfl | exact .inr (.inl rfl) | exact .inr (.inr rfl))) (SPs.cons (sp_v rfl rfl (by first | exact .inl rfl | exact .inr (.inl rfl) | exact .inr (.inr rfl))) SPs.nil)))))))
  (ss_cons (s_append rfl rfl (by first | exact .inl rfl | exact .inr (.inl rfl) | exact .inr (.inr rfl)) (SE.so (SP.se (sp_cmp (op_eqD gd.hu64) v2_eq (sp_callK gd flatE q_judged rfl (SKs.cons (sp_v rfl rfl (by first | exact .inl rfl | exact .inr (.inl rfl) | exact .inr (.inr rfl))) (SKs.cons (sp_v rfl rfl (by first | exact .inl rfl | exact .inr (.inl rfl) | exact .inr (.inr rfl))) SKs.nil))) (sp_call gd k_judged rfl (SPs.cons (sp_v rfl rfl (by first | exact .inl rfl | exact .inr (.inl rfl) | exact .inr (.inr rfl))) (SPs.cons (sp_v rfl rfl (by first | exact .inl rfl | exact .inr (.inl rfl) | exact .inr (.inr rfl))) SPs.nil)))))))
  (ss_cons (s_append rfl rfl (by first | exact .inl rfl | exact .inr (.inl rfl) | exact .inr (.inr rfl)) (SE.so (SP.se (sp_and (sp_cmp (op_eqD gd.hu64) v2_eq (sp_callK gd flatE q_greatest rfl (SKs.cons (sp_v rfl rfl (by first | exact .inl rfl | exact .inr (.inl rfl) | exact .inr (.inr rfl))) SKs.nil)) (sp_call gd k_greatest rfl (SPs.cons (sp_v rfl rfl (by first | exact .inl rfl | exact .inr (.inl rfl) | exact .inr (.inr rfl))) SPs.nil))) (sp_one (sp_cmp (op_eqD gd.hu64) v2_eq (sp_callK gd flatE q_bars rfl (SKs.cons (sp_v rfl rfl (by first | exact .inl rfl | exact .inr (.inl rfl) | exact .inr (.inr rfl))) SKs.nil)) (sp_call gd k_bars rfl (SPs.cons (sp_v rfl rfl (by first | exact .inl rfl | exact .inr (.inl rfl) | exact .inr (.inr rfl))) SPs.nil))))))))
  (ss_cons (s_append rfl rfl (by first | exact .inl rfl | exact .inr (.inl rfl) | exact .inr (.inr rfl)) (SE.so (SP.se (sp_cmp (op_eqD gd.hu64) v2_eq (sp_callK gd flatE q_people rfl (SKs.cons sp_int (SKs.cons (sp_v rfl rfl (by first | exact .inl rfl | exact .inr (.inl rfl) | exact .inr (.inr rfl))) (SKs.cons (sp_v rfl rfl (by first | exact .inl rfl | exact .inr (.inl rfl) | exact .inr (.inr rfl))) SKs.nil)))) (sp_call gd k_people rfl (SPs.cons (sp_v rfl rfl (by first | exact .inl rfl | exact .inr (.inl rfl) | exact .inr (.inr rfl))) (SPs.cons (sp_v rfl rfl (by first | exact .inl rfl | exact .inr (.inl rfl) | exact .inr (.inr rfl))) (SPs.cons sp_int SPs.nil))))))))
  (ss_cons (s_append rfl rfl (by first | exact .inl rfl | exact .inr (.inl rfl) | exact .inr (.inr rfl)) (SE.so (SP.se (sp_cmp (op_eqD gd.hu64) v2_eq (sp_callK gd flatE q_bands rfl (SKs.cons sp_int (SKs.cons (sp_v rfl rfl (by first | exact .inl rfl | exact .inr (.inl rfl) | exact .inr (.inr rfl))) (SKs.cons (sp_v rfl rfl (by first | exact .inl rfl | exact .inr (.inl rfl) | exact .inr (.inr rfl))) SKs.nil)))) (sp_call gd k_bands rfl (SPs.cons (sp_v rfl rfl (by first | exact .inl rfl | exact .inr (.inl rfl) | exact .inr (.inr rfl))) (SPs.cons (sp_v rfl rfl (by first | exact .inl rfl | exact .inr (.inl rfl) | exact .inr (.inr rfl))) (SPs.cons sp_int SPs.nil))))))))
  (ss_cons (s_append rfl rfl (by first | exact .inl rfl | exact .inr (.inl rfl) | exact .inr (.inr rfl)) (SE.so (SP.se (sp_cmp (op_eqD gd.hu64) v2_eq (sp_callK gd flatE q_blocks rfl (SKs.cons sp_int (SKs.cons (sp_v rfl rfl (by first | exact .inl rfl | exact .inr (.inl rfl) | exact .inr (.inr rfl))) (SKs.cons (sp_v rfl rfl (by first | exact .inl rfl | exact .inr (.inl rfl) | exact .inr (.inr rfl))) SKs.nil)))) (sp_call gd k_blocks rfl (SPs.cons (sp_v rfl rfl (by first | exact .inl rfl | exact .inr (.inl rfl) | exact .inr (.inr rfl))) (SPs.cons (sp_v rfl rfl (by first | exact .inl rfl | exact .inr (.inl rfl) | exact .inr (.inr rfl))) (SPs.cons sp_int SPs.nil))))))))
  (ss_cons (s_append rfl rfl (by first | exact .inl rfl | exact .inr (.inl rfl) | exact .inr (.inr rfl)) (SE.so (SP.se (sp_cmp (op_eqD gd.hu64) v2_eq (sp_callK gd flatE q_broken rfl (SKs.cons (sp_v rfl rfl (by first | exact .inl rfl | exact .inr (.inl rfl) | exact .inr (.inr rfl))) (SKs.cons (sp_v rfl rfl (by first | exact .inl rfl | exact .inr (.inl rfl) | exact .inr (.inr rfl))) SKs.nil))) (sp_call gd k_broken rfl (SPs.cons (sp_v rfl rfl (by first | exact .inl rfl | exact .inr (.inl rfl) | exact .inr (.inr rfl))) (SPs.cons (sp_v rfl rfl (by first | exact .inl rfl | exact .inr (.inl rfl) | exact .inr (.inr rfl))) SPs.nil)))))))
  (ss_cons (s_append rfl rfl (by first | exact .inl rfl | exact .inr (.inl rfl) | exact .inr (.inr rfl)) (SE.so (SP.se (sp_cmp (op_eqD gd.hu64) v2_eq (sp_callK gd flatE q_barred rfl (SKs.cons (sp_v rfl rfl (by first | exact .inl rfl | exact .inr (.inl rfl) | exact .inr (.inr rfl))) (SKs.cons (sp_v rfl rfl (by first | exact .inl rfl | exact .inr (.inl rfl) | exact .inr (.inr rfl))) SKs.nil))) (sp_call gd k_barred rfl (SPs.cons (sp_v rfl rfl (by first | exact .inl rfl | exact .inr (.inl rfl) | exact .inr (.inr rfl))) (SPs.cons (sp_v rfl rfl (by first | exact .inl rfl | exact .inr (.inl rfl) | exact .inr (.inr rfl))) SPs.nil)))))))
  (ss_one (s_ret rfl (SP.se (SP.kept (sp_b1 (cr_all gd.calm) vc_all rfl h.n_all boot_all (sp_own rfl rfl (by first | exact .inl rfl | exact .inr (.inl rfl) | exact .inr (.inr rfl))))))))))))))))))))))))))))
theorem f__law_right {k : Nat} (h : Fc K mg) (k__law_some : Cal P w K mg base (k + 1) "_law_some" 3 [0] false [] c__law_some) (q_Book : MkrK P w K mg base k "Book" ["text"] [0] c_Book___init__) (c_Book_eq : Spl P w K mg base (k + 1) "Book" "__eq__" false c_Book___eq__) (k_Book : Mkr P w K mg base k "Book" 2 c_Book___init__) (q_Book_gives : MthK P w K mg base (k + 1) "Book" "gives" ["role"] [0] false c_Book_gives) (k_Book_gives : Mth P w K mg base (k + 1) "Book" "gives" 2 [] false [] c_Book_gives) (q_Book_below : MthK P w K mg base (k + 1) "Book" "below" ["role"] [0] false c_Book_below) (k_Book_below : Mth P w K mg base (k + 1) "Book" "below" 2 [] false [] c_Book_below) (q_Book_with_rule : MthK P w K mg base (k + 1) "Book" "with_rule" ["roles", "number"] [1, 0] false c_Book_with_rule) (k_Book_with_rule : Mth P w K mg base (k + 1) "Book" "with_rule" 3 [] false [] c_Book_with_rule) (q_Book_without_rule : MthK P w K mg base (k + 1) "Book" "without_rule" ["number"] [0] false c_Book_without_rule) (q_Book_with_right : MthK P w K mg base (k + 1) "Book" "with_right" ["right", "role"] [1, 0] false c_Book_with_right) (k_Book_with_right : Mth P w K mg base (k + 1) "Book" "with_right" 3 [] false [] c_Book_with_right) (q_Book_without_right : MthK P w K mg base (k + 1) "Book" "without_right" ["right", "role"] [1, 0] false c_Book_without_right) (k_Book_without_right : Mth P w K mg base (k + 1) "Book" "without_right" 3 [] false [] c_Book_without_right) (q_hand_of : CalK P w K mg base (k + 1) "hand_of" ["roles", "book"] [1, 0] false c_hand_of) (k_hand_of : Cal P w K mg base (k + 1) "hand_of" 2 [] false [] c_hand_of) (q_rights_of : CalK P w K mg base (k + 1) "rights_of" ["hand", "book"] [1, 0] false c_rights_of) (k_rights_of : Cal P w K mg base (k + 1) "rights_of" 2 [] false [] c_rights_of) (q_judged : CalK P w K mg base (k + 1) "judged" ["hand", "book"] [1, 0] false c_judged) (k_judged : Cal P w K mg base (k + 1) "judged" 2 [] false [] c_judged) (q_bars : CalK P w K mg base (k + 1) "bars" ["book"] [0] false c_bars) (k_bars : Cal P w K mg base (k + 1) "bars" 1 [] false [] c_bars) (q_greatest : CalK P w K mg base (k + 1) "greatest" ["book"] [0] false c_greatest) (k_greatest : Cal P w K mg base (k + 1) "greatest" 1 [] false [] c_greatest) (q_people : CalK P w K mg base (k + 1) "people" ["duty", "dealing", "book"] [2, 1, 0] false c_people) (k_people : Cal P w K mg base (k + 1) "people" 3 [] false [] c_people) (q_bands : CalK P w K mg base (k + 1) "bands" ["duty", "dealing", "book"] [2, 1, 0] false c_bands) (k_bands : Cal P w K mg base (k + 1) "bands" 3 [] false [] c_bands) (q_blocks : CalK P w K mg base (k + 1) "blocks" ["duty", "dealing", "book"] [2, 1, 0] false c_blocks) (k_blocks : Cal P w K mg base (k + 1) "blocks" 3 [] false [] c_blocks) (q_broken : CalK P w K mg base (k + 1) "broken" ["dealing", "book"] [1, 0] false c_broken) (k_broken : Cal P w K mg base (k + 1) "broken" 2 [] false [] c_broken) (q_barred : CalK P w K mg base (k + 1) "barred" ["dealing", "book"] [1, 0] false c_barred) (k_barred : Cal P w K mg base (k + 1) "barred" 2 [] false [] c_barred) (F : FunD K "_law_right" "_law_right" (defArgs (top 98)) (defBody (top 98)) (defScope (top 98)) [] [] f fd) : FnOk P w K mg base (L2.CX P w) (k + 2) f fd ["_law_pot_here"] (spC K 1 [0] false c__law_right) :=
  fn_mk F sc__law_right rfl (by decide) fun cdv A outer s H E hr => d__law_right h k__law_some q_Book c_Book_eq k_Book q_Book_gives k_Book_gives q_Book_below k_Book_below q_Book_with_rule k_Book_with_rule q_Book_without_rule q_Book_with_right k_Book_with_right q_Book_without_right k_Book_without_right q_hand_of k_hand_of q_rights_of k_rights_of q_judged k_judged q_bars k_bars q_greatest k_greatest q_people k_people q_bands k_bands q_blocks k_blocks q_broken k_broken q_barred k_barred (gd_of sc__law_right.nd hr)
def b_law : Rf.Env → Fl := (sRet (lift (nd (g1 fAll) [(fun env => mkL ((eComp true [1] (fun env => itA ((nd (gCall 2 [] c__law_places) [(eVar 0), (eC (.int 3))]) env)) (gN 1) (Tst.f Tst.no) (eCallT c__law_right (nd (gCall 2 [] c__law_pot) [(eVar 0), (eVar 1)]))) env))])))
def c0_law : List D → C := runB 2 1 [] b_law
def p_law : Pe1 c0_law where
  f := _
  ok := fun a => by
    simp only [c0_law, b_law, runB, env0, outs, w_ret, w_nil, w_bad, w_seq, w_ifL, w_if, w_setL, w_setLL, w_dropL, w_retL, w_retLL, w_nd0, w_nd1, w_nd2, w_nd3, g1, g2, eVar, eC, eComp, compF_gN, compF_gT, Tst.f, wipeE, mkL, O.bind, bAnd, bOr, bNot, vAnd, vOr, vNot, vIf, eChain, eSl, eSlL, oNone, oSome, eTupS, eLstS, seqSt, eBm, eMeth, gMeth, ePrp, gCall, keepI, noX, seqF, List.length_cons, List.length_nil, List.map_cons, List.map_nil, List.cons_append, List.nil_append, List.set_cons_zero, List.set_cons_succ, List.getElem?_cons_zero, List.getElem?_cons_succ, List.replicate_succ, List.replicate_zero, Nat.reduceAdd, Nat.reduceSub, Bool.true_or, Bool.false_or, Bool.true_and]
    rfl
def c_law : List D → C := p_law.c
abbrev N_law : List Str := ["_law_script", "_law_place"]
theorem sc_law : FnScope N_law ["_law_script"] (defScope (top 99)) := ⟨rfl, rfl, rfl, by decide +kernel, rfl, by decide +kernel, by decide +kernel⟩
theorem d_law {cdv : Value} {A : Around} {outer : List PySem.Env} {s : Shared} {H : Hp} {E : XK} {k : Nat} (h : Fc K mg) (k__law_places : Cal P w K mg base (k + 1) "_law_places" 2 [] false [] c__law_places) (k__law_right : Cal P w K mg base (k + 1) "_law_right" 1 [0] false [] c__law_right) (k__law_pot : Cal P w K mg base (k + 1) "_law_pot" 2 [] true [] c__law_pot) (gd : Gd (cxOf (L2.CX P w) P w K mg base N_law "law" (defScope (top 99)) f cdv A outer s H E) (fun c d _ H => E c d H) (k + 1)) :
    SSs (cxOf (L2.CX P w) P w K mg base N_law "law" (defScope (top 99)) f cdv A outer s H E) ⟨[], [], false⟩ (fun c d _ H => E c d H) (defBody (top 99)) b_law :=
  (ss_one (s_ret rfl (SP.se (sp_b1 (cr_all gd.calm) vc_all rfl h.n_all boot_all (SPL.sp (spl_comp (own := [("_law_place", 1)]) (T := Tst.no) gd ⟨(si_any (sp_call gd k__law_places rfl (SPs.cons (sp_v rfl rfl (by first | exact .inl rfl | exact .inr (.inl rfl) | exact .inr (.inr rfl))) (SPs.cons sp_int SPs.nil)))), (blkOk_by (N := N_law) (sc := (defScope (top 99))) (own := [("_law_place", 1)]) (by decide +kernel)), fun _ _ _ _ _ => (sg_name rfl rfl gd.blk.nd rfl (by first | exact .inl rfl | exact .inr rfl)), fun _ _ _ _ _ => trivial, fun _ _ _ _ _ => (sp_callT gd.blk k__law_right rfl (spn_call gd.blk k__law_pot rfl (SPs.cons (sp_v rfl rfl (by first | exact .inl rfl | exact .inr (.inl rfl) | exact .inr (.inr rfl))) (SPs.cons (sp_v rfl rfl (by first | exact .inl rfl | exact .inr (.inl rfl) | exact .inr (.inr rfl))) SPs.nil))))⟩))))))
theorem f_law {k : Nat} (h : Fc K mg) (k__law_places : Cal P w K mg base (k + 1) "_law_places" 2 [] false [] c__law_places) (k__law_right : Cal P w K mg base (k + 1) "_law_right" 1 [0] false [] c__law_right) (k__law_pot : Cal P w K mg base (k + 1) "_law_pot" 2 [] true [] c__law_pot) (F : FunD K "law" "law" (defArgs (top 99)) (defBody (top 99)) (defScope (top 99)) [] [] f fd) : FnOk P w K mg base (L2.CX P w) (k + 2) f fd ["_law_script"] (spC K 1 [] false c_law) :=
  spC_cong p_law.eq ▸ fn_mk F sc_law rfl (by decide) fun cdv A outer s H E hr => d_law h k__law_places k__law_right k__law_pot (gd_of sc_law.nd hr)
end
end K16

namespace K16
open PySem PySem.Spec PyProof.Rows L2 Rf Rh
structure Z (K : PySem.W.Frag) (mg : Str → Option Value) : Prop where
  c : SaysX fx fn K
  ex : ∃ h : Heap, K.In h ∧ h.Ns mainGlobals mg
section
variable {P : Program} {w : World} {K : PySem.W.Frag} {mg : Str → Option Value} {base : Heap}
theorem Z.glo (z : Z K mg) {x : Str} (h : fxFa (.glo x) K = true) : mg x = some (.ref (He.ga K x)) := by
  obtain ⟨_, X, G⟩ := z.ex
  exact He.glo_ok X G h
theorem Z.free (z : Z K mg) {x : Str} (h : fxFa (.free x) K = true) : mg x = none := by
  obtain ⟨_, X, G⟩ := z.ex
  exact He.free_ok X G h
theorem Z.int (z : Z K mg) {x : Str} {i : Int} (h : fxFa (.int x i) K = true) : ∃ t, mg x = some (.int i t) := by
  obtain ⟨_, X, G⟩ := z.ex
  exact He.int_ok X G h
theorem Z.str (z : Z K mg) {x y : Str} (h : fxFa (.str x y) K = true) : ∃ t, mg x = some (.str y t) := by
  obtain ⟨_, X, G⟩ := z.ex
  exact He.str_ok X G h
theorem Z.fc (z : Z K mg) : Fc K mg where
  n_len := z.free (z.c.fact 0 (f := fxFa (.free "len")) rfl)
  n_abs := z.free (z.c.fact 1 (f := fxFa (.free "abs")) rfl)
  n_all := z.free (z.c.fact 2 (f := fxFa (.free "all")) rfl)
  n_any := z.free (z.c.fact 3 (f := fxFa (.free "any")) rfl)
  n_sum := z.free (z.c.fact 4 (f := fxFa (.free "sum")) rfl)
  n_int := z.free (z.c.fact 5 (f := fxFa (.free "int")) rfl)
  n_str := z.free (z.c.fact 6 (f := fxFa (.free "str")) rfl)
  n_tuple := z.free (z.c.fact 7 (f := fxFa (.free "tuple")) rfl)
  n_list := z.free (z.c.fact 8 (f := fxFa (.free "list")) rfl)
  n_sorted := z.free (z.c.fact 9 (f := fxFa (.free "sorted")) rfl)
  n_min := z.free (z.c.fact 10 (f := fxFa (.free "min")) rfl)
  n_max := z.free (z.c.fact 11 (f := fxFa (.free "max")) rfl)
  n_range := z.free (z.c.fact 12 (f := fxFa (.free "range")) rfl)
  n_enumerate := z.free (z.c.fact 13 (f := fxFa (.free "enumerate")) rfl)
  n_zip := z.free (z.c.fact 14 (f := fxFa (.free "zip")) rfl)
  n_isinstance := z.free (z.c.fact 15 (f := fxFa (.free "isinstance")) rfl)
  n_bool := z.free (z.c.fact 16 (f := fxFa (.free "bool")) rfl)
  g_MOST_SIGNS := z.int (z.c.fact 70 (f := fxFa (.int "MOST_SIGNS" 8)) rfl)
  g_FEWEST_RIGHTS := z.int (z.c.fact 71 (f := fxFa (.int "FEWEST_RIGHTS" 2)) rfl)
  g_MOST_RIGHTS := z.int (z.c.fact 72 (f := fxFa (.int "MOST_RIGHTS" 6)) rfl)
  g_MOST_ROLES := z.int (z.c.fact 73 (f := fxFa (.int "MOST_ROLES" 6)) rfl)
  g_MOST_ABOVE := z.int (z.c.fact 74 (f := fxFa (.int "MOST_ABOVE" 8)) rfl)
  g_LEAST_NUMBER := z.int (z.c.fact 75 (f := fxFa (.int "LEAST_NUMBER" 2)) rfl)
  g_MOST_NUMBER := z.int (z.c.fact 76 (f := fxFa (.int "MOST_NUMBER" 5)) rfl)
  g_MOST_DUTIES := z.int (z.c.fact 77 (f := fxFa (.int "MOST_DUTIES" 3)) rfl)
  g_MOST_RULES := z.int (z.c.fact 78 (f := fxFa (.int "MOST_RULES" 8)) rfl)
  g_PAIR := z.int (z.c.fact 79 (f := fxFa (.int "PAIR" 2)) rfl)
  g_MOST_PEOPLE := z.int (z.c.fact 80 (f := fxFa (.int "MOST_PEOPLE" 8)) rfl)
  g_BLANK := z.str (z.c.fact 81 (f := fxFa (.str "BLANK" " ")) rfl)
  g_FEED := z.str (z.c.fact 82 (f := fxFa (.str "FEED" "\n")) rfl)
  g_MINUS := z.str (z.c.fact 83 (f := fxFa (.str "MINUS" "-")) rfl)
  g_SIGNS := z.str (z.c.fact 84 (f := fxFa (.str "SIGNS" "abcdefghijklmnopqrstuvwxyz")) rfl)
  g_FIGURES := z.str (z.c.fact 85 (f := fxFa (.str "FIGURES" "0123456789")) rfl)
  g_LET := z.str (z.c.fact 86 (f := fxFa (.str "LET" "let")) rfl)
  g_BARRED := z.str (z.c.fact 87 (f := fxFa (.str "BARRED" "barred")) rfl)
  g_RIGHTS := z.str (z.c.fact 88 (f := fxFa (.str "RIGHTS" "rights")) rfl)
  g_ROLE := z.str (z.c.fact 89 (f := fxFa (.str "ROLE" "role")) rfl)
  g_ABOVE := z.str (z.c.fact 90 (f := fxFa (.str "ABOVE" "above")) rfl)
  g_DUTY := z.str (z.c.fact 91 (f := fxFa (.str "DUTY" "duty")) rfl)
  g_RULE := z.str (z.c.fact 92 (f := fxFa (.str "RULE" "rule")) rfl)
  g_PEOPLE := z.str (z.c.fact 93 (f := fxFa (.str "PEOPLE" "people")) rfl)
  g_NOBODY := z.str (z.c.fact 94 (f := fxFa (.str "NOBODY" "nobody")) rfl)
  g_LINES := z.glo (z.c.fact 95 (f := fxFa (.glo "LINES")) rfl)
  r_LINES := fun H => .tup ((tup_ok (z.c.fact 96 (f := fxTup "LINES" [.str "rights", .str "role", .str "above", .str "duty", .str "rule"]) rfl)).1 H) (.cons (.str _) (.cons (.str _) (.cons (.str _) (.cons (.str _) (.cons (.str _) .nil)))))
  l_LINES := (tup_ok (z.c.fact 96 (f := fxTup "LINES" [.str "rights", .str "role", .str "above", .str "duty", .str "rule"]) rfl)).2
  g_POWERS := z.glo (z.c.fact 97 (f := fxFa (.glo "POWERS")) rfl)
  r_POWERS := fun H => .tup ((tup_ok (z.c.fact 98 (f := fxTup "POWERS" [.int 1, .int 2, .int 4, .int 8, .int 16, .int 32]) rfl)).1 H) (.cons (.int _) (.cons (.int _) (.cons (.int _) (.cons (.int _) (.cons (.int _) (.cons (.int _) .nil))))))
  l_POWERS := (tup_ok (z.c.fact 98 (f := fxTup "POWERS" [.int 1, .int 2, .int 4, .int 8, .int 16, .int 32]) rfl)).2
  g_Reading := z.glo (z.c.fact 99 (f := fxFa (.glo "Reading")) rfl)
  cl_Reading := He.cls_ok (z.c.fact 100 (f := fxFa (.cls "Reading")) rfl)
  ty_Reading := ty_ok (z.c.fact 102 (f := fxTy "Reading") rfl) (He.cls_ok (z.c.fact 100 (f := fxFa (.cls "Reading")) rfl))
  g_Book := z.glo (z.c.fact 103 (f := fxFa (.glo "Book")) rfl)
  cl_Book := He.cls_ok (z.c.fact 104 (f := fxFa (.cls "Book")) rfl)
  ty_Book := ty_ok (z.c.fact 106 (f := fxTy "Book") rfl) (He.cls_ok (z.c.fact 104 (f := fxFa (.cls "Book")) rfl))
  na_Reading_told_rights := He.noat_ok (z.c.fact 107 (f := fxFa (.noat "Reading" "told_rights")) rfl)
  na_Reading_told_roles := He.noat_ok (z.c.fact 108 (f := fxFa (.noat "Reading" "told_roles")) rfl)
  na_Reading_told_above := He.noat_ok (z.c.fact 109 (f := fxFa (.noat "Reading" "told_above")) rfl)
  na_Reading_told_duties := He.noat_ok (z.c.fact 110 (f := fxFa (.noat "Reading" "told_duties")) rfl)
  na_Reading_told_rules := He.noat_ok (z.c.fact 111 (f := fxFa (.noat "Reading" "told_rules")) rfl)
  na_Reading_own_stage := He.noat_ok (z.c.fact 112 (f := fxFa (.noat "Reading" "own_stage")) rfl)
  na_Book_own_reading := He.noat_ok (z.c.fact 113 (f := fxFa (.noat "Book" "own_reading")) rfl)
  na_Book_own_text := He.noat_ok (z.c.fact 114 (f := fxFa (.noat "Book" "own_text")) rfl)
theorem O_is_integer (z : Z K mg) : ∃ fd, FunD K "is_integer" "is_integer" (defArgs (top 19)) (defBody (top 19)) (defScope (top 19)) [.non, .non] [] (He.ga K "is_integer") fd ∧ FnOk P w K mg base (L2.CX P w) 2 (He.ga K "is_integer") fd ["value", "low", "high"] (spC K 3 [] false c_is_integer) := by
  obtain ⟨fd, F⟩ := z.c.def_ 0 (d := x_is_integer) rfl
  exact ⟨fd, F, f_is_integer (k := 0) z.fc  F⟩
theorem T_k_is_integer (z : Z K mg) : Cal P w K mg base 2 "is_integer" 3 [] false [] c_is_integer := by
  obtain ⟨fd, F, O⟩ := O_is_integer z
  exact cal_ofD (z.glo (z.c.fact 17 (f := fxFa (.glo "is_integer")) rfl)) F.kp rfl O (FunD.binds1 F 3 2 (by simp) rfl fun T _ _ _ _ _ _ us its h1 h2 => match us, h1, its, h2 with | [_, _, _], _, [_, _], _ => ⟨_, rfl, rfl⟩) (fun _ => .nil)
theorem O_is_word (z : Z K mg) : ∃ fd, FunD K "is_word" "is_word" (defArgs (top 21)) (defBody (top 21)) (defScope (top 21)) [] [] (He.ga K "is_word") fd ∧ FnOk P w K mg base (L2.CX P w) 2 (He.ga K "is_word") fd ["value", "words"] (spC K 2 [] false c_is_word) := by
  obtain ⟨fd, F⟩ := z.c.def_ 1 (d := x_is_word) rfl
  exact ⟨fd, F, f_is_word (k := 0) z.fc  F⟩
theorem T_k_is_word (z : Z K mg) : Cal P w K mg base 2 "is_word" 2 [] false [] c_is_word := by
  obtain ⟨fd, F, O⟩ := O_is_word z
  exact cal_of (z.glo (z.c.fact 18 (f := fxFa (.glo "is_word")) rfl)) F.kp rfl O (FunD.bindsN F fun _ _ _ _ _ _ us hl => match us, hl with | [_, _], _ => rfl)
theorem O_is_tuple (z : Z K mg) : ∃ fd, FunD K "is_tuple" "is_tuple" (defArgs (top 20)) (defBody (top 20)) (defScope (top 20)) [.int 0, .non] [] (He.ga K "is_tuple") fd ∧ FnOk P w K mg base (L2.CX P w) 2 (He.ga K "is_tuple") fd ["value", "least", "most"] (spC K 3 [] false c_is_tuple) := by
  obtain ⟨fd, F⟩ := z.c.def_ 2 (d := x_is_tuple) rfl
  exact ⟨fd, F, f_is_tuple (k := 0) z.fc  F⟩
theorem T_k_is_tuple (z : Z K mg) : Cal P w K mg base 2 "is_tuple" 3 [] false [] c_is_tuple := by
  obtain ⟨fd, F, O⟩ := O_is_tuple z
  exact cal_ofD (z.glo (z.c.fact 19 (f := fxFa (.glo "is_tuple")) rfl)) F.kp rfl O (FunD.binds1 F 3 2 (by simp) rfl fun T _ _ _ _ _ _ us its h1 h2 => match us, h1, its, h2 with | [_, _, _], _, [_, _], _ => ⟨_, rfl, rfl⟩) (fun _ => .nil)
theorem O_lot_of (z : Z K mg) : ∃ fd, FunD K "lot_of" "lot_of" (defArgs (top 25)) (defBody (top 25)) (defScope (top 25)) [] [] (He.ga K "lot_of") fd ∧ FnOk P w K mg base (L2.CX P w) 2 (He.ga K "lot_of") fd ["whole", "some"] (spC K 2 [] false c_lot_of) := by
  obtain ⟨fd, F⟩ := z.c.def_ 3 (d := x_lot_of) rfl
  exact ⟨fd, F, f_lot_of (k := 0) z.fc  F⟩
theorem T_k_lot_of (z : Z K mg) : Cal P w K mg base 2 "lot_of" 2 [] false [] c_lot_of := by
  obtain ⟨fd, F, O⟩ := O_lot_of z
  exact cal_of (z.glo (z.c.fact 20 (f := fxFa (.glo "lot_of")) rfl)) F.kp rfl O (FunD.bindsN F fun _ _ _ _ _ _ us hl => match us, hl with | [_, _], _ => rfl)
theorem O_is_lot (z : Z K mg) : ∃ fd, FunD K "is_lot" "is_lot" (defArgs (top 26)) (defBody (top 26)) (defScope (top 26)) [] [] (He.ga K "is_lot") fd ∧ FnOk P w K mg base (L2.CX P w) 3 (He.ga K "is_lot") fd ["whole", "value"] (spC K 2 [] false c_is_lot) := by
  obtain ⟨fd, F⟩ := z.c.def_ 4 (d := x_is_lot) rfl
  exact ⟨fd, F, f_is_lot (k := 1) z.fc ((T_k_is_word z).mono (by decide)) ((T_k_lot_of z).mono (by decide)) F⟩
theorem T_k_is_lot (z : Z K mg) : Cal P w K mg base 3 "is_lot" 2 [] false [] c_is_lot := by
  obtain ⟨fd, F, O⟩ := O_is_lot z
  exact cal_of (z.glo (z.c.fact 21 (f := fxFa (.glo "is_lot")) rfl)) F.kp rfl O (FunD.bindsN F fun _ _ _ _ _ _ us hl => match us, hl with | [_, _], _ => rfl)
theorem O_has_all (z : Z K mg) : ∃ fd, FunD K "has_all" "has_all" (defArgs (top 27)) (defBody (top 27)) (defScope (top 27)) [] [] (He.ga K "has_all") fd ∧ FnOk P w K mg base (L2.CX P w) 2 (He.ga K "has_all") fd ["some", "others"] (spC K 2 [] false c_has_all) := by
  obtain ⟨fd, F⟩ := z.c.def_ 5 (d := x_has_all) rfl
  exact ⟨fd, F, f_has_all (k := 0) z.fc  F⟩
theorem T_k_has_all (z : Z K mg) : Cal P w K mg base 2 "has_all" 2 [] false [] c_has_all := by
  obtain ⟨fd, F, O⟩ := O_has_all z
  exact cal_of (z.glo (z.c.fact 22 (f := fxFa (.glo "has_all")) rfl)) F.kp rfl O (FunD.bindsN F fun _ _ _ _ _ _ us hl => match us, hl with | [_, _], _ => rfl)
theorem O_lots_of (z : Z K mg) : ∃ fd, FunD K "lots_of" "lots_of" (defArgs (top 28)) (defBody (top 28)) (defScope (top 28)) [] [] (He.ga K "lots_of") fd ∧ FnOk P w K mg base (L2.CX P w) 2 (He.ga K "lots_of") fd ["whole"] (spC K 1 [] false c_lots_of) := by
  obtain ⟨fd, F⟩ := z.c.def_ 6 (d := x_lots_of) rfl
  exact ⟨fd, F, f_lots_of (k := 0) z.fc  F⟩
theorem T_k_lots_of (z : Z K mg) : Cal P w K mg base 2 "lots_of" 1 [] false [] c_lots_of := by
  obtain ⟨fd, F, O⟩ := O_lots_of z
  exact cal_of (z.glo (z.c.fact 23 (f := fxFa (.glo "lots_of")) rfl)) F.kp rfl O (FunD.bindsN F fun _ _ _ _ _ _ us hl => match us, hl with | [_], _ => rfl)
theorem O_least_of (z : Z K mg) : ∃ fd, FunD K "least_of" "least_of" (defArgs (top 29)) (defBody (top 29)) (defScope (top 29)) [] [] (He.ga K "least_of") fd ∧ FnOk P w K mg base (L2.CX P w) 3 (He.ga K "least_of") fd ["lots"] (spC K 1 [] false c_least_of) := by
  obtain ⟨fd, F⟩ := z.c.def_ 7 (d := x_least_of) rfl
  exact ⟨fd, F, f_least_of (k := 1) z.fc ((T_k_has_all z).mono (by decide)) F⟩
theorem T_k_least_of (z : Z K mg) : Cal P w K mg base 3 "least_of" 1 [] false [] c_least_of := by
  obtain ⟨fd, F, O⟩ := O_least_of z
  exact cal_of (z.glo (z.c.fact 24 (f := fxFa (.glo "least_of")) rfl)) F.kp rfl O (FunD.bindsN F fun _ _ _ _ _ _ us hl => match us, hl with | [_], _ => rfl)
theorem O_greatest_of (z : Z K mg) : ∃ fd, FunD K "greatest_of" "greatest_of" (defArgs (top 30)) (defBody (top 30)) (defScope (top 30)) [] [] (He.ga K "greatest_of") fd ∧ FnOk P w K mg base (L2.CX P w) 3 (He.ga K "greatest_of") fd ["lots"] (spC K 1 [] false c_greatest_of) := by
  obtain ⟨fd, F⟩ := z.c.def_ 8 (d := x_greatest_of) rfl
  exact ⟨fd, F, f_greatest_of (k := 1) z.fc ((T_k_has_all z).mono (by decide)) F⟩
theorem T_k_greatest_of (z : Z K mg) : Cal P w K mg base 3 "greatest_of" 1 [] false [] c_greatest_of := by
  obtain ⟨fd, F, O⟩ := O_greatest_of z
  exact cal_of (z.glo (z.c.fact 25 (f := fxFa (.glo "greatest_of")) rfl)) F.kp rfl O (FunD.bindsN F fun _ _ _ _ _ _ us hl => match us, hl with | [_], _ => rfl)
theorem O_number_in (z : Z K mg) : ∃ fd, FunD K "number_in" "number_in" (defArgs (top 23)) (defBody (top 23)) (defScope (top 23)) [] [] (He.ga K "number_in") fd ∧ FnOk P w K mg base (L2.CX P w) 2 (He.ga K "number_in") fd ["word"] (spC K 1 [] false c_number_in) := by
  obtain ⟨fd, F⟩ := z.c.def_ 9 (d := x_number_in) rfl
  exact ⟨fd, F, f_number_in (k := 0) z.fc  F⟩
theorem T_k_number_in (z : Z K mg) : Cal P w K mg base 2 "number_in" 1 [] false [] c_number_in := by
  obtain ⟨fd, F, O⟩ := O_number_in z
  exact cal_of (z.glo (z.c.fact 26 (f := fxFa (.glo "number_in")) rfl)) F.kp rfl O (FunD.bindsN F fun _ _ _ _ _ _ us hl => match us, hl with | [_], _ => rfl)
theorem O_are_unlike (z : Z K mg) : ∃ fd, FunD K "are_unlike" "are_unlike" (defArgs (top 24)) (defBody (top 24)) (defScope (top 24)) [] [] (He.ga K "are_unlike") fd ∧ FnOk P w K mg base (L2.CX P w) 2 (He.ga K "are_unlike") fd ["some"] (spC K 1 [] false c_are_unlike) := by
  obtain ⟨fd, F⟩ := z.c.def_ 10 (d := x_are_unlike) rfl
  exact ⟨fd, F, f_are_unlike (k := 0) z.fc  F⟩
theorem T_k_are_unlike (z : Z K mg) : Cal P w K mg base 2 "are_unlike" 1 [] false [] c_are_unlike := by
  obtain ⟨fd, F, O⟩ := O_are_unlike z
  exact cal_of (z.glo (z.c.fact 27 (f := fxFa (.glo "are_unlike")) rfl)) F.kp rfl O (FunD.bindsN F fun _ _ _ _ _ _ us hl => match us, hl with | [_], _ => rfl)
theorem O_is_name (z : Z K mg) : ∃ fd, FunD K "is_name" "is_name" (defArgs (top 22)) (defBody (top 22)) (defScope (top 22)) [] [] (He.ga K "is_name") fd ∧ FnOk P w K mg base (L2.CX P w) 2 (He.ga K "is_name") fd ["value"] (spC K 1 [] false c_is_name) := by
  obtain ⟨fd, F⟩ := z.c.def_ 11 (d := x_is_name) rfl
  exact ⟨fd, F, f_is_name (k := 0) z.fc  F⟩
theorem T_k_is_name (z : Z K mg) : Cal P w K mg base 2 "is_name" 1 [] false [] c_is_name := by
  obtain ⟨fd, F, O⟩ := O_is_name z
  exact cal_of (z.glo (z.c.fact 28 (f := fxFa (.glo "is_name")) rfl)) F.kp rfl O (FunD.bindsN F fun _ _ _ _ _ _ us hl => match us, hl with | [_], _ => rfl)
theorem O_below_of (z : Z K mg) : ∃ fd, FunD K "below_of" "below_of" (defArgs (top 64)) (defBody (top 64)) (defScope (top 64)) [] [] (He.ga K "below_of") fd ∧ FnOk P w K mg base (L2.CX P w) 2 (He.ga K "below_of") fd ["pairs", "role"] (spC K 2 [] false c_below_of) := by
  obtain ⟨fd, F⟩ := z.c.def_ 12 (d := x_below_of) rfl
  exact ⟨fd, F, f_below_of (k := 0) z.fc  F⟩
theorem T_k_below_of (z : Z K mg) : Cal P w K mg base 2 "below_of" 2 [] false [] c_below_of := by
  obtain ⟨fd, F, O⟩ := O_below_of z
  exact cal_of (z.glo (z.c.fact 29 (f := fxFa (.glo "below_of")) rfl)) F.kp rfl O (FunD.bindsN F fun _ _ _ _ _ _ us hl => match us, hl with | [_, _], _ => rfl)
theorem O_Reading___init__ (z : Z K mg) : ∃ fd, FunD K "__init__" "Reading.__init__" (defArgs (inCls 65 0)) (defBody (inCls 65 0)) (defScope (inCls 65 0)) [] [] (He.ma K (He.ga K "Reading") "__init__") fd ∧ FnOk P w K mg base (L2.CX P w) 2 (He.ma K (He.ga K "Reading") "__init__") fd ["self"] (spC K 1 [0] false c_Reading___init__) := by
  obtain ⟨fd, F⟩ := z.c.def_ 13 (d := x_Reading___init__) rfl
  exact ⟨fd, F, f_Reading___init__ (k := 0) z.fc  F⟩
theorem T_k_Reading (z : Z K mg) : Mkr P w K mg base 2 "Reading" 1 c_Reading___init__ := by
  obtain ⟨fd, F, O⟩ := O_Reading___init__ z
  exact ⟨_, fd, _, z.glo (z.c.fact 99 (f := fxFa (.glo "Reading")) rfl), He.mkr_ok (z.c.fact 101 (f := fxFa (.mkr "Reading")) rfl), rfl, O, (FunD.bindsN F fun _ _ _ _ _ _ us hl => match us, hl with | [_], _ => rfl)⟩
theorem O_Reading_reads_rights (z : Z K mg) : ∃ fd, FunD K "reads_rights" "Reading.reads_rights" (defArgs (inCls 65 2)) (defBody (inCls 65 2)) (defScope (inCls 65 2)) [] [] (He.ma K (He.ga K "Reading") "reads_rights") fd ∧ FnOk P w K mg base (L2.CX P w) 3 (He.ma K (He.ga K "Reading") "reads_rights") fd ["self", "names"] (spC K 2 [0] false c_Reading_reads_rights) := by
  obtain ⟨fd, F⟩ := z.c.def_ 14 (d := x_Reading_reads_rights) rfl
  exact ⟨fd, F, f_Reading_reads_rights (k := 1) z.fc ((T_k_are_unlike z).mono (by decide)) ((T_k_is_name z).mono (by decide)) F⟩
theorem T_k_Reading_reads_rights (z : Z K mg) : Mth P w K mg base 3 "Reading" "reads_rights" 2 [0] false [] c_Reading_reads_rights := by
  obtain ⟨fd, F, O⟩ := O_Reading_reads_rights z
  exact mth_of z.fc.cl_Reading (He.meth_ok (z.c.fact 115 (f := fxFa (.meth "Reading" "reads_rights")) rfl)) rfl O (FunD.bindsN F fun _ _ _ _ _ _ us hl => match us, hl with | [_, _], _ => rfl)
theorem O_Reading_reads_role (z : Z K mg) : ∃ fd, FunD K "reads_role" "Reading.reads_role" (defArgs (inCls 65 3)) (defBody (inCls 65 3)) (defScope (inCls 65 3)) [] [] (He.ma K (He.ga K "Reading") "reads_role") fd ∧ FnOk P w K mg base (L2.CX P w) 4 (He.ma K (He.ga K "Reading") "reads_role") fd ["self", "names"] (spC K 2 [0] false c_Reading_reads_role) := by
  obtain ⟨fd, F⟩ := z.c.def_ 15 (d := x_Reading_reads_role) rfl
  exact ⟨fd, F, f_Reading_reads_role (k := 2) z.fc ((T_k_is_name z).mono (by decide)) ((T_k_is_lot z).mono (by decide)) F⟩
theorem T_k_Reading_reads_role (z : Z K mg) : Mth P w K mg base 4 "Reading" "reads_role" 2 [0] false [] c_Reading_reads_role := by
  obtain ⟨fd, F, O⟩ := O_Reading_reads_role z
  exact mth_of z.fc.cl_Reading (He.meth_ok (z.c.fact 116 (f := fxFa (.meth "Reading" "reads_role")) rfl)) rfl O (FunD.bindsN F fun _ _ _ _ _ _ us hl => match us, hl with | [_, _], _ => rfl)
theorem O_Reading_reads_above (z : Z K mg) : ∃ fd, FunD K "reads_above" "Reading.reads_above" (defArgs (inCls 65 4)) (defBody (inCls 65 4)) (defScope (inCls 65 4)) [] [] (He.ma K (He.ga K "Reading") "reads_above") fd ∧ FnOk P w K mg base (L2.CX P w) 3 (He.ma K (He.ga K "Reading") "reads_above") fd ["self", "names"] (spC K 2 [0] false c_Reading_reads_above) := by
  obtain ⟨fd, F⟩ := z.c.def_ 16 (d := x_Reading_reads_above) rfl
  exact ⟨fd, F, f_Reading_reads_above (k := 1) z.fc ((T_k_below_of z).mono (by decide)) F⟩
theorem T_k_Reading_reads_above (z : Z K mg) : Mth P w K mg base 3 "Reading" "reads_above" 2 [0] false [] c_Reading_reads_above := by
  obtain ⟨fd, F, O⟩ := O_Reading_reads_above z
  exact mth_of z.fc.cl_Reading (He.meth_ok (z.c.fact 117 (f := fxFa (.meth "Reading" "reads_above")) rfl)) rfl O (FunD.bindsN F fun _ _ _ _ _ _ us hl => match us, hl with | [_, _], _ => rfl)
theorem O_Reading_reads_duty (z : Z K mg) : ∃ fd, FunD K "reads_duty" "Reading.reads_duty" (defArgs (inCls 65 5)) (defBody (inCls 65 5)) (defScope (inCls 65 5)) [] [] (He.ma K (He.ga K "Reading") "reads_duty") fd ∧ FnOk P w K mg base (L2.CX P w) 4 (He.ma K (He.ga K "Reading") "reads_duty") fd ["self", "words"] (spC K 2 [0] false c_Reading_reads_duty) := by
  obtain ⟨fd, F⟩ := z.c.def_ 17 (d := x_Reading_reads_duty) rfl
  exact ⟨fd, F, f_Reading_reads_duty (k := 2) z.fc ((T_k_number_in z).mono (by decide)) ((T_k_is_lot z).mono (by decide)) F⟩
theorem T_k_Reading_reads_duty (z : Z K mg) : Mth P w K mg base 4 "Reading" "reads_duty" 2 [0] false [] c_Reading_reads_duty := by
  obtain ⟨fd, F, O⟩ := O_Reading_reads_duty z
  exact mth_of z.fc.cl_Reading (He.meth_ok (z.c.fact 118 (f := fxFa (.meth "Reading" "reads_duty")) rfl)) rfl O (FunD.bindsN F fun _ _ _ _ _ _ us hl => match us, hl with | [_, _], _ => rfl)
theorem O_Reading_reads_rule (z : Z K mg) : ∃ fd, FunD K "reads_rule" "Reading.reads_rule" (defArgs (inCls 65 6)) (defBody (inCls 65 6)) (defScope (inCls 65 6)) [] [] (He.ma K (He.ga K "Reading") "reads_rule") fd ∧ FnOk P w K mg base (L2.CX P w) 4 (He.ma K (He.ga K "Reading") "reads_rule") fd ["self", "words"] (spC K 2 [0] false c_Reading_reads_rule) := by
  obtain ⟨fd, F⟩ := z.c.def_ 18 (d := x_Reading_reads_rule) rfl
  exact ⟨fd, F, f_Reading_reads_rule (k := 2) z.fc ((T_k_number_in z).mono (by decide)) ((T_k_is_lot z).mono (by decide)) F⟩
theorem T_k_Reading_reads_rule (z : Z K mg) : Mth P w K mg base 4 "Reading" "reads_rule" 2 [0] false [] c_Reading_reads_rule := by
  obtain ⟨fd, F, O⟩ := O_Reading_reads_rule z
  exact mth_of z.fc.cl_Reading (He.meth_ok (z.c.fact 119 (f := fxFa (.meth "Reading" "reads_rule")) rfl)) rfl O (FunD.bindsN F fun _ _ _ _ _ _ us hl => match us, hl with | [_, _], _ => rfl)
theorem O_Reading_reads (z : Z K mg) : ∃ fd, FunD K "reads" "Reading.reads" (defArgs (inCls 65 1)) (defBody (inCls 65 1)) (defScope (inCls 65 1)) [] [] (He.ma K (He.ga K "Reading") "reads") fd ∧ FnOk P w K mg base (L2.CX P w) 5 (He.ma K (He.ga K "Reading") "reads") fd ["self", "line"] (spC K 2 [0] false c_Reading_reads) := by
  obtain ⟨fd, F⟩ := z.c.def_ 19 (d := x_Reading_reads) rfl
  exact ⟨fd, F, f_Reading_reads (k := 3) z.fc ((T_k_Reading_reads_rights z).mono (by decide)) ((T_k_Reading_reads_role z).mono (by decide)) ((T_k_Reading_reads_above z).mono (by decide)) ((T_k_Reading_reads_duty z).mono (by decide)) ((T_k_Reading_reads_rule z).mono (by decide)) F⟩
theorem T_k_Reading_reads (z : Z K mg) : Mth P w K mg base 5 "Reading" "reads" 2 [0] false [] c_Reading_reads := by
  obtain ⟨fd, F, O⟩ := O_Reading_reads z
  exact mth_of z.fc.cl_Reading (He.meth_ok (z.c.fact 120 (f := fxFa (.meth "Reading" "reads")) rfl)) rfl O (FunD.bindsN F fun _ _ _ _ _ _ us hl => match us, hl with | [_, _], _ => rfl)
theorem O_read (z : Z K mg) : ∃ fd, FunD K "read" "read" (defArgs (top 66)) (defBody (top 66)) (defScope (top 66)) [] [] (He.ga K "read") fd ∧ FnOk P w K mg base (L2.CX P w) 6 (He.ga K "read") fd ["text"] (spC K 1 [] true c_read) := by
  obtain ⟨fd, F⟩ := z.c.def_ 20 (d := x_read) rfl
  exact ⟨fd, F, f_read (k := 4) z.fc ((T_k_Reading z).mono (by decide)) ((T_k_Reading_reads z).mono (by decide)) F⟩
theorem T_k_read (z : Z K mg) : Cal P w K mg base 6 "read" 1 [] true [] c_read := by
  obtain ⟨fd, F, O⟩ := O_read z
  exact cal_of (z.glo (z.c.fact 30 (f := fxFa (.glo "read")) rfl)) F.kp rfl O (FunD.bindsN F fun _ _ _ _ _ _ us hl => match us, hl with | [_], _ => rfl)
theorem O_numbered_line (z : Z K mg) : ∃ fd, FunD K "numbered_line" "numbered_line" (defArgs (top 67)) (defBody (top 67)) (defScope (top 67)) [] [] (He.ga K "numbered_line") fd ∧ FnOk P w K mg base (L2.CX P w) 2 (He.ga K "numbered_line") fd ["word", "pair"] (spC K 2 [] false c_numbered_line) := by
  obtain ⟨fd, F⟩ := z.c.def_ 21 (d := x_numbered_line) rfl
  exact ⟨fd, F, f_numbered_line (k := 0) z.fc  F⟩
theorem T_k_numbered_line (z : Z K mg) : Cal P w K mg base 2 "numbered_line" 2 [] false [] c_numbered_line := by
  obtain ⟨fd, F, O⟩ := O_numbered_line z
  exact cal_of (z.glo (z.c.fact 31 (f := fxFa (.glo "numbered_line")) rfl)) F.kp rfl O (FunD.bindsN F fun _ _ _ _ _ _ us hl => match us, hl with | [_, _], _ => rfl)
theorem O_text_by (z : Z K mg) : ∃ fd, FunD K "text_by" "text_by" (defArgs (top 68)) (defBody (top 68)) (defScope (top 68)) [] [] (He.ga K "text_by") fd ∧ FnOk P w K mg base (L2.CX P w) 3 (He.ga K "text_by") fd ["rights", "roles", "above", "pairs"] (spC K 4 [] false c_text_by) := by
  obtain ⟨fd, F⟩ := z.c.def_ 22 (d := x_text_by) rfl
  exact ⟨fd, F, f_text_by (k := 1) z.fc ((T_k_numbered_line z).mono (by decide)) F⟩
theorem T_k_text_by (z : Z K mg) : Cal P w K mg base 3 "text_by" 4 [] false [] c_text_by := by
  obtain ⟨fd, F, O⟩ := O_text_by z
  exact cal_of (z.glo (z.c.fact 32 (f := fxFa (.glo "text_by")) rfl)) F.kp rfl O (FunD.bindsN F fun _ _ _ _ _ _ us hl => match us, hl with | [_, _, _, _], _ => rfl)
theorem O_Book___init__ (z : Z K mg) : ∃ fd, FunD K "__init__" "Book.__init__" (defArgs (inCls 70 0)) (defBody (inCls 70 0)) (defScope (inCls 70 0)) [] [] (He.ma K (He.ga K "Book") "__init__") fd ∧ FnOk P w K mg base (L2.CX P w) 7 (He.ma K (He.ga K "Book") "__init__") fd ["self", "text"] (spC K 2 [0] false c_Book___init__) := by
  obtain ⟨fd, F⟩ := z.c.def_ 23 (d := x_Book___init__) rfl
  exact ⟨fd, F, f_Book___init__ (k := 5) z.fc ((T_k_read z).mono (by decide)) F⟩
theorem T_k_Book (z : Z K mg) : Mkr P w K mg base 7 "Book" 2 c_Book___init__ := by
  obtain ⟨fd, F, O⟩ := O_Book___init__ z
  exact ⟨_, fd, _, z.glo (z.c.fact 103 (f := fxFa (.glo "Book")) rfl), He.mkr_ok (z.c.fact 105 (f := fxFa (.mkr "Book")) rfl), rfl, O, (FunD.bindsN F fun _ _ _ _ _ _ us hl => match us, hl with | [_, _], _ => rfl)⟩
theorem T_q_Book (z : Z K mg) : MkrK P w K mg base 7 "Book" ["text"] [0] c_Book___init__ := by
  obtain ⟨fd, F, O⟩ := O_Book___init__ z
  exact ⟨_, fd, _, z.glo (z.c.fact 103 (f := fxFa (.glo "Book")) rfl), He.mkr_ok (z.c.fact 105 (f := fxFa (.mkr "Book")) rfl), O, kb_of F 1 ["text"] [0] fun _ _ _ _ _ _ us ws h1 h2 => match us, h1, ws, h2 with | [_], _, [_], _ => rfl⟩
theorem O_Book_text (z : Z K mg) : ∃ fd, FunD K "text" "Book.text" (defArgs (inCls 70 1)) (defBody (inCls 70 1)) (defScope (inCls 70 1)) [] [] (pAd K "Book" "text") fd ∧ FnOk P w K mg base (L2.CX P w) 2 (pAd K "Book" "text") fd ["self"] (spC K 1 [] false c_Book_text) := by
  obtain ⟨fd, F⟩ := z.c.def_ 24 (d := x_Book_text) rfl
  exact ⟨fd, F, f_Book_text (k := 0) z.fc  F⟩
theorem T_k_Book_text (z : Z K mg) : Prp P w K mg base 2 "Book" "text" false c_Book_text := by
  obtain ⟨fd, F, O⟩ := O_Book_text z
  exact ⟨_, _, fd, _, z.fc.cl_Book, prp_ok (z.c.fact 121 (f := fxPrp "Book" "text") rfl), rfl, O, (FunD.bindsN F fun _ _ _ _ _ _ us hl => match us, hl with | [_], _ => rfl)⟩
theorem O_Book_rights (z : Z K mg) : ∃ fd, FunD K "rights" "Book.rights" (defArgs (inCls 70 2)) (defBody (inCls 70 2)) (defScope (inCls 70 2)) [] [] (pAd K "Book" "rights") fd ∧ FnOk P w K mg base (L2.CX P w) 2 (pAd K "Book" "rights") fd ["self"] (spC K 1 [] false c_Book_rights) := by
  obtain ⟨fd, F⟩ := z.c.def_ 25 (d := x_Book_rights) rfl
  exact ⟨fd, F, f_Book_rights (k := 0) z.fc  F⟩
theorem T_k_Book_rights (z : Z K mg) : Prp P w K mg base 2 "Book" "rights" false c_Book_rights := by
  obtain ⟨fd, F, O⟩ := O_Book_rights z
  exact ⟨_, _, fd, _, z.fc.cl_Book, prp_ok (z.c.fact 122 (f := fxPrp "Book" "rights") rfl), rfl, O, (FunD.bindsN F fun _ _ _ _ _ _ us hl => match us, hl with | [_], _ => rfl)⟩
theorem O_Book_roles (z : Z K mg) : ∃ fd, FunD K "roles" "Book.roles" (defArgs (inCls 70 3)) (defBody (inCls 70 3)) (defScope (inCls 70 3)) [] [] (pAd K "Book" "roles") fd ∧ FnOk P w K mg base (L2.CX P w) 2 (pAd K "Book" "roles") fd ["self"] (spC K 1 [] false c_Book_roles) := by
  obtain ⟨fd, F⟩ := z.c.def_ 26 (d := x_Book_roles) rfl
  exact ⟨fd, F, f_Book_roles (k := 0) z.fc  F⟩
theorem T_k_Book_roles (z : Z K mg) : Prp P w K mg base 2 "Book" "roles" false c_Book_roles := by
  obtain ⟨fd, F, O⟩ := O_Book_roles z
  exact ⟨_, _, fd, _, z.fc.cl_Book, prp_ok (z.c.fact 123 (f := fxPrp "Book" "roles") rfl), rfl, O, (FunD.bindsN F fun _ _ _ _ _ _ us hl => match us, hl with | [_], _ => rfl)⟩
theorem O_Book_duties (z : Z K mg) : ∃ fd, FunD K "duties" "Book.duties" (defArgs (inCls 70 4)) (defBody (inCls 70 4)) (defScope (inCls 70 4)) [] [] (pAd K "Book" "duties") fd ∧ FnOk P w K mg base (L2.CX P w) 2 (pAd K "Book" "duties") fd ["self"] (spC K 1 [] false c_Book_duties) := by
  obtain ⟨fd, F⟩ := z.c.def_ 27 (d := x_Book_duties) rfl
  exact ⟨fd, F, f_Book_duties (k := 0) z.fc  F⟩
theorem T_k_Book_duties (z : Z K mg) : Prp P w K mg base 2 "Book" "duties" false c_Book_duties := by
  obtain ⟨fd, F, O⟩ := O_Book_duties z
  exact ⟨_, _, fd, _, z.fc.cl_Book, prp_ok (z.c.fact 124 (f := fxPrp "Book" "duties") rfl), rfl, O, (FunD.bindsN F fun _ _ _ _ _ _ us hl => match us, hl with | [_], _ => rfl)⟩
theorem O_Book_rules (z : Z K mg) : ∃ fd, FunD K "rules" "Book.rules" (defArgs (inCls 70 5)) (defBody (inCls 70 5)) (defScope (inCls 70 5)) [] [] (pAd K "Book" "rules") fd ∧ FnOk P w K mg base (L2.CX P w) 2 (pAd K "Book" "rules") fd ["self"] (spC K 1 [] false c_Book_rules) := by
  obtain ⟨fd, F⟩ := z.c.def_ 28 (d := x_Book_rules) rfl
  exact ⟨fd, F, f_Book_rules (k := 0) z.fc  F⟩
theorem T_k_Book_rules (z : Z K mg) : Prp P w K mg base 2 "Book" "rules" false c_Book_rules := by
  obtain ⟨fd, F, O⟩ := O_Book_rules z
  exact ⟨_, _, fd, _, z.fc.cl_Book, prp_ok (z.c.fact 125 (f := fxPrp "Book" "rules") rfl), rfl, O, (FunD.bindsN F fun _ _ _ _ _ _ us hl => match us, hl with | [_], _ => rfl)⟩
theorem O_Book___contains__ (z : Z K mg) : ∃ fd, FunD K "__contains__" "Book.__contains__" (defArgs (inCls 70 7)) (defBody (inCls 70 7)) (defScope (inCls 70 7)) [] [] (He.ma K (He.ga K "Book") "__contains__") fd ∧ FnOk P w K mg base (L2.CX P w) 4 (He.ma K (He.ga K "Book") "__contains__") fd ["self", "value"] (spC K 2 [] false c_Book___contains__) := by
  obtain ⟨fd, F⟩ := z.c.def_ 29 (d := x_Book___contains__) rfl
  exact ⟨fd, F, f_Book___contains__ (k := 2) z.fc ((T_k_is_word z).mono (by decide)) ((T_k_Book_roles z).mono (by decide)) F⟩
theorem T_c_Book_contains (z : Z K mg) : Spl P w K mg base 4 "Book" "__contains__" false c_Book___contains__ := by
  obtain ⟨fd, F, O⟩ := O_Book___contains__ z
  exact ⟨_, fd, _, (spl_ok (z.c.fact 126 (f := fxSpl "Book" "__contains__") rfl)).1, (spl_ok (z.c.fact 126 (f := fxSpl "Book" "__contains__") rfl)).2, rfl, O, (FunD.bindsN F fun _ _ _ _ _ _ us hl => match us, hl with | [_, _], _ => rfl)⟩
theorem O_Book___eq__ (z : Z K mg) : ∃ fd, FunD K "__eq__" "Book.__eq__" (defArgs (inCls 70 8)) (defBody (inCls 70 8)) (defScope (inCls 70 8)) [] [] (He.ma K (He.ga K "Book") "__eq__") fd ∧ FnOk P w K mg base (L2.CX P w) 4 (He.ma K (He.ga K "Book") "__eq__") fd ["self", "other"] (spC K 2 [] false c_Book___eq__) := by
  obtain ⟨fd, F⟩ := z.c.def_ 30 (d := x_Book___eq__) rfl
  exact ⟨fd, F, f_Book___eq__ (k := 2) z.fc ((T_k_Book_text z).mono (by decide)) F⟩
theorem T_c_Book_eq (z : Z K mg) : Spl P w K mg base 4 "Book" "__eq__" false c_Book___eq__ := by
  obtain ⟨fd, F, O⟩ := O_Book___eq__ z
  exact ⟨_, fd, _, (spl_ok (z.c.fact 127 (f := fxSpl "Book" "__eq__") rfl)).1, (spl_ok (z.c.fact 127 (f := fxSpl "Book" "__eq__") rfl)).2, rfl, O, (FunD.bindsN F fun _ _ _ _ _ _ us hl => match us, hl with | [_, _], _ => rfl)⟩
theorem O_Book_check_role (z : Z K mg) : ∃ fd, FunD K "check_role" "Book.check_role" (defArgs (inCls 70 9)) (defBody (inCls 70 9)) (defScope (inCls 70 9)) [] [] (He.ma K (He.ga K "Book") "check_role") fd ∧ FnOk P w K mg base (L2.CX P w) 5 (He.ma K (He.ga K "Book") "check_role") fd ["self", "role"] (spC K 2 [] false c_Book_check_role) := by
  obtain ⟨fd, F⟩ := z.c.def_ 31 (d := x_Book_check_role) rfl
  exact ⟨fd, F, f_Book_check_role (k := 3) z.fc ((T_c_Book_contains z).mono (by decide)) F⟩
theorem T_k_Book_check_role (z : Z K mg) : Mth P w K mg base 5 "Book" "check_role" 2 [] false [] c_Book_check_role := by
  obtain ⟨fd, F, O⟩ := O_Book_check_role z
  exact mth_of z.fc.cl_Book (He.meth_ok (z.c.fact 128 (f := fxFa (.meth "Book" "check_role")) rfl)) rfl O (FunD.bindsN F fun _ _ _ _ _ _ us hl => match us, hl with | [_, _], _ => rfl)
theorem O_Book_gives (z : Z K mg) : ∃ fd, FunD K "gives" "Book.gives" (defArgs (inCls 70 10)) (defBody (inCls 70 10)) (defScope (inCls 70 10)) [] [] (He.ma K (He.ga K "Book") "gives") fd ∧ FnOk P w K mg base (L2.CX P w) 6 (He.ma K (He.ga K "Book") "gives") fd ["self", "role"] (spC K 2 [] false c_Book_gives) := by
  obtain ⟨fd, F⟩ := z.c.def_ 32 (d := x_Book_gives) rfl
  exact ⟨fd, F, f_Book_gives (k := 4) z.fc ((T_k_Book_check_role z).mono (by decide)) F⟩
theorem T_k_Book_gives (z : Z K mg) : Mth P w K mg base 6 "Book" "gives" 2 [] false [] c_Book_gives := by
  obtain ⟨fd, F, O⟩ := O_Book_gives z
  exact mth_of z.fc.cl_Book (He.meth_ok (z.c.fact 129 (f := fxFa (.meth "Book" "gives")) rfl)) rfl O (FunD.bindsN F fun _ _ _ _ _ _ us hl => match us, hl with | [_, _], _ => rfl)
theorem T_q_Book_gives (z : Z K mg) : MthK P w K mg base 6 "Book" "gives" ["role"] [0] false c_Book_gives := by
  obtain ⟨fd, F, O⟩ := O_Book_gives z
  exact ⟨_, fd, _, z.fc.cl_Book, He.meth_ok (z.c.fact 129 (f := fxFa (.meth "Book" "gives")) rfl), O, kb_of F 1 ["role"] [0] fun _ _ _ _ _ _ us ws h1 h2 => match us, h1, ws, h2 with | [_], _, [_], _ => rfl⟩
theorem O_Book_below (z : Z K mg) : ∃ fd, FunD K "below" "Book.below" (defArgs (inCls 70 11)) (defBody (inCls 70 11)) (defScope (inCls 70 11)) [] [] (He.ma K (He.ga K "Book") "below") fd ∧ FnOk P w K mg base (L2.CX P w) 6 (He.ma K (He.ga K "Book") "below") fd ["self", "role"] (spC K 2 [] false c_Book_below) := by
  obtain ⟨fd, F⟩ := z.c.def_ 33 (d := x_Book_below) rfl
  exact ⟨fd, F, f_Book_below (k := 4) z.fc ((T_k_Book_check_role z).mono (by decide)) ((T_k_lot_of z).mono (by decide)) ((T_k_Book_roles z).mono (by decide)) ((T_k_below_of z).mono (by decide)) F⟩
theorem T_k_Book_below (z : Z K mg) : Mth P w K mg base 6 "Book" "below" 2 [] false [] c_Book_below := by
  obtain ⟨fd, F, O⟩ := O_Book_below z
  exact mth_of z.fc.cl_Book (He.meth_ok (z.c.fact 130 (f := fxFa (.meth "Book" "below")) rfl)) rfl O (FunD.bindsN F fun _ _ _ _ _ _ us hl => match us, hl with | [_, _], _ => rfl)
theorem T_q_Book_below (z : Z K mg) : MthK P w K mg base 6 "Book" "below" ["role"] [0] false c_Book_below := by
  obtain ⟨fd, F, O⟩ := O_Book_below z
  exact ⟨_, fd, _, z.fc.cl_Book, He.meth_ok (z.c.fact 130 (f := fxFa (.meth "Book" "below")) rfl), O, kb_of F 1 ["role"] [0] fun _ _ _ _ _ _ us ws h1 h2 => match us, h1, ws, h2 with | [_], _, [_], _ => rfl⟩
theorem O_Book_changed (z : Z K mg) : ∃ fd, FunD K "changed" "Book.changed" (defArgs (inCls 70 12)) (defBody (inCls 70 12)) (defScope (inCls 70 12)) [] [] (He.ma K (He.ga K "Book") "changed") fd ∧ FnOk P w K mg base (L2.CX P w) 9 (He.ma K (He.ga K "Book") "changed") fd ["self", "roles", "rules"] (spC K 3 [] false c_Book_changed) := by
  obtain ⟨fd, F⟩ := z.c.def_ 34 (d := x_Book_changed) rfl
  exact ⟨fd, F, f_Book_changed (k := 7) z.fc ((T_k_Book z).mono (by decide)) ((T_k_text_by z).mono (by decide)) ((T_k_Book_rights z).mono (by decide)) ((T_k_Book_duties z).mono (by decide)) F⟩
theorem T_k_Book_changed (z : Z K mg) : Mth P w K mg base 9 "Book" "changed" 3 [] false [] c_Book_changed := by
  obtain ⟨fd, F, O⟩ := O_Book_changed z
  exact mth_of z.fc.cl_Book (He.meth_ok (z.c.fact 131 (f := fxFa (.meth "Book" "changed")) rfl)) rfl O (FunD.bindsN F fun _ _ _ _ _ _ us hl => match us, hl with | [_, _, _], _ => rfl)
theorem O_Book_is_rule (z : Z K mg) : ∃ fd, FunD K "is_rule" "Book.is_rule" (defArgs (inCls 70 13)) (defBody (inCls 70 13)) (defScope (inCls 70 13)) [] [] (He.ma K (He.ga K "Book") "is_rule") fd ∧ FnOk P w K mg base (L2.CX P w) 4 (He.ma K (He.ga K "Book") "is_rule") fd ["self", "number", "roles"] (spC K 3 [] false c_Book_is_rule) := by
  obtain ⟨fd, F⟩ := z.c.def_ 35 (d := x_Book_is_rule) rfl
  exact ⟨fd, F, f_Book_is_rule (k := 2) z.fc ((T_k_is_integer z).mono (by decide)) ((T_k_is_lot z).mono (by decide)) ((T_k_Book_roles z).mono (by decide)) F⟩
theorem T_k_Book_is_rule (z : Z K mg) : Mth P w K mg base 4 "Book" "is_rule" 3 [] false [] c_Book_is_rule := by
  obtain ⟨fd, F, O⟩ := O_Book_is_rule z
  exact mth_of z.fc.cl_Book (He.meth_ok (z.c.fact 132 (f := fxFa (.meth "Book" "is_rule")) rfl)) rfl O (FunD.bindsN F fun _ _ _ _ _ _ us hl => match us, hl with | [_, _, _], _ => rfl)
theorem O_Book_with_rule (z : Z K mg) : ∃ fd, FunD K "with_rule" "Book.with_rule" (defArgs (inCls 70 14)) (defBody (inCls 70 14)) (defScope (inCls 70 14)) [] [] (He.ma K (He.ga K "Book") "with_rule") fd ∧ FnOk P w K mg base (L2.CX P w) 10 (He.ma K (He.ga K "Book") "with_rule") fd ["self", "number", "roles"] (spC K 3 [] false c_Book_with_rule) := by
  obtain ⟨fd, F⟩ := z.c.def_ 36 (d := x_Book_with_rule) rfl
  exact ⟨fd, F, f_Book_with_rule (k := 8) z.fc ((T_k_Book_rules z).mono (by decide)) ((T_k_Book_is_rule z).mono (by decide)) ((T_k_Book_changed z).mono (by decide)) F⟩
theorem T_q_Book_with_rule (z : Z K mg) : MthK P w K mg base 10 "Book" "with_rule" ["roles", "number"] [1, 0] false c_Book_with_rule := by
  obtain ⟨fd, F, O⟩ := O_Book_with_rule z
  exact ⟨_, fd, _, z.fc.cl_Book, He.meth_ok (z.c.fact 133 (f := fxFa (.meth "Book" "with_rule")) rfl), O, kb_of F 1 ["roles", "number"] [1, 0] fun _ _ _ _ _ _ us ws h1 h2 => match us, h1, ws, h2 with | [_], _, [_, _], _ => rfl⟩
theorem T_k_Book_with_rule (z : Z K mg) : Mth P w K mg base 10 "Book" "with_rule" 3 [] false [] c_Book_with_rule := by
  obtain ⟨fd, F, O⟩ := O_Book_with_rule z
  exact mth_of z.fc.cl_Book (He.meth_ok (z.c.fact 133 (f := fxFa (.meth "Book" "with_rule")) rfl)) rfl O (FunD.bindsN F fun _ _ _ _ _ _ us hl => match us, hl with | [_, _, _], _ => rfl)
theorem O_Book_without_rule (z : Z K mg) : ∃ fd, FunD K "without_rule" "Book.without_rule" (defArgs (inCls 70 15)) (defBody (inCls 70 15)) (defScope (inCls 70 15)) [] [] (He.ma K (He.ga K "Book") "without_rule") fd ∧ FnOk P w K mg base (L2.CX P w) 10 (He.ma K (He.ga K "Book") "without_rule") fd ["self", "number"] (spC K 2 [] false c_Book_without_rule) := by
  obtain ⟨fd, F⟩ := z.c.def_ 37 (d := x_Book_without_rule) rfl
  exact ⟨fd, F, f_Book_without_rule (k := 8) z.fc ((T_k_is_integer z).mono (by decide)) ((T_k_Book_rules z).mono (by decide)) ((T_k_Book_changed z).mono (by decide)) F⟩
theorem T_q_Book_without_rule (z : Z K mg) : MthK P w K mg base 10 "Book" "without_rule" ["number"] [0] false c_Book_without_rule := by
  obtain ⟨fd, F, O⟩ := O_Book_without_rule z
  exact ⟨_, fd, _, z.fc.cl_Book, He.meth_ok (z.c.fact 134 (f := fxFa (.meth "Book" "without_rule")) rfl), O, kb_of F 1 ["number"] [0] fun _ _ _ _ _ _ us ws h1 h2 => match us, h1, ws, h2 with | [_], _, [_], _ => rfl⟩
theorem O_Book_with_right (z : Z K mg) : ∃ fd, FunD K "with_right" "Book.with_right" (defArgs (inCls 70 16)) (defBody (inCls 70 16)) (defScope (inCls 70 16)) [] [] (He.ma K (He.ga K "Book") "with_right") fd ∧ FnOk P w K mg base (L2.CX P w) 10 (He.ma K (He.ga K "Book") "with_right") fd ["self", "role", "right"] (spC K 3 [] false c_Book_with_right) := by
  obtain ⟨fd, F⟩ := z.c.def_ 38 (d := x_Book_with_right) rfl
  exact ⟨fd, F, f_Book_with_right (k := 8) z.fc ((T_k_Book_gives z).mono (by decide)) ((T_k_is_word z).mono (by decide)) ((T_k_Book_rights z).mono (by decide)) ((T_k_Book_changed z).mono (by decide)) ((T_k_lot_of z).mono (by decide)) ((T_k_Book_rules z).mono (by decide)) F⟩
theorem T_q_Book_with_right (z : Z K mg) : MthK P w K mg base 10 "Book" "with_right" ["right", "role"] [1, 0] false c_Book_with_right := by
  obtain ⟨fd, F, O⟩ := O_Book_with_right z
  exact ⟨_, fd, _, z.fc.cl_Book, He.meth_ok (z.c.fact 135 (f := fxFa (.meth "Book" "with_right")) rfl), O, kb_of F 1 ["right", "role"] [1, 0] fun _ _ _ _ _ _ us ws h1 h2 => match us, h1, ws, h2 with | [_], _, [_, _], _ => rfl⟩
theorem T_k_Book_with_right (z : Z K mg) : Mth P w K mg base 10 "Book" "with_right" 3 [] false [] c_Book_with_right := by
  obtain ⟨fd, F, O⟩ := O_Book_with_right z
  exact mth_of z.fc.cl_Book (He.meth_ok (z.c.fact 135 (f := fxFa (.meth "Book" "with_right")) rfl)) rfl O (FunD.bindsN F fun _ _ _ _ _ _ us hl => match us, hl with | [_, _, _], _ => rfl)
theorem O_Book_without_right (z : Z K mg) : ∃ fd, FunD K "without_right" "Book.without_right" (defArgs (inCls 70 17)) (defBody (inCls 70 17)) (defScope (inCls 70 17)) [] [] (He.ma K (He.ga K "Book") "without_right") fd ∧ FnOk P w K mg base (L2.CX P w) 10 (He.ma K (He.ga K "Book") "without_right") fd ["self", "role", "right"] (spC K 3 [] false c_Book_without_right) := by
  obtain ⟨fd, F⟩ := z.c.def_ 39 (d := x_Book_without_right) rfl
  exact ⟨fd, F, f_Book_without_right (k := 8) z.fc ((T_k_Book_gives z).mono (by decide)) ((T_k_is_word z).mono (by decide)) ((T_k_Book_changed z).mono (by decide)) ((T_k_Book_rules z).mono (by decide)) F⟩
theorem T_q_Book_without_right (z : Z K mg) : MthK P w K mg base 10 "Book" "without_right" ["right", "role"] [1, 0] false c_Book_without_right := by
  obtain ⟨fd, F, O⟩ := O_Book_without_right z
  exact ⟨_, fd, _, z.fc.cl_Book, He.meth_ok (z.c.fact 136 (f := fxFa (.meth "Book" "without_right")) rfl), O, kb_of F 1 ["right", "role"] [1, 0] fun _ _ _ _ _ _ us ws h1 h2 => match us, h1, ws, h2 with | [_], _, [_, _], _ => rfl⟩
theorem T_k_Book_without_right (z : Z K mg) : Mth P w K mg base 10 "Book" "without_right" 3 [] false [] c_Book_without_right := by
  obtain ⟨fd, F, O⟩ := O_Book_without_right z
  exact mth_of z.fc.cl_Book (He.meth_ok (z.c.fact 136 (f := fxFa (.meth "Book" "without_right")) rfl)) rfl O (FunD.bindsN F fun _ _ _ _ _ _ us hl => match us, hl with | [_, _, _], _ => rfl)
theorem O_check_duty (z : Z K mg) : ∃ fd, FunD K "check_duty" "check_duty" (defArgs (top 71)) (defBody (top 71)) (defScope (top 71)) [] [] (He.ga K "check_duty") fd ∧ FnOk P w K mg base (L2.CX P w) 4 (He.ga K "check_duty") fd ["book", "duty"] (spC K 2 [] false c_check_duty) := by
  obtain ⟨fd, F⟩ := z.c.def_ 40 (d := x_check_duty) rfl
  exact ⟨fd, F, f_check_duty (k := 2) z.fc ((T_k_is_integer z).mono (by decide)) ((T_k_Book_duties z).mono (by decide)) F⟩
theorem T_k_check_duty (z : Z K mg) : Cal P w K mg base 4 "check_duty" 2 [] false [] c_check_duty := by
  obtain ⟨fd, F, O⟩ := O_check_duty z
  exact cal_of (z.glo (z.c.fact 33 (f := fxFa (.glo "check_duty")) rfl)) F.kp rfl O (FunD.bindsN F fun _ _ _ _ _ _ us hl => match us, hl with | [_, _], _ => rfl)
theorem O_closed (z : Z K mg) : ∃ fd, FunD K "closed" "closed" (defArgs (top 34)) (defBody (top 34)) (defScope (top 34)) [] [] (He.ga K "closed") fd ∧ FnOk P w K mg base (L2.CX P w) 7 (He.ga K "closed") fd ["book", "roles"] (spC K 2 [] false c_closed) := by
  obtain ⟨fd, F⟩ := z.c.def_ 41 (d := x_closed) rfl
  exact ⟨fd, F, f_closed (k := 5) z.fc ((T_k_Book_below z).mono (by decide)) ((T_k_lot_of z).mono (by decide)) ((T_k_Book_roles z).mono (by decide)) F⟩
theorem T_k_closed (z : Z K mg) : Cal P w K mg base 7 "closed" 2 [] false [] c_closed := by
  obtain ⟨fd, F, O⟩ := O_closed z
  exact cal_of (z.glo (z.c.fact 34 (f := fxFa (.glo "closed")) rfl)) F.kp rfl O (FunD.bindsN F fun _ _ _ _ _ _ us hl => match us, hl with | [_, _], _ => rfl)
theorem O_is_hand (z : Z K mg) : ∃ fd, FunD K "is_hand" "is_hand" (defArgs (top 35)) (defBody (top 35)) (defScope (top 35)) [] [] (He.ga K "is_hand") fd ∧ FnOk P w K mg base (L2.CX P w) 8 (He.ga K "is_hand") fd ["book", "value"] (spC K 2 [] false c_is_hand) := by
  obtain ⟨fd, F⟩ := z.c.def_ 42 (d := x_is_hand) rfl
  exact ⟨fd, F, f_is_hand (k := 6) z.fc ((T_k_closed z).mono (by decide)) ((T_k_is_lot z).mono (by decide)) ((T_k_Book_roles z).mono (by decide)) F⟩
theorem T_k_is_hand (z : Z K mg) : Cal P w K mg base 8 "is_hand" 2 [] false [] c_is_hand := by
  obtain ⟨fd, F, O⟩ := O_is_hand z
  exact cal_of (z.glo (z.c.fact 35 (f := fxFa (.glo "is_hand")) rfl)) F.kp rfl O (FunD.bindsN F fun _ _ _ _ _ _ us hl => match us, hl with | [_, _], _ => rfl)
theorem O_check_hand (z : Z K mg) : ∃ fd, FunD K "check_hand" "check_hand" (defArgs (top 36)) (defBody (top 36)) (defScope (top 36)) [] [] (He.ga K "check_hand") fd ∧ FnOk P w K mg base (L2.CX P w) 9 (He.ga K "check_hand") fd ["book", "hand"] (spC K 2 [] false c_check_hand) := by
  obtain ⟨fd, F⟩ := z.c.def_ 43 (d := x_check_hand) rfl
  exact ⟨fd, F, f_check_hand (k := 7) z.fc ((T_k_is_hand z).mono (by decide)) F⟩
theorem T_k_check_hand (z : Z K mg) : Cal P w K mg base 9 "check_hand" 2 [] false [] c_check_hand := by
  obtain ⟨fd, F, O⟩ := O_check_hand z
  exact cal_of (z.glo (z.c.fact 36 (f := fxFa (.glo "check_hand")) rfl)) F.kp rfl O (FunD.bindsN F fun _ _ _ _ _ _ us hl => match us, hl with | [_, _], _ => rfl)
theorem O_all_hands (z : Z K mg) : ∃ fd, FunD K "all_hands" "all_hands" (defArgs (top 37)) (defBody (top 37)) (defScope (top 37)) [] [] (He.ga K "all_hands") fd ∧ FnOk P w K mg base (L2.CX P w) 8 (He.ga K "all_hands") fd ["book"] (spC K 1 [] false c_all_hands) := by
  obtain ⟨fd, F⟩ := z.c.def_ 44 (d := x_all_hands) rfl
  exact ⟨fd, F, f_all_hands (k := 6) z.fc ((T_k_lots_of z).mono (by decide)) ((T_k_Book_roles z).mono (by decide)) ((T_k_closed z).mono (by decide)) F⟩
theorem T_k_all_hands (z : Z K mg) : Cal P w K mg base 8 "all_hands" 1 [] false [] c_all_hands := by
  obtain ⟨fd, F, O⟩ := O_all_hands z
  exact cal_of (z.glo (z.c.fact 37 (f := fxFa (.glo "all_hands")) rfl)) F.kp rfl O (FunD.bindsN F fun _ _ _ _ _ _ us hl => match us, hl with | [_], _ => rfl)
theorem O_gifts (z : Z K mg) : ∃ fd, FunD K "gifts" "gifts" (defArgs (top 38)) (defBody (top 38)) (defScope (top 38)) [] [] (He.ga K "gifts") fd ∧ FnOk P w K mg base (L2.CX P w) 7 (He.ga K "gifts") fd ["book", "hand"] (spC K 2 [] false c_gifts) := by
  obtain ⟨fd, F⟩ := z.c.def_ 45 (d := x_gifts) rfl
  exact ⟨fd, F, f_gifts (k := 5) z.fc ((T_k_lot_of z).mono (by decide)) ((T_k_Book_rights z).mono (by decide)) ((T_k_Book_gives z).mono (by decide)) F⟩
theorem T_k_gifts (z : Z K mg) : Cal P w K mg base 7 "gifts" 2 [] false [] c_gifts := by
  obtain ⟨fd, F, O⟩ := O_gifts z
  exact cal_of (z.glo (z.c.fact 38 (f := fxFa (.glo "gifts")) rfl)) F.kp rfl O (FunD.bindsN F fun _ _ _ _ _ _ us hl => match us, hl with | [_, _], _ => rfl)
theorem O_bar_of (z : Z K mg) : ∃ fd, FunD K "bar_of" "bar_of" (defArgs (top 39)) (defBody (top 39)) (defScope (top 39)) [] [] (He.ga K "bar_of") fd ∧ FnOk P w K mg base (L2.CX P w) 2 (He.ga K "bar_of") fd ["rules", "hand"] (spC K 2 [] false c_bar_of) := by
  obtain ⟨fd, F⟩ := z.c.def_ 46 (d := x_bar_of) rfl
  exact ⟨fd, F, f_bar_of (k := 0) z.fc  F⟩
theorem T_k_bar_of (z : Z K mg) : Cal P w K mg base 2 "bar_of" 2 [] false [] c_bar_of := by
  obtain ⟨fd, F, O⟩ := O_bar_of z
  exact cal_of (z.glo (z.c.fact 39 (f := fxFa (.glo "bar_of")) rfl)) F.kp rfl O (FunD.bindsN F fun _ _ _ _ _ _ us hl => match us, hl with | [_, _], _ => rfl)
theorem O_let_by (z : Z K mg) : ∃ fd, FunD K "let_by" "let_by" (defArgs (top 40)) (defBody (top 40)) (defScope (top 40)) [] [] (He.ga K "let_by") fd ∧ FnOk P w K mg base (L2.CX P w) 9 (He.ga K "let_by") fd ["book", "rules"] (spC K 2 [] false c_let_by) := by
  obtain ⟨fd, F⟩ := z.c.def_ 47 (d := x_let_by) rfl
  exact ⟨fd, F, f_let_by (k := 7) z.fc ((T_k_all_hands z).mono (by decide)) ((T_k_bar_of z).mono (by decide)) F⟩
theorem T_k_let_by (z : Z K mg) : Cal P w K mg base 9 "let_by" 2 [] false [] c_let_by := by
  obtain ⟨fd, F, O⟩ := O_let_by z
  exact cal_of (z.glo (z.c.fact 40 (f := fxFa (.glo "let_by")) rfl)) F.kp rfl O (FunD.bindsN F fun _ _ _ _ _ _ us hl => match us, hl with | [_, _], _ => rfl)
theorem O_let_hands (z : Z K mg) : ∃ fd, FunD K "let_hands" "let_hands" (defArgs (top 41)) (defBody (top 41)) (defScope (top 41)) [] [] (He.ga K "let_hands") fd ∧ FnOk P w K mg base (L2.CX P w) 10 (He.ga K "let_hands") fd ["book"] (spC K 1 [] false c_let_hands) := by
  obtain ⟨fd, F⟩ := z.c.def_ 48 (d := x_let_hands) rfl
  exact ⟨fd, F, f_let_hands (k := 8) z.fc ((T_k_let_by z).mono (by decide)) ((T_k_Book_rules z).mono (by decide)) F⟩
theorem T_k_let_hands (z : Z K mg) : Cal P w K mg base 10 "let_hands" 1 [] false [] c_let_hands := by
  obtain ⟨fd, F, O⟩ := O_let_hands z
  exact cal_of (z.glo (z.c.fact 41 (f := fxFa (.glo "let_hands")) rfl)) F.kp rfl O (FunD.bindsN F fun _ _ _ _ _ _ us hl => match us, hl with | [_], _ => rfl)
theorem O_bars_of (z : Z K mg) : ∃ fd, FunD K "bars_of" "bars_of" (defArgs (top 42)) (defBody (top 42)) (defScope (top 42)) [] [] (He.ga K "bars_of") fd ∧ FnOk P w K mg base (L2.CX P w) 9 (He.ga K "bars_of") fd ["book", "hands"] (spC K 2 [] false c_bars_of) := by
  obtain ⟨fd, F⟩ := z.c.def_ 49 (d := x_bars_of) rfl
  exact ⟨fd, F, f_bars_of (k := 7) z.fc ((T_k_least_of z).mono (by decide)) ((T_k_all_hands z).mono (by decide)) F⟩
theorem T_k_bars_of (z : Z K mg) : Cal P w K mg base 9 "bars_of" 2 [] false [] c_bars_of := by
  obtain ⟨fd, F, O⟩ := O_bars_of z
  exact cal_of (z.glo (z.c.fact 42 (f := fxFa (.glo "bars_of")) rfl)) F.kp rfl O (FunD.bindsN F fun _ _ _ _ _ _ us hl => match us, hl with | [_, _], _ => rfl)
theorem O_hand_of (z : Z K mg) : ∃ fd, FunD K "hand_of" "hand_of" (defArgs (top 43)) (defBody (top 43)) (defScope (top 43)) [] [] (He.ga K "hand_of") fd ∧ FnOk P w K mg base (L2.CX P w) 8 (He.ga K "hand_of") fd ["book", "roles"] (spC K 2 [] false c_hand_of) := by
  obtain ⟨fd, F⟩ := z.c.def_ 50 (d := x_hand_of) rfl
  exact ⟨fd, F, f_hand_of (k := 6) z.fc ((T_k_is_lot z).mono (by decide)) ((T_k_Book_roles z).mono (by decide)) ((T_k_closed z).mono (by decide)) F⟩
theorem T_q_hand_of (z : Z K mg) : CalK P w K mg base 8 "hand_of" ["roles", "book"] [1, 0] false c_hand_of := by
  obtain ⟨fd, F, O⟩ := O_hand_of z
  exact ⟨_, fd, _, z.glo (z.c.fact 43 (f := fxFa (.glo "hand_of")) rfl), F.kp, O, kb0_of F ["roles", "book"] [1, 0] fun _ _ _ _ _ _ ws hl => match ws, hl with | [_, _], _ => rfl⟩
theorem T_k_hand_of (z : Z K mg) : Cal P w K mg base 8 "hand_of" 2 [] false [] c_hand_of := by
  obtain ⟨fd, F, O⟩ := O_hand_of z
  exact cal_of (z.glo (z.c.fact 43 (f := fxFa (.glo "hand_of")) rfl)) F.kp rfl O (FunD.bindsN F fun _ _ _ _ _ _ us hl => match us, hl with | [_, _], _ => rfl)
theorem O_rights_of (z : Z K mg) : ∃ fd, FunD K "rights_of" "rights_of" (defArgs (top 44)) (defBody (top 44)) (defScope (top 44)) [] [] (He.ga K "rights_of") fd ∧ FnOk P w K mg base (L2.CX P w) 10 (He.ga K "rights_of") fd ["book", "hand"] (spC K 2 [] false c_rights_of) := by
  obtain ⟨fd, F⟩ := z.c.def_ 51 (d := x_rights_of) rfl
  exact ⟨fd, F, f_rights_of (k := 8) z.fc ((T_k_check_hand z).mono (by decide)) ((T_k_gifts z).mono (by decide)) F⟩
theorem T_q_rights_of (z : Z K mg) : CalK P w K mg base 10 "rights_of" ["hand", "book"] [1, 0] false c_rights_of := by
  obtain ⟨fd, F, O⟩ := O_rights_of z
  exact ⟨_, fd, _, z.glo (z.c.fact 44 (f := fxFa (.glo "rights_of")) rfl), F.kp, O, kb0_of F ["hand", "book"] [1, 0] fun _ _ _ _ _ _ ws hl => match ws, hl with | [_, _], _ => rfl⟩
theorem T_k_rights_of (z : Z K mg) : Cal P w K mg base 10 "rights_of" 2 [] false [] c_rights_of := by
  obtain ⟨fd, F, O⟩ := O_rights_of z
  exact cal_of (z.glo (z.c.fact 44 (f := fxFa (.glo "rights_of")) rfl)) F.kp rfl O (FunD.bindsN F fun _ _ _ _ _ _ us hl => match us, hl with | [_, _], _ => rfl)
theorem O_judged (z : Z K mg) : ∃ fd, FunD K "judged" "judged" (defArgs (top 45)) (defBody (top 45)) (defScope (top 45)) [] [] (He.ga K "judged") fd ∧ FnOk P w K mg base (L2.CX P w) 10 (He.ga K "judged") fd ["book", "hand"] (spC K 2 [] false c_judged) := by
  obtain ⟨fd, F⟩ := z.c.def_ 52 (d := x_judged) rfl
  exact ⟨fd, F, f_judged (k := 8) z.fc ((T_k_check_hand z).mono (by decide)) ((T_k_bar_of z).mono (by decide)) ((T_k_Book_rules z).mono (by decide)) F⟩
theorem T_q_judged (z : Z K mg) : CalK P w K mg base 10 "judged" ["hand", "book"] [1, 0] false c_judged := by
  obtain ⟨fd, F, O⟩ := O_judged z
  exact ⟨_, fd, _, z.glo (z.c.fact 45 (f := fxFa (.glo "judged")) rfl), F.kp, O, kb0_of F ["hand", "book"] [1, 0] fun _ _ _ _ _ _ ws hl => match ws, hl with | [_, _], _ => rfl⟩
theorem T_k_judged (z : Z K mg) : Cal P w K mg base 10 "judged" 2 [] false [] c_judged := by
  obtain ⟨fd, F, O⟩ := O_judged z
  exact cal_of (z.glo (z.c.fact 45 (f := fxFa (.glo "judged")) rfl)) F.kp rfl O (FunD.bindsN F fun _ _ _ _ _ _ us hl => match us, hl with | [_, _], _ => rfl)
theorem O_greatest (z : Z K mg) : ∃ fd, FunD K "greatest" "greatest" (defArgs (top 46)) (defBody (top 46)) (defScope (top 46)) [] [] (He.ga K "greatest") fd ∧ FnOk P w K mg base (L2.CX P w) 11 (He.ga K "greatest") fd ["book"] (spC K 1 [] false c_greatest) := by
  obtain ⟨fd, F⟩ := z.c.def_ 53 (d := x_greatest) rfl
  exact ⟨fd, F, f_greatest (k := 9) z.fc ((T_k_greatest_of z).mono (by decide)) ((T_k_let_hands z).mono (by decide)) F⟩
theorem T_q_greatest (z : Z K mg) : CalK P w K mg base 11 "greatest" ["book"] [0] false c_greatest := by
  obtain ⟨fd, F, O⟩ := O_greatest z
  exact ⟨_, fd, _, z.glo (z.c.fact 46 (f := fxFa (.glo "greatest")) rfl), F.kp, O, kb0_of F ["book"] [0] fun _ _ _ _ _ _ ws hl => match ws, hl with | [_], _ => rfl⟩
theorem T_k_greatest (z : Z K mg) : Cal P w K mg base 11 "greatest" 1 [] false [] c_greatest := by
  obtain ⟨fd, F, O⟩ := O_greatest z
  exact cal_of (z.glo (z.c.fact 46 (f := fxFa (.glo "greatest")) rfl)) F.kp rfl O (FunD.bindsN F fun _ _ _ _ _ _ us hl => match us, hl with | [_], _ => rfl)
theorem O_bars (z : Z K mg) : ∃ fd, FunD K "bars" "bars" (defArgs (top 47)) (defBody (top 47)) (defScope (top 47)) [] [] (He.ga K "bars") fd ∧ FnOk P w K mg base (L2.CX P w) 11 (He.ga K "bars") fd ["book"] (spC K 1 [] false c_bars) := by
  obtain ⟨fd, F⟩ := z.c.def_ 54 (d := x_bars) rfl
  exact ⟨fd, F, f_bars (k := 9) z.fc ((T_k_bars_of z).mono (by decide)) ((T_k_let_hands z).mono (by decide)) F⟩
theorem T_q_bars (z : Z K mg) : CalK P w K mg base 11 "bars" ["book"] [0] false c_bars := by
  obtain ⟨fd, F, O⟩ := O_bars z
  exact ⟨_, fd, _, z.glo (z.c.fact 47 (f := fxFa (.glo "bars")) rfl), F.kp, O, kb0_of F ["book"] [0] fun _ _ _ _ _ _ ws hl => match ws, hl with | [_], _ => rfl⟩
theorem T_k_bars (z : Z K mg) : Cal P w K mg base 11 "bars" 1 [] false [] c_bars := by
  obtain ⟨fd, F, O⟩ := O_bars z
  exact cal_of (z.glo (z.c.fact 47 (f := fxFa (.glo "bars")) rfl)) F.kp rfl O (FunD.bindsN F fun _ _ _ _ _ _ us hl => match us, hl with | [_], _ => rfl)
theorem O_is_dealing (z : Z K mg) : ∃ fd, FunD K "is_dealing" "is_dealing" (defArgs (top 77)) (defBody (top 77)) (defScope (top 77)) [.int 8] [] (He.ga K "is_dealing") fd ∧ FnOk P w K mg base (L2.CX P w) 9 (He.ga K "is_dealing") fd ["book", "value", "most"] (spC K 3 [] false c_is_dealing) := by
  obtain ⟨fd, F⟩ := z.c.def_ 55 (d := x_is_dealing) rfl
  exact ⟨fd, F, f_is_dealing (k := 7) z.fc ((T_k_is_hand z).mono (by decide)) ((T_k_is_tuple z).mono (by decide)) F⟩
theorem T_k_is_dealing_2 (z : Z K mg) : Cal P w K mg base 9 "is_dealing" 2 [] false [(.int 8)] c_is_dealing := by
  obtain ⟨fd, F, O⟩ := O_is_dealing z
  exact cal_ofD (z.glo (z.c.fact 48 (f := fxFa (.glo "is_dealing")) rfl)) F.kp rfl O (FunD.binds1 F 2 0 (by simp) rfl fun T _ _ _ _ _ _ us its h1 h2 => match us, h1, its, h2 with | [_, _], _, [_], _ => ⟨_, rfl, rfl⟩) (fun _ => (.cons (.int _) .nil))
theorem O_check_dealing (z : Z K mg) : ∃ fd, FunD K "check_dealing" "check_dealing" (defArgs (top 78)) (defBody (top 78)) (defScope (top 78)) [] [] (He.ga K "check_dealing") fd ∧ FnOk P w K mg base (L2.CX P w) 10 (He.ga K "check_dealing") fd ["book", "dealing"] (spC K 2 [] false c_check_dealing) := by
  obtain ⟨fd, F⟩ := z.c.def_ 56 (d := x_check_dealing) rfl
  exact ⟨fd, F, f_check_dealing (k := 8) z.fc ((T_k_is_dealing_2 z).mono (by decide)) F⟩
theorem T_k_check_dealing (z : Z K mg) : Cal P w K mg base 10 "check_dealing" 2 [] false [] c_check_dealing := by
  obtain ⟨fd, F, O⟩ := O_check_dealing z
  exact cal_of (z.glo (z.c.fact 49 (f := fxFa (.glo "check_dealing")) rfl)) F.kp rfl O (FunD.bindsN F fun _ _ _ _ _ _ us hl => match us, hl with | [_, _], _ => rfl)
theorem O_mask_by (z : Z K mg) : ∃ fd, FunD K "mask_by" "mask_by" (defArgs (top 79)) (defBody (top 79)) (defScope (top 79)) [] [] (He.ga K "mask_by") fd ∧ FnOk P w K mg base (L2.CX P w) 2 (He.ga K "mask_by") fd ["rights", "mine"] (spC K 2 [] false c_mask_by) := by
  obtain ⟨fd, F⟩ := z.c.def_ 57 (d := x_mask_by) rfl
  exact ⟨fd, F, f_mask_by (k := 0) z.fc  F⟩
theorem T_k_mask_by (z : Z K mg) : Cal P w K mg base 2 "mask_by" 2 [] false [] c_mask_by := by
  obtain ⟨fd, F, O⟩ := O_mask_by z
  exact cal_of (z.glo (z.c.fact 50 (f := fxFa (.glo "mask_by")) rfl)) F.kp rfl O (FunD.bindsN F fun _ _ _ _ _ _ us hl => match us, hl with | [_, _], _ => rfl)
theorem O_mask_of (z : Z K mg) : ∃ fd, FunD K "mask_of" "mask_of" (defArgs (top 80)) (defBody (top 80)) (defScope (top 80)) [] [] (He.ga K "mask_of") fd ∧ FnOk P w K mg base (L2.CX P w) 8 (He.ga K "mask_of") fd ["book", "hand", "rights"] (spC K 3 [] false c_mask_of) := by
  obtain ⟨fd, F⟩ := z.c.def_ 58 (d := x_mask_of) rfl
  exact ⟨fd, F, f_mask_of (k := 6) z.fc ((T_k_mask_by z).mono (by decide)) ((T_k_gifts z).mono (by decide)) F⟩
theorem T_k_mask_of (z : Z K mg) : Cal P w K mg base 8 "mask_of" 3 [] false [] c_mask_of := by
  obtain ⟨fd, F, O⟩ := O_mask_of z
  exact cal_of (z.glo (z.c.fact 51 (f := fxFa (.glo "mask_of")) rfl)) F.kp rfl O (FunD.bindsN F fun _ _ _ _ _ _ us hl => match us, hl with | [_, _, _], _ => rfl)
theorem O_joined_mask (z : Z K mg) : ∃ fd, FunD K "joined_mask" "joined_mask" (defArgs (top 81)) (defBody (top 81)) (defScope (top 81)) [] [] (He.ga K "joined_mask") fd ∧ FnOk P w K mg base (L2.CX P w) 2 (He.ga K "joined_mask") fd ["masks"] (spC K 1 [] false c_joined_mask) := by
  obtain ⟨fd, F⟩ := z.c.def_ 59 (d := x_joined_mask) rfl
  exact ⟨fd, F, f_joined_mask (k := 0) z.fc  F⟩
theorem T_k_joined_mask (z : Z K mg) : Cal P w K mg base 2 "joined_mask" 1 [] false [] c_joined_mask := by
  obtain ⟨fd, F, O⟩ := O_joined_mask z
  exact cal_of (z.glo (z.c.fact 52 (f := fxFa (.glo "joined_mask")) rfl)) F.kp rfl O (FunD.bindsN F fun _ _ _ _ _ _ us hl => match us, hl with | [_], _ => rfl)
theorem O_whole_of (z : Z K mg) : ∃ fd, FunD K "whole_of" "whole_of" (defArgs (top 82)) (defBody (top 82)) (defScope (top 82)) [] [] (He.ga K "whole_of") fd ∧ FnOk P w K mg base (L2.CX P w) 2 (He.ga K "whole_of") fd ["rights"] (spC K 1 [] false c_whole_of) := by
  obtain ⟨fd, F⟩ := z.c.def_ 60 (d := x_whole_of) rfl
  exact ⟨fd, F, f_whole_of (k := 0) z.fc  F⟩
theorem T_k_whole_of (z : Z K mg) : Cal P w K mg base 2 "whole_of" 1 [] false [] c_whole_of := by
  obtain ⟨fd, F, O⟩ := O_whole_of z
  exact cal_of (z.glo (z.c.fact 53 (f := fxFa (.glo "whole_of")) rfl)) F.kp rfl O (FunD.bindsN F fun _ _ _ _ _ _ us hl => match us, hl with | [_], _ => rfl)
theorem O_fewest_of (z : Z K mg) : ∃ fd, FunD K "fewest_of" "fewest_of" (defArgs (top 83)) (defBody (top 83)) (defScope (top 83)) [] [] (He.ga K "fewest_of") fd ∧ FnOk P w K mg base (L2.CX P w) 3 (He.ga K "fewest_of") fd ["masks", "whole"] (spC K 2 [] false c_fewest_of) := by
  obtain ⟨fd, F⟩ := z.c.def_ 61 (d := x_fewest_of) rfl
  exact ⟨fd, F, f_fewest_of (k := 1) z.fc ((T_k_joined_mask z).mono (by decide)) F⟩
theorem T_k_fewest_of (z : Z K mg) : Cal P w K mg base 3 "fewest_of" 2 [] false [] c_fewest_of := by
  obtain ⟨fd, F, O⟩ := O_fewest_of z
  exact cal_of (z.glo (z.c.fact 54 (f := fxFa (.glo "fewest_of")) rfl)) F.kp rfl O (FunD.bindsN F fun _ _ _ _ _ _ us hl => match us, hl with | [_, _], _ => rfl)
theorem O_able_lots (z : Z K mg) : ∃ fd, FunD K "able_lots" "able_lots" (defArgs (top 84)) (defBody (top 84)) (defScope (top 84)) [] [] (He.ga K "able_lots") fd ∧ FnOk P w K mg base (L2.CX P w) 9 (He.ga K "able_lots") fd ["book", "dealing", "rights"] (spC K 3 [] false c_able_lots) := by
  obtain ⟨fd, F⟩ := z.c.def_ 62 (d := x_able_lots) rfl
  exact ⟨fd, F, f_able_lots (k := 7) z.fc ((T_k_mask_of z).mono (by decide)) ((T_k_whole_of z).mono (by decide)) ((T_k_lots_of z).mono (by decide)) ((T_k_joined_mask z).mono (by decide)) F⟩
theorem T_k_able_lots (z : Z K mg) : Cal P w K mg base 9 "able_lots" 3 [] false [] c_able_lots := by
  obtain ⟨fd, F, O⟩ := O_able_lots z
  exact cal_of (z.glo (z.c.fact 55 (f := fxFa (.glo "able_lots")) rfl)) F.kp rfl O (FunD.bindsN F fun _ _ _ _ _ _ us hl => match us, hl with | [_, _, _], _ => rfl)
theorem O_told_people (z : Z K mg) : ∃ fd, FunD K "told_people" "told_people" (defArgs (top 85)) (defBody (top 85)) (defScope (top 85)) [] [] (He.ga K "told_people") fd ∧ FnOk P w K mg base (L2.CX P w) 9 (He.ga K "told_people") fd ["book", "dealing", "duty"] (spC K 3 [] false c_told_people) := by
  obtain ⟨fd, F⟩ := z.c.def_ 63 (d := x_told_people) rfl
  exact ⟨fd, F, f_told_people (k := 7) z.fc ((T_k_Book_duties z).mono (by decide)) ((T_k_mask_of z).mono (by decide)) ((T_k_whole_of z).mono (by decide)) ((T_k_joined_mask z).mono (by decide)) ((T_k_fewest_of z).mono (by decide)) ((T_k_lots_of z).mono (by decide)) F⟩
theorem T_k_told_people (z : Z K mg) : Cal P w K mg base 9 "told_people" 3 [] false [] c_told_people := by
  obtain ⟨fd, F, O⟩ := O_told_people z
  exact cal_of (z.glo (z.c.fact 56 (f := fxFa (.glo "told_people")) rfl)) F.kp rfl O (FunD.bindsN F fun _ _ _ _ _ _ us hl => match us, hl with | [_, _, _], _ => rfl)
theorem O_people (z : Z K mg) : ∃ fd, FunD K "people" "people" (defArgs (top 86)) (defBody (top 86)) (defScope (top 86)) [] [] (He.ga K "people") fd ∧ FnOk P w K mg base (L2.CX P w) 11 (He.ga K "people") fd ["book", "dealing", "duty"] (spC K 3 [] false c_people) := by
  obtain ⟨fd, F⟩ := z.c.def_ 64 (d := x_people) rfl
  exact ⟨fd, F, f_people (k := 9) z.fc ((T_k_check_dealing z).mono (by decide)) ((T_k_check_duty z).mono (by decide)) ((T_k_told_people z).mono (by decide)) F⟩
theorem T_q_people (z : Z K mg) : CalK P w K mg base 11 "people" ["duty", "dealing", "book"] [2, 1, 0] false c_people := by
  obtain ⟨fd, F, O⟩ := O_people z
  exact ⟨_, fd, _, z.glo (z.c.fact 57 (f := fxFa (.glo "people")) rfl), F.kp, O, kb0_of F ["duty", "dealing", "book"] [2, 1, 0] fun _ _ _ _ _ _ ws hl => match ws, hl with | [_, _, _], _ => rfl⟩
theorem T_k_people (z : Z K mg) : Cal P w K mg base 11 "people" 3 [] false [] c_people := by
  obtain ⟨fd, F, O⟩ := O_people z
  exact cal_of (z.glo (z.c.fact 57 (f := fxFa (.glo "people")) rfl)) F.kp rfl O (FunD.bindsN F fun _ _ _ _ _ _ us hl => match us, hl with | [_, _, _], _ => rfl)
theorem O_keeps (z : Z K mg) : ∃ fd, FunD K "keeps" "keeps" (defArgs (top 87)) (defBody (top 87)) (defScope (top 87)) [] [] (He.ga K "keeps") fd ∧ FnOk P w K mg base (L2.CX P w) 10 (He.ga K "keeps") fd ["book", "dealing", "duty"] (spC K 3 [] false c_keeps) := by
  obtain ⟨fd, F⟩ := z.c.def_ 65 (d := x_keeps) rfl
  exact ⟨fd, F, f_keeps (k := 8) z.fc ((T_k_told_people z).mono (by decide)) ((T_k_Book_duties z).mono (by decide)) F⟩
theorem T_k_keeps (z : Z K mg) : Cal P w K mg base 10 "keeps" 3 [] false [] c_keeps := by
  obtain ⟨fd, F, O⟩ := O_keeps z
  exact cal_of (z.glo (z.c.fact 58 (f := fxFa (.glo "keeps")) rfl)) F.kp rfl O (FunD.bindsN F fun _ _ _ _ _ _ us hl => match us, hl with | [_, _, _], _ => rfl)
theorem O_broken_by (z : Z K mg) : ∃ fd, FunD K "broken_by" "broken_by" (defArgs (top 88)) (defBody (top 88)) (defScope (top 88)) [] [] (He.ga K "broken_by") fd ∧ FnOk P w K mg base (L2.CX P w) 11 (He.ga K "broken_by") fd ["book", "dealing"] (spC K 2 [] false c_broken_by) := by
  obtain ⟨fd, F⟩ := z.c.def_ 66 (d := x_broken_by) rfl
  exact ⟨fd, F, f_broken_by (k := 9) z.fc ((T_k_Book_duties z).mono (by decide)) ((T_k_keeps z).mono (by decide)) F⟩
theorem T_k_broken_by (z : Z K mg) : Cal P w K mg base 11 "broken_by" 2 [] false [] c_broken_by := by
  obtain ⟨fd, F, O⟩ := O_broken_by z
  exact cal_of (z.glo (z.c.fact 59 (f := fxFa (.glo "broken_by")) rfl)) F.kp rfl O (FunD.bindsN F fun _ _ _ _ _ _ us hl => match us, hl with | [_, _], _ => rfl)
theorem O_broken (z : Z K mg) : ∃ fd, FunD K "broken" "broken" (defArgs (top 89)) (defBody (top 89)) (defScope (top 89)) [] [] (He.ga K "broken") fd ∧ FnOk P w K mg base (L2.CX P w) 12 (He.ga K "broken") fd ["book", "dealing"] (spC K 2 [] false c_broken) := by
  obtain ⟨fd, F⟩ := z.c.def_ 67 (d := x_broken) rfl
  exact ⟨fd, F, f_broken (k := 10) z.fc ((T_k_check_dealing z).mono (by decide)) ((T_k_broken_by z).mono (by decide)) F⟩
theorem T_q_broken (z : Z K mg) : CalK P w K mg base 12 "broken" ["dealing", "book"] [1, 0] false c_broken := by
  obtain ⟨fd, F, O⟩ := O_broken z
  exact ⟨_, fd, _, z.glo (z.c.fact 60 (f := fxFa (.glo "broken")) rfl), F.kp, O, kb0_of F ["dealing", "book"] [1, 0] fun _ _ _ _ _ _ ws hl => match ws, hl with | [_, _], _ => rfl⟩
theorem T_k_broken (z : Z K mg) : Cal P w K mg base 12 "broken" 2 [] false [] c_broken := by
  obtain ⟨fd, F, O⟩ := O_broken z
  exact cal_of (z.glo (z.c.fact 60 (f := fxFa (.glo "broken")) rfl)) F.kp rfl O (FunD.bindsN F fun _ _ _ _ _ _ us hl => match us, hl with | [_, _], _ => rfl)
theorem O_barred (z : Z K mg) : ∃ fd, FunD K "barred" "barred" (defArgs (top 90)) (defBody (top 90)) (defScope (top 90)) [] [] (He.ga K "barred") fd ∧ FnOk P w K mg base (L2.CX P w) 11 (He.ga K "barred") fd ["book", "dealing"] (spC K 2 [] false c_barred) := by
  obtain ⟨fd, F⟩ := z.c.def_ 68 (d := x_barred) rfl
  exact ⟨fd, F, f_barred (k := 9) z.fc ((T_k_check_dealing z).mono (by decide)) ((T_k_Book_rules z).mono (by decide)) ((T_k_bar_of z).mono (by decide)) F⟩
theorem T_q_barred (z : Z K mg) : CalK P w K mg base 11 "barred" ["dealing", "book"] [1, 0] false c_barred := by
  obtain ⟨fd, F, O⟩ := O_barred z
  exact ⟨_, fd, _, z.glo (z.c.fact 61 (f := fxFa (.glo "barred")) rfl), F.kp, O, kb0_of F ["dealing", "book"] [1, 0] fun _ _ _ _ _ _ ws hl => match ws, hl with | [_, _], _ => rfl⟩
theorem T_k_barred (z : Z K mg) : Cal P w K mg base 11 "barred" 2 [] false [] c_barred := by
  obtain ⟨fd, F, O⟩ := O_barred z
  exact cal_of (z.glo (z.c.fact 61 (f := fxFa (.glo "barred")) rfl)) F.kp rfl O (FunD.bindsN F fun _ _ _ _ _ _ us hl => match us, hl with | [_, _], _ => rfl)
theorem O_bands (z : Z K mg) : ∃ fd, FunD K "bands" "bands" (defArgs (top 91)) (defBody (top 91)) (defScope (top 91)) [] [] (He.ga K "bands") fd ∧ FnOk P w K mg base (L2.CX P w) 11 (He.ga K "bands") fd ["book", "dealing", "duty"] (spC K 3 [] false c_bands) := by
  obtain ⟨fd, F⟩ := z.c.def_ 69 (d := x_bands) rfl
  exact ⟨fd, F, f_bands (k := 9) z.fc ((T_k_check_dealing z).mono (by decide)) ((T_k_check_duty z).mono (by decide)) ((T_k_least_of z).mono (by decide)) ((T_k_able_lots z).mono (by decide)) ((T_k_Book_duties z).mono (by decide)) F⟩
theorem T_k_bands (z : Z K mg) : Cal P w K mg base 11 "bands" 3 [] false [] c_bands := by
  obtain ⟨fd, F, O⟩ := O_bands z
  exact cal_of (z.glo (z.c.fact 62 (f := fxFa (.glo "bands")) rfl)) F.kp rfl O (FunD.bindsN F fun _ _ _ _ _ _ us hl => match us, hl with | [_, _, _], _ => rfl)
theorem T_q_bands (z : Z K mg) : CalK P w K mg base 11 "bands" ["duty", "dealing", "book"] [2, 1, 0] false c_bands := by
  obtain ⟨fd, F, O⟩ := O_bands z
  exact ⟨_, fd, _, z.glo (z.c.fact 62 (f := fxFa (.glo "bands")) rfl), F.kp, O, kb0_of F ["duty", "dealing", "book"] [2, 1, 0] fun _ _ _ _ _ _ ws hl => match ws, hl with | [_, _, _], _ => rfl⟩
theorem O_blocks (z : Z K mg) : ∃ fd, FunD K "blocks" "blocks" (defArgs (top 92)) (defBody (top 92)) (defScope (top 92)) [] [] (He.ga K "blocks") fd ∧ FnOk P w K mg base (L2.CX P w) 12 (He.ga K "blocks") fd ["book", "dealing", "duty"] (spC K 3 [] false c_blocks) := by
  obtain ⟨fd, F⟩ := z.c.def_ 70 (d := x_blocks) rfl
  exact ⟨fd, F, f_blocks (k := 10) z.fc ((T_k_bands z).mono (by decide)) ((T_k_lots_of z).mono (by decide)) ((T_k_least_of z).mono (by decide)) F⟩
theorem T_q_blocks (z : Z K mg) : CalK P w K mg base 12 "blocks" ["duty", "dealing", "book"] [2, 1, 0] false c_blocks := by
  obtain ⟨fd, F, O⟩ := O_blocks z
  exact ⟨_, fd, _, z.glo (z.c.fact 63 (f := fxFa (.glo "blocks")) rfl), F.kp, O, kb0_of F ["duty", "dealing", "book"] [2, 1, 0] fun _ _ _ _ _ _ ws hl => match ws, hl with | [_, _, _], _ => rfl⟩
theorem T_k_blocks (z : Z K mg) : Cal P w K mg base 12 "blocks" 3 [] false [] c_blocks := by
  obtain ⟨fd, F, O⟩ := O_blocks z
  exact cal_of (z.glo (z.c.fact 63 (f := fxFa (.glo "blocks")) rfl)) F.kp rfl O (FunD.bindsN F fun _ _ _ _ _ _ us hl => match us, hl with | [_, _, _], _ => rfl)
theorem O__law_pot (z : Z K mg) : ∃ fd, FunD K "_law_pot" "_law_pot" (defArgs (top 94)) (defBody (top 94)) (defScope (top 94)) [] [] (He.ga K "_law_pot") fd ∧ FnOk P w K mg base (L2.CX P w) 2 (He.ga K "_law_pot") fd ["_law_script", "_law_k"] (spC K 2 [] true c__law_pot) := by
  obtain ⟨fd, F⟩ := z.c.def_ 71 (d := x__law_pot) rfl
  exact ⟨fd, F, f__law_pot (k := 0) z.fc  F⟩
theorem T_k__law_pot (z : Z K mg) : Cal P w K mg base 2 "_law_pot" 2 [] true [] c__law_pot := by
  obtain ⟨fd, F, O⟩ := O__law_pot z
  exact cal_of (z.glo (z.c.fact 64 (f := fxFa (.glo "_law_pot")) rfl)) F.kp rfl O (FunD.bindsN F fun _ _ _ _ _ _ us hl => match us, hl with | [_, _], _ => rfl)
theorem O__law_take (z : Z K mg) : ∃ fd, FunD K "_law_take" "_law_take" (defArgs (top 95)) (defBody (top 95)) (defScope (top 95)) [] [] (He.ga K "_law_take") fd ∧ FnOk P w K mg base (L2.CX P w) 2 (He.ga K "_law_take") fd ["_law_pot_here", "_law_upto"] (spC K 2 [0] false c__law_take) := by
  obtain ⟨fd, F⟩ := z.c.def_ 72 (d := x__law_take) rfl
  exact ⟨fd, F, f__law_take (k := 0) z.fc  F⟩
theorem T_k__law_take (z : Z K mg) : Cal P w K mg base 2 "_law_take" 2 [0] false [] c__law_take := by
  obtain ⟨fd, F, O⟩ := O__law_take z
  exact cal_of (z.glo (z.c.fact 65 (f := fxFa (.glo "_law_take")) rfl)) F.kp rfl O (FunD.bindsN F fun _ _ _ _ _ _ us hl => match us, hl with | [_, _], _ => rfl)
theorem O__law_some (z : Z K mg) : ∃ fd, FunD K "_law_some" "_law_some" (defArgs (top 96)) (defBody (top 96)) (defScope (top 96)) [] [] (He.ga K "_law_some") fd ∧ FnOk P w K mg base (L2.CX P w) 3 (He.ga K "_law_some") fd ["_law_pot_here", "_law_pool", "_law_amount"] (spC K 3 [0] false c__law_some) := by
  obtain ⟨fd, F⟩ := z.c.def_ 73 (d := x__law_some) rfl
  exact ⟨fd, F, f__law_some (k := 1) z.fc ((T_k__law_take z).mono (by decide)) F⟩
theorem T_k__law_some (z : Z K mg) : Cal P w K mg base 3 "_law_some" 3 [0] false [] c__law_some := by
  obtain ⟨fd, F, O⟩ := O__law_some z
  exact cal_of (z.glo (z.c.fact 66 (f := fxFa (.glo "_law_some")) rfl)) F.kp rfl O (FunD.bindsN F fun _ _ _ _ _ _ us hl => match us, hl with | [_, _, _], _ => rfl)
theorem O__law_places (z : Z K mg) : ∃ fd, FunD K "_law_places" "_law_places" (defArgs (top 97)) (defBody (top 97)) (defScope (top 97)) [] [] (He.ga K "_law_places") fd ∧ FnOk P w K mg base (L2.CX P w) 2 (He.ga K "_law_places") fd ["_law_script", "_law_most"] (spC K 2 [] false c__law_places) := by
  obtain ⟨fd, F⟩ := z.c.def_ 74 (d := x__law_places) rfl
  exact ⟨fd, F, f__law_places (k := 0) z.fc  F⟩
theorem T_k__law_places (z : Z K mg) : Cal P w K mg base 2 "_law_places" 2 [] false [] c__law_places := by
  obtain ⟨fd, F, O⟩ := O__law_places z
  exact cal_of (z.glo (z.c.fact 67 (f := fxFa (.glo "_law_places")) rfl)) F.kp rfl O (FunD.bindsN F fun _ _ _ _ _ _ us hl => match us, hl with | [_, _], _ => rfl)
theorem O__law_right (z : Z K mg) : ∃ fd, FunD K "_law_right" "_law_right" (defArgs (top 98)) (defBody (top 98)) (defScope (top 98)) [] [] (He.ga K "_law_right") fd ∧ FnOk P w K mg base (L2.CX P w) 13 (He.ga K "_law_right") fd ["_law_pot_here"] (spC K 1 [0] false c__law_right) := by
  obtain ⟨fd, F⟩ := z.c.def_ 75 (d := x__law_right) rfl
  exact ⟨fd, F, f__law_right (k := 11) z.fc ((T_k__law_some z).mono (by decide)) ((T_q_Book z).mono (by decide)) ((T_c_Book_eq z).mono (by decide)) ((T_k_Book z).mono (by decide)) ((T_q_Book_gives z).mono (by decide)) ((T_k_Book_gives z).mono (by decide)) ((T_q_Book_below z).mono (by decide)) ((T_k_Book_below z).mono (by decide)) ((T_q_Book_with_rule z).mono (by decide)) ((T_k_Book_with_rule z).mono (by decide)) ((T_q_Book_without_rule z).mono (by decide)) ((T_q_Book_with_right z).mono (by decide)) ((T_k_Book_with_right z).mono (by decide)) ((T_q_Book_without_right z).mono (by decide)) ((T_k_Book_without_right z).mono (by decide)) ((T_q_hand_of z).mono (by decide)) ((T_k_hand_of z).mono (by decide)) ((T_q_rights_of z).mono (by decide)) ((T_k_rights_of z).mono (by decide)) ((T_q_judged z).mono (by decide)) ((T_k_judged z).mono (by decide)) ((T_q_bars z).mono (by decide)) ((T_k_bars z).mono (by decide)) ((T_q_greatest z).mono (by decide)) ((T_k_greatest z).mono (by decide)) ((T_q_people z).mono (by decide)) ((T_k_people z).mono (by decide)) ((T_q_bands z).mono (by decide)) ((T_k_bands z).mono (by decide)) ((T_q_blocks z).mono (by decide)) ((T_k_blocks z).mono (by decide)) ((T_q_broken z).mono (by decide)) ((T_k_broken z).mono (by decide)) ((T_q_barred z).mono (by decide)) ((T_k_barred z).mono (by decide)) F⟩
theorem T_k__law_right (z : Z K mg) : Cal P w K mg base 13 "_law_right" 1 [0] false [] c__law_right := by
  obtain ⟨fd, F, O⟩ := O__law_right z
  exact cal_of (z.glo (z.c.fact 68 (f := fxFa (.glo "_law_right")) rfl)) F.kp rfl O (FunD.bindsN F fun _ _ _ _ _ _ us hl => match us, hl with | [_], _ => rfl)
theorem O_law (z : Z K mg) : ∃ fd, FunD K "law" "law" (defArgs (top 99)) (defBody (top 99)) (defScope (top 99)) [] [] (He.ga K "law") fd ∧ FnOk P w K mg base (L2.CX P w) 14 (He.ga K "law") fd ["_law_script"] (spC K 1 [] false c_law) := by
  obtain ⟨fd, F⟩ := z.c.def_ 76 (d := x_law) rfl
  exact ⟨fd, F, f_law (k := 12) z.fc ((T_k__law_places z).mono (by decide)) ((T_k__law_right z).mono (by decide)) ((T_k__law_pot z).mono (by decide)) F⟩
theorem W_law {fd : FuncData} (z : Z K mg) (F : FunD K "law" "law" (defArgs (top 99)) (defBody (top 99)) (defScope (top 99)) [] [] (He.ga K "law") fd) : FnOk P w K mg base (L2.CX P w) 14 (He.ga K "law") fd ["_law_script"] (spC K 1 [] false c_law) := f_law (k := 12) z.fc ((T_k__law_places z).mono (by decide)) ((T_k__law_right z).mono (by decide)) ((T_k__law_pot z).mono (by decide)) F
end
end K16

namespace K16
open PySem PySem.Spec PyProof.Rows L2 Rf
def r_first : Rf.Env → Fl := (sUnp [1, 2, 3] (eCallR [.io 0, .ex (lift (fun env => mkL ((nd gLstD [(eC (.str "a")), (eC (.str "boss")), (eC (.str "clerk")), (eC (.str "role")), (eC (.str "duty")), (eC (.str "zzzzzzzz"))]) env))), .ex (lift (eC (.int 3)))] c__law_some))
def r_rest : Rf.Env → Fl := (seqB (sSet 4 (liftL (nd gLstD [(eC (.str "rights p q r")), (nd (g2 fAdd) [(nd (g2 fAdd) [(eC (.str "role ")), (eVar 1)]), (eC (.str " p"))]), (nd (g2 fAdd) [(nd (g2 fAdd) [(eC (.str "role ")), (eVar 2)]), (eC (.str " q r"))]), (nd (g2 fAdd) [(eC (.str "role ")), (eVar 3)])])))
  (seqB (sMut 4 (lift (fun env => mkL ((nd gLstD [(nd (g2 fAdd) [(nd (g2 fAdd) [(nd (g2 fAdd) [(eC (.str "above ")), (eVar 3)]), (eC (.str " "))]), (eVar 1)]), (eC (.str "duty 2 p q"))]) env))) fExt)
  (seqB (sSet 5 (lift (nd (gMkK "Book" 1 [0] c_Book___init__) [(fun env => keepI ((eBm isStr fJoin (eC (.str "\n")) (eVar 4)) env))])))
  (seqB (sPar [6, 7] [(lift (nd gTupD [(nd gTupD [(eVar 1)]), (nd gTupD [(eVar 2)]), (nd gTupD [])])), (lift (nd gTupD [(eVar 1), (eVar 2)]))])
  (seqB (sSet 8 (liftL (nd gLstD [(nd (g2 (fEqOwn "Book" c_Book___eq__)) [(eVar 5), (nd (gMkO "Book" 2 c_Book___init__) [(eBm isStr fJoin (eC (.str "\n")) (eVar 4))])]), (nd (g2 (fEq false)) [(eMethK "Book" "gives" 1 [0] c_Book_gives (eVar 5) [(eVar 2)]), (eMeth "Book" "gives" 2 [] c_Book_gives (eVar 5) [(eVar 2)])]), (nd (g2 (fEq false)) [(eMethK "Book" "below" 1 [0] c_Book_below (eVar 5) [(eVar 3)]), (eMeth "Book" "below" 2 [] c_Book_below (eVar 5) [(eVar 3)])])])))
  (seqB (sSet 9 (lift (eMethK "Book" "with_rule" 2 [1, 0] c_Book_with_rule (eVar 5) [(eVar 7), (eC (.int 2))])))
  (seqB (sMut 8 (fun env => ownI ((lift (nd (g2 (fEqOwn "Book" c_Book___eq__)) [(eVar 9), (eMeth "Book" "with_rule" 3 [] c_Book_with_rule (eVar 5) [(eC (.int 2)), (eVar 7)])])) env)) fApp)
  (seqB (sMut 8 (fun env => ownI ((lift (nd (g2 (fEqOwn "Book" c_Book___eq__)) [(eMethK "Book" "without_rule" 1 [0] c_Book_without_rule (eVar 9) [(eC (.int 0))]), (eVar 5)])) env)) fApp)
  (seqB (sMut 8 (fun env => ownI ((lift (nd (g2 (fEqOwn "Book" c_Book___eq__)) [(eMethK "Book" "with_right" 2 [1, 0] c_Book_with_right (eVar 5) [(eC (.str "q")), (eVar 1)]), (eMeth "Book" "with_right" 3 [] c_Book_with_right (eVar 5) [(eVar 1), (eC (.str "q"))])])) env)) fApp)
  (seqB (sMut 8 (fun env => ownI ((lift (nd (g2 (fEqOwn "Book" c_Book___eq__)) [(eMethK "Book" "without_right" 2 [1, 0] c_Book_without_right (eVar 5) [(eC (.str "q")), (eVar 2)]), (eMeth "Book" "without_right" 3 [] c_Book_without_right (eVar 5) [(eVar 2), (eC (.str "q"))])])) env)) fApp)
  (seqB (sMut 8 (fun env => ownI ((lift (nd (g2 (fEq false)) [(nd (gCallK 2 [1, 0] c_hand_of) [(nd gTupD [(eVar 3)]), (eVar 5)]), (nd (gCall 2 [] c_hand_of) [(eVar 5), (nd gTupD [(eVar 3)])])])) env)) fApp)
  (seqB (sMut 8 (fun env => ownI ((lift (nd (g2 (fEq false)) [(nd (gCallK 2 [1, 0] c_rights_of) [(eVar 7), (eVar 5)]), (nd (gCall 2 [] c_rights_of) [(eVar 5), (eVar 7)])])) env)) fApp)
  (seqB (sMut 8 (fun env => ownI ((lift (nd (g2 (fEq false)) [(nd (gCallK 2 [1, 0] c_judged) [(eVar 7), (eVar 9)]), (nd (gCall 2 [] c_judged) [(eVar 9), (eVar 7)])])) env)) fApp)
  (seqB (sMut 8 (fun env => ownI ((lift (vAnd (nd (g2 (fEq false)) [(nd (gCallK 1 [0] c_greatest) [(eVar 9)]), (nd (gCall 1 [] c_greatest) [(eVar 9)])]) (nd (g2 (fEq false)) [(nd (gCallK 1 [0] c_bars) [(eVar 9)]), (nd (gCall 1 [] c_bars) [(eVar 9)])]))) env)) fApp)
  (seqB (sMut 8 (fun env => ownI ((lift (nd (g2 (fEq false)) [(nd (gCallK 3 [2, 1, 0] c_people) [(eC (.int 0)), (eVar 6), (eVar 5)]), (nd (gCall 3 [] c_people) [(eVar 5), (eVar 6), (eC (.int 0))])])) env)) fApp)
  (seqB (sMut 8 (fun env => ownI ((lift (nd (g2 (fEq false)) [(nd (gCallK 3 [2, 1, 0] c_bands) [(eC (.int 0)), (eVar 6), (eVar 5)]), (nd (gCall 3 [] c_bands) [(eVar 5), (eVar 6), (eC (.int 0))])])) env)) fApp)
  (seqB (sMut 8 (fun env => ownI ((lift (nd (g2 (fEq false)) [(nd (gCallK 3 [2, 1, 0] c_blocks) [(eC (.int 0)), (eVar 6), (eVar 5)]), (nd (gCall 3 [] c_blocks) [(eVar 5), (eVar 6), (eC (.int 0))])])) env)) fApp)
  (seqB (sMut 8 (fun env => ownI ((lift (nd (g2 (fEq false)) [(nd (gCallK 2 [1, 0] c_broken) [(eVar 6), (eVar 5)]), (nd (gCall 2 [] c_broken) [(eVar 5), (eVar 6)])])) env)) fApp)
  (seqB (sMut 8 (fun env => ownI ((lift (nd (g2 (fEq false)) [(nd (gCallK 2 [1, 0] c_barred) [(eVar 6), (eVar 9)]), (nd (gCall 2 [] c_barred) [(eVar 9), (eVar 6)])])) env)) fApp)
  (sRet (lift (fun env => keepI ((nd (g1 fAll) [(eVar 8)]) env)))))))))))))))))))))))
theorem r_eq : b__law_right = seqB r_first r_rest := rfl
-- N 10
def isT : Fl → Bool
  | .rt (.bl true) _ => true
  | _ => false
def pool : List D := [.str "a", .str "boss", .str "clerk", .str "role", .str "duty", .str "zzzzzzzz"]
def good (pot x y z : D) : Bool := isT (r_rest [some pot, some x, some y, some z, none, none, none, none, none, none])
end K16

namespace K16
open PySem PySem.Spec PyProof.Rows L2 Rf
theorem take1 (a b n u : Int) (ha : 0 < a) (hu : 0 < u) (hu2 : u < 1073741824) :
    c__law_take [.lst [.int a, .int b, .int n], .int u] = .ok (.int (a % u)) [some (.lst [.int (a / u), .int b, .int n]), none] := by
  unfold c__law_take b__law_take
  simp [seqB, sIf, sSet, sSetIx, sRet, lift, liftB, liftL, O.at, O.bind, nd, seqF, g1, g2, eVar, eC, fGt, fGe, fLt, fI, fIx, atI, fMod, fDiv, fMulI, fPow, fInt, fAbs, fAdd, fLenX, fLen, keepI, noX, asB, imm, immL, ixN, sNil, vIf, mkL, gLstD, runB, env0, outs, cDiv, cPow, List.replicate, List.range, List.range.loop, *]
theorem mul_ok {i j : Int} (h1 : 0 ≤ i) (h2 : i < 2 ^ 200) (h3 : 0 ≤ j) (h4 : j < 2 ^ 200) : fMulI (.int i) (.int j) = .ok (.int (i * j)) := by
  have e : cMul i j = true := by
    have k1 : i.natAbs < 2 ^ 200 := by omega
    have k2 : j.natAbs < 2 ^ 200 := by omega
    have k3 : (2 : Nat) ^ 200 ≤ 2 ^ 4000 := Nat.pow_le_pow_right (by decide) (by decide)
    simp only [cMul, Bool.and_eq_true, decide_eq_true_eq]
    exact ⟨Nat.lt_of_lt_of_le k1 k3, Nat.lt_of_lt_of_le k2 k3⟩
  simp [fMulI, fI, e]
theorem pow_ok {i : Int} (h1 : 0 ≤ i) (h2 : i < 2 ^ 200) : fPow (.int i) (.int 3) = .ok (.int (i ^ 3)) := by
  have e : cPow i 3 = true := by
    have k1 : i.natAbs < 2 ^ 200 := by omega
    have k3 : (2 : Nat) ^ 200 ≤ 2 ^ 1000 := Nat.pow_le_pow_right (by decide) (by decide)
    simp only [cPow, Bool.and_eq_true, decide_eq_true_eq]
    exact ⟨⟨by decide, by decide⟩, Nat.lt_of_lt_of_le k1 k3⟩
  simp [fPow, fI, e]
theorem ix0 (x y z : D) : fIx (.lst [x, y, z]) (.int 0) = .ok x := rfl
theorem ix1 (x y z : D) : fIx (.lst [x, y, z]) (.int 1) = .ok y := rfl
theorem ix2 (x y z : D) : fIx (.lst [x, y, z]) (.int 2) = .ok z := rfl
theorem sz (n : Nat) (h : Nat.ble n 1000 = true) : n ≤ sizeLine := Nat.le_trans (Nat.le_of_ble_eq_true h) (by decide)
theorem sz5 : 5 ≤ sizeLine := by decide
theorem sz3 : 3 ≤ sizeLine := by decide
def primes : List Int := [2147483647, 2147483629, 2147483587, 2147483579, 2147483563]
theorem take2 (a b n u : Int) (ha : ¬ 0 < a) (hb : 0 ≤ b) (hb2 : b < 2 ^ 70) (hn : 0 ≤ n) (hn2 : n < 1000) (hu : 0 < u) (hu2 : u < 1073741824) :
    ∃ d, c__law_take [.lst [.int a, .int b, .int n], .int u] = .ok (.int (d % u)) [some (.lst [.int a, .int b, .int (n + 1)]), none] := by
  have hp : ∃ p : Int, fIx (.lst [.int 2147483647, .int 2147483629, .int 2147483587, .int 2147483579, .int 2147483563]) (.int ((n + 1) % 5)) = .ok (.int p) ∧ 0 < p ∧ p < 2147483648 := by
    have h5 : (n + 1) % 5 = 0 ∨ (n + 1) % 5 = 1 ∨ (n + 1) % 5 = 2 ∨ (n + 1) % 5 = 3 ∨ (n + 1) % 5 = 4 := by omega
    rcases h5 with h | h | h | h | h <;> rw [h]
    · exact ⟨2147483647, rfl, by decide, by decide⟩
    · exact ⟨2147483629, rfl, by decide, by decide⟩
    · exact ⟨2147483587, rfl, by decide, by decide⟩
    · exact ⟨2147483579, rfl, by decide, by decide⟩
    · exact ⟨2147483563, rfl, by decide, by decide⟩
  obtain ⟨p, e0, p1, p2⟩ := hp
  have e1 : fMulI (.int 92099) (.int (n + 1)) = .ok (.int (92099 * (n + 1))) := mul_ok (by decide) (by decide) (by omega) (by omega)
  have e2 : fMulI (.int (92099 * (n + 1))) (.int (n + 1)) = .ok (.int (92099 * (n + 1) * (n + 1))) := mul_ok (by omega) (by omega) (by omega) (by omega)
  have q1 : 0 ≤ 92099 * (n + 1) * (n + 1) := Int.mul_nonneg (by omega) (by omega)
  have q2 : 92099 * (n + 1) * (n + 1) ≤ 92099 * (n + 1) * 1000 := Int.mul_le_mul_of_nonneg_left (by omega) (by omega)
  obtain ⟨y, hy⟩ : ∃ y, b + 92099 * (n + 1) * (n + 1) + 35 = y := ⟨_, rfl⟩
  have e3 : fPow (.int y) (.int 3) = .ok (.int (y ^ 3)) := pow_ok (by omega) (by omega)
  obtain ⟨x, hx⟩ : ∃ x, y ^ 3 % p = x := ⟨_, rfl⟩
  have x1 : 0 ≤ x := by rw [← hx]; exact Int.emod_nonneg _ (by omega)
  have x2 : x < p := by rw [← hx]; exact Int.emod_lt_of_pos _ p1
  have e4 : fMulI (.int 97) (.int (n + 1)) = .ok (.int (97 * (n + 1))) := mul_ok (by decide) (by decide) (by omega) (by omega)
  have e5 : fMulI (.int x) (.int (x % 10007 + 97 * (n + 1))) = .ok (.int (x * (x % 10007 + 97 * (n + 1)))) := mul_ok (by omega) (by omega) (by omega) (by omega)
  refine ⟨x * (x % 10007 + 97 * (n + 1)) / 127, ?_⟩
  unfold c__law_take b__law_take
  simp [ix0, ix1, ix2, sz5, sz3, seqB, sIf, sSet, sSetIx, sRet, lift, liftB, liftL, O.at, O.bind, nd, seqF, g1, g2, eVar, eC, fGt, fGe, fLt, fI, fMod, fDiv, fInt, fAbs, fAdd, fLenX, fLen, keepI, noX, asB, imm, immL, ixN, sNil, vIf, mkL, gLstD, runB, env0, outs, cDiv, List.replicate, List.range, List.range.loop, *]


theorem mulW {i j : Int} (h1 : 0 ≤ i) (h2 : i < 2 ^ 1000) (h3 : 0 ≤ j) (h4 : j < 2) : fMulI (.int i) (.int j) = .ok (.int (i * j)) := by
  have e : cMul i j = true := by
    have k1 : i.natAbs < 2 ^ 1000 := by omega
    have k2 : j.natAbs < 2 ^ 1 := by omega
    have k3 : (2 : Nat) ^ 1000 ≤ 2 ^ 4000 := Nat.pow_le_pow_right (by decide) (by decide)
    have k4 : (2 : Nat) ^ 1 ≤ 2 ^ 4000 := Nat.pow_le_pow_right (by decide) (by decide)
    simp only [cMul, Bool.and_eq_true, decide_eq_true_eq]
    exact ⟨Nat.lt_of_lt_of_le k1 k3, Nat.lt_of_lt_of_le k2 k4⟩
  simp [fMulI, fI, e]
theorem ixs {ns : List Int} {k : Int} (h0 : 0 ≤ k) (h : k < ns.length) : ∃ c : Int, fIx (.scr ns) (.int k) = .ok (.int c) := by
  have hl : k.toNat < ns.length := by omega
  refine ⟨ns[k.toNat], ?_⟩
  simp [fIx, atI, ixN, h0, h, List.getElem?_eq_getElem hl]
theorem pot_ok (ns : List Int) (k : Int) (h0 : 0 ≤ k) (h1 : k < 3) :
    ∃ a b : Int, c__law_pot [.scr ns, .int k] = .ok (.lst [.int a, .int b, .int 0]) [none, none] ∧ 0 ≤ a ∧ 0 ≤ b ∧ b < 2 ^ 70 := by
  obtain ⟨q, e1, r, e2, r1, r2⟩ : ∃ q, fPow (.int 10) (.int 60) = .ok (.int q) ∧ ∃ r : Int, fPow (.int q) (.int 5) = .ok (.int r) ∧ 0 < r ∧ r < 2 ^ 1000 := ⟨10 ^ 60, by kernel_rfl, 10 ^ 300, by kernel_rfl, by decide +kernel, by decide +kernel⟩
  obtain ⟨t, e3⟩ : ∃ t, fPow (.int 10) (.int 18) = .ok (.int t) := ⟨10 ^ 18, by kernel_rfl⟩
  have e4 : fMulI (.int 33) (.int k) = .ok (.int (33 * k)) := mul_ok (by decide) (by decide) (by omega) (by omega)
  have e7 : fMulI (.int 9001) (.int k) = .ok (.int (9001 * k)) := mul_ok (by decide) (by decide) (by omega) (by omega)
  have e8 : fMulI (.int (9001 * k)) (.int k) = .ok (.int (9001 * k * k)) := mul_ok (by omega) (by omega) (by omega) (by omega)
  have main : ∀ cell : Int, ∃ a b : Int, seqB (sSet 3 (lift (nd (g2 fMulI) [(nd (g2 fMod) [(nd (g1 fInt) [(nd (g1 fAbs) [(eVar 2)])]), (nd (g2 fPow) [(nd (g2 fPow) [(eC (.int 10)), (eC (.int 60))]), (eC (.int 5))])]), (nd (g1 fInt) [(nd (g2 fGe) [(nd (g1 fAbs) [(eVar 2)]), (nd (g2 fPow) [(eC (.int 10)), (eC (.int 18))])])])])))
      (seqB (sSet 4 (lift (nd (g2 fMod) [(nd (g1 fInt) [(eVar 2)]), (eC (.int 2305843009213693951))])))
      (sRet (liftL (nd gLstD [(eVar 3), (nd (g2 fMod) [(nd (g1 fInt) [(nd (g2 fAdd) [(nd (g2 fAdd) [(nd (g2 fMulI) [(eVar 4), (eC (.int 78349))]), (nd (g2 fMulI) [(nd (g2 fMulI) [(eC (.int 9001)), (eVar 1)]), (eVar 1)])]), (eC (.int 223))])]), (eC (.int 2305843009213693921))]), (eC (.int 0))])))) [some (.scr ns), some (.int k), some (.int cell), none, none]
      = .rt (.lst [.int a, .int b, .int 0]) [some (.scr ns), some (.int k), some (.int cell), some (.int a), some (.int (cell % 2305843009213693951))] ∧ 0 ≤ a ∧ 0 ≤ b ∧ b < 2 ^ 70 := by
    intro cell
    obtain ⟨u, hu⟩ : ∃ u : Int, (if cell < 0 then -cell else cell) = u := ⟨_, rfl⟩
    have hu0 : 0 ≤ u := by rw [← hu]; split <;> omega
    have m1 : 0 ≤ u % r := Int.emod_nonneg _ (by omega)
    have m2 : u % r < r := Int.emod_lt_of_pos _ r1
    obtain ⟨j, hj⟩ : ∃ j : Int, (if t ≤ u then 1 else 0) = j := ⟨_, rfl⟩
    have j0 : 0 ≤ j ∧ j < 2 := by rw [← hj]; split <;> omega
    have e5 : fMulI (.int (u % r)) (.int j) = .ok (.int (u % r * j)) := mulW m1 (by omega) j0.1 j0.2
    obtain ⟨z, hz⟩ : ∃ z : Int, cell % 2305843009213693951 = z := ⟨_, rfl⟩
    have z1 : 0 ≤ z := by omega
    have z2 : z < 2305843009213693951 := by omega
    have e6 : fMulI (.int z) (.int 78349) = .ok (.int (z * 78349)) := mul_ok z1 (by omega) (by decide) (by decide)
    refine ⟨u % r * j, (z * 78349 + 9001 * k * k + 223) % 2305843009213693921, ?_, Int.mul_nonneg m1 j0.1, by omega, by omega⟩
    simp [ix0, ix1, ix2, sz5, sz3, seqB, sIf, sSet, sSetIx, sRet, lift, liftB, liftL, O.at, O.bind, nd, seqF, g1, g2, eVar, eC, fGt, fGe, fLt, fI, fMod, fDiv, fInt, fAbs, fAdd, fLenX, fLen, keepI, noX, asB, imm, immL, ixN, sNil, vIf, mkL, gLstD, runB, env0, outs, cDiv, List.replicate, List.range, List.range.loop, *]
  obtain ⟨cell, hc⟩ : ∃ cell : Int, vIf (fun env => asB ((nd (g2 fLt) [(eVar 1), (nd (g1 fLenX) [(eVar 0)])]) env)) (nd (g2 fIx) [(eVar 0), (eVar 1)]) (nd (g2 fAdd) [(nd (g2 fMulI) [(eC (.int 33)), (eVar 1)]), (eC (.int 19))]) [some (.scr ns), some (.int k), none, none, none] = .ok (.int cell) := by
    by_cases h : k < ns.length
    · obtain ⟨c, hc⟩ := ixs h0 h
      refine ⟨c, ?_⟩
      simp [ix0, ix1, ix2, sz5, sz3, seqB, sIf, sSet, sSetIx, sRet, lift, liftB, liftL, O.at, O.bind, nd, seqF, g1, g2, eVar, eC, fGt, fGe, fLt, fI, fMod, fDiv, fInt, fAbs, fAdd, fLenX, fLen, keepI, noX, asB, imm, immL, ixN, sNil, vIf, mkL, gLstD, runB, env0, outs, cDiv, List.replicate, List.range, List.range.loop, *]
    · refine ⟨33 * k + 19, ?_⟩
      simp [ix0, ix1, ix2, sz5, sz3, seqB, sIf, sSet, sSetIx, sRet, lift, liftB, liftL, O.at, O.bind, nd, seqF, g1, g2, eVar, eC, fGt, fGe, fLt, fI, fMod, fDiv, fInt, fAbs, fAdd, fLenX, fLen, keepI, noX, asB, imm, immL, ixN, sNil, vIf, mkL, gLstD, runB, env0, outs, cDiv, List.replicate, List.range, List.range.loop, *]
  obtain ⟨a, b, h, h2⟩ := main cell
  refine ⟨a, b, ?_, h2⟩
  unfold c__law_pot b__law_pot runB
  have s1 : ∀ B : Rf.Env → Fl, seqB (sSet 2 (lift (vIf (fun env => asB ((nd (g2 fLt) [(eVar 1), (nd (g1 fLenX) [(eVar 0)])]) env)) (nd (g2 fIx) [(eVar 0), (eVar 1)]) (nd (g2 fAdd) [(nd (g2 fMulI) [(eC (.int 33)), (eVar 1)]), (eC (.int 19))])))) B (env0 5 [.scr ns, .int k]) = B [some (.scr ns), some (.int k), some (.int cell), none, none] := by
    intro B
    have : env0 5 [.scr ns, .int k] = [some (.scr ns), some (.int k), none, none, none] := rfl
    rw [this]
    simp [seqB, sSet, lift, hc, O.at]
  rw [s1, h]
  rfl
end K16

namespace K16
open PySem PySem.Spec PyProof.Rows L2 Rf
structure PotOk (a b n : Int) (m : Int) : Prop where
  a0 : 0 ≤ a
  b0 : 0 ≤ b
  b1 : b < 2 ^ 70
  n0 : 0 ≤ n
  n1 : n ≤ m
def potD (a b n : Int) : D := .lst [.int a, .int b, .int n]
theorem take_ok {a b n u m : Int} (h : PotOk a b n m) (hm : m < 1000) (hu : 0 < u) (hu2 : u < 1073741824) :
    ∃ d a' n' : Int, c__law_take [potD a b n, .int u] = .ok (.int d) [some (potD a' b n'), none] ∧ 0 ≤ d ∧ d < u ∧ PotOk a' b n' (m + 1) := by
  by_cases ha : 0 < a
  · exact ⟨a % u, a / u, n, take1 a b n u ha hu hu2, Int.emod_nonneg _ (by omega), Int.emod_lt_of_pos _ hu, ⟨Int.ediv_nonneg h.a0 (by omega), h.b0, h.b1, h.n0, by have := h.n1; omega⟩⟩
  · obtain ⟨d, e⟩ := take2 a b n u ha h.b0 h.b1 h.n0 (by have := h.n1; omega) hu hu2
    exact ⟨d % u, a, n + 1, e, Int.emod_nonneg _ (by omega), Int.emod_lt_of_pos _ hu, ⟨h.a0, h.b0, h.b1, by have := h.n0; omega, by have := h.n1; omega⟩⟩
abbrev someB : Rf.Env → Fl := sMut 4 (fun env => ownI ((ePopAt 3 (eCallR [.io 0, .ex (lift (fun env => keepI ((nd (g1 fLenX) [(eVar 3)]) env)))] c__law_take)) env)) fApp
theorem some_step {a b n m : Int} (h : PotOk a b n m) (hm : m < 900) (x1 x2 x5 : Option D) (left found : List D) (hl : 0 < left.length) (hl2 : left.length < 1000) (hi : immL left = true) (hf : found.length < 1000) :
    ∃ (i : Nat) (d : D) (a' n' : Int), left[i]? = some d ∧ someB [some (potD a b n), x1, x2, some (.lst left), some (.lst found), x5] = .nx [some (potD a' b n'), x1, x2, some (.lst (left.eraseIdx i)), some (.lst (found ++ [d])), x5] ∧ PotOk a' b n' (m + 1) := by
  obtain ⟨d, a', n', e, d0, d1, p⟩ := take_ok (u := left.length) h (by omega) (by omega) (by omega)
  have hi2 : d.toNat < left.length := by omega
  obtain ⟨x, hx⟩ : ∃ x, left[d.toNat]? = some x := ⟨_, List.getElem?_eq_getElem hi2⟩
  have ix : imm x = true := immL_get hi hx
  have s1 : left.length ≤ sizeLine := Nat.le_trans (Nat.le_of_lt hl2) (by decide)
  have s2 : found.length < sizeLine := Nat.lt_of_lt_of_le hf (by decide)
  have d1' : d < (left.length : Int) := d1
  refine ⟨d.toNat, x, a', n', hx, ?_, p⟩
  have hc : eCallR [.io 0, .ex (lift (fun env => keepI ((nd (g1 fLenX) [(eVar 3)]) env)))] c__law_take [some (potD a b n), x1, x2, some (.lst left), some (.lst found), x5] = .ok (.int d) [some (potD a' b n'), x1, x2, some (.lst left), some (.lst found), x5] := by
    simp [eCallR, argsR, R.bind, lift, keepI, nd, seqF, O.bind, O.at, g1, fLenX, fLen, eVar, imm, argD, e, updO]
  have hp : ePopAt 3 (eCallR [.io 0, .ex (lift (fun env => keepI ((nd (g1 fLenX) [(eVar 3)]) env)))] c__law_take) [some (potD a b n), x1, x2, some (.lst left), some (.lst found), x5] = .ok x [some (potD a' b n'), x1, x2, some (.lst (left.eraseIdx d.toNat)), some (.lst found), x5] := by
    unfold ePopAt
    rw [hc]
    have hx2 : left[d.toNat] = x := (List.getElem?_eq_some_iff.mp hx).2
    simp [isL, ixN, d0, d1', hx2, ix, s1, hi2]
  show sMut _ _ _ _ = _
  unfold sMut
  dsimp only
  rw [hp]
  simp [isL, ownI, ix, fApp, s2]
theorem some_ok {a b : Int} (h : PotOk a b 0 0) :
    ∃ (i j k : Nat) (x y z : D) (a' n' : Int), pool[i]? = some x ∧ (pool.eraseIdx i)[j]? = some y ∧ ((pool.eraseIdx i).eraseIdx j)[k]? = some z ∧ c__law_some [potD a b 0, .lst pool, .int 3] = .ok (.lst [x, y, z]) [some (potD a' b n'), none, none] := by
  obtain ⟨i, x, a1, n1, hx, e1, p1⟩ := some_step h (by decide) (some (.lst pool)) (some (.int 3)) (some (.int 0)) pool [] (by decide) (by decide) (by decide) (by decide)
  have l0 : pool.length = 6 := rfl
  have i6 : i < 6 := by
    have := (List.getElem?_eq_some_iff.mp hx).1
    omega
  have l1 : (pool.eraseIdx i).length = 5 := by rw [List.length_eraseIdx, l0, if_pos i6]
  obtain ⟨j, y, a2, n2, hy, e2, p2⟩ := some_step p1 (by decide) (some (.lst pool)) (some (.int 3)) (some (.int 1)) (pool.eraseIdx i) [x] (by omega) (by omega) (by
    have : ∀ i, i < 6 → immL (pool.eraseIdx i) = true := by decide
    exact this i i6) (by simp)
  have j5 : j < 5 := by
    have := (List.getElem?_eq_some_iff.mp hy).1
    omega
  have l2 : ((pool.eraseIdx i).eraseIdx j).length = 4 := by rw [List.length_eraseIdx, l1, if_pos j5]
  obtain ⟨k, z, a3, n3, hz, e3, p3⟩ := some_step p2 (by decide) (some (.lst pool)) (some (.int 3)) (some (.int 2)) ((pool.eraseIdx i).eraseIdx j) [x, y] (by omega) (by omega) (by
    have : ∀ i, i < 6 → ∀ j, j < 5 → immL ((pool.eraseIdx i).eraseIdx j) = true := by decide
    exact this i i6 j j5) (by simp)
  refine ⟨i, j, k, x, y, z, a3, n3, hx, hy, hz, ?_⟩
  have hp : immL pool = true := by decide
  have f : sFor (fun env => ((fun env => itR1 ((eVar 2) env)) env).at env) (gN 5) someB [some (potD a b 0), some (.lst pool), some (.int 3), some (.lst pool), some (.lst []), none]
      = .nx [some (potD a3 b n3), some (.lst pool), some (.int 3), some (.lst (((pool.eraseIdx i).eraseIdx j).eraseIdx k)), some (.lst [x, y, z]), some (.int 2)] := by
    have hr : itR1 (eVar 2 [some (potD a b 0), some (.lst pool), some (.int 3), some (.lst pool), some (.lst []), none]) = .ok [.int 0, .int 1, .int 2] := rfl
    simp only [sFor, hr, O.at, forL, gN, List.set]
    rw [e1]
    simp only [List.set, List.nil_append]
    rw [e2]
    simp only [List.set, List.cons_append, List.nil_append]
    rw [e3]
    rfl
  have s : sPar [3, 4] [(liftL (nd (g1 fListL) [(eVar 1)])), (liftL (nd gLstD []))] (env0 6 [potD a b 0, .lst pool, .int 3]) = .nx [some (potD a b 0), some (.lst pool), some (.int 3), some (.lst pool), some (.lst []), none] := by
    simp [sPar, seqR, liftL, nd, seqF, O.bind, g1, fListL, eVar, env0, hp, R.bind, gLstD, immL, setE, List.replicate]
  unfold c__law_some b__law_some runB seqB
  rw [s]
  simp only []
  rw [f]
  rfl
end K16

namespace K16
open PySem PySem.Spec PyProof.Rows L2 Rf
def trip (i j k : Nat) : Option (D × D × D) := match pool[i]? with
  | none => none
  | some x => match (pool.eraseIdx i)[j]? with
    | none => none
    | some y => match ((pool.eraseIdx i).eraseIdx j)[k]? with
      | none => none
      | some z => some (x, y, z)
def chk (pot : D) (i j k : Nat) : Bool := match trip i j k with
  | some (x, y, z) => good pot x y z
  | none => false
def chk4 (pot : D) (i j : Nat) : Bool := chk pot i j 0 && (chk pot i j 1 && (chk pot i j 2 && chk pot i j 3))
theorem chk_0_0 (pot : D) : chk4 pot 0 0 = true := by kernel_rfl
theorem chk_0_1 (pot : D) : chk4 pot 0 1 = true := by kernel_rfl
theorem chk_0_2 (pot : D) : chk4 pot 0 2 = true := by kernel_rfl
theorem chk_0_3 (pot : D) : chk4 pot 0 3 = true := by kernel_rfl
theorem chk_0_4 (pot : D) : chk4 pot 0 4 = true := by kernel_rfl
theorem chk_1_0 (pot : D) : chk4 pot 1 0 = true := by kernel_rfl
theorem chk_1_1 (pot : D) : chk4 pot 1 1 = true := by kernel_rfl
theorem chk_1_2 (pot : D) : chk4 pot 1 2 = true := by kernel_rfl
theorem chk_1_3 (pot : D) : chk4 pot 1 3 = true := by kernel_rfl
theorem chk_1_4 (pot : D) : chk4 pot 1 4 = true := by kernel_rfl
theorem chk_2_0 (pot : D) : chk4 pot 2 0 = true := by kernel_rfl
theorem chk_2_1 (pot : D) : chk4 pot 2 1 = true := by kernel_rfl
theorem chk_2_2 (pot : D) : chk4 pot 2 2 = true := by kernel_rfl
theorem chk_2_3 (pot : D) : chk4 pot 2 3 = true := by kernel_rfl
theorem chk_2_4 (pot : D) : chk4 pot 2 4 = true := by kernel_rfl
theorem chk_3_0 (pot : D) : chk4 pot 3 0 = true := by kernel_rfl
theorem chk_3_1 (pot : D) : chk4 pot 3 1 = true := by kernel_rfl
theorem chk_3_2 (pot : D) : chk4 pot 3 2 = true := by kernel_rfl
theorem chk_3_3 (pot : D) : chk4 pot 3 3 = true := by kernel_rfl
theorem chk_3_4 (pot : D) : chk4 pot 3 4 = true := by kernel_rfl
theorem chk_4_0 (pot : D) : chk4 pot 4 0 = true := by kernel_rfl
theorem chk_4_1 (pot : D) : chk4 pot 4 1 = true := by kernel_rfl
theorem chk_4_2 (pot : D) : chk4 pot 4 2 = true := by kernel_rfl
theorem chk_4_3 (pot : D) : chk4 pot 4 3 = true := by kernel_rfl
theorem chk_4_4 (pot : D) : chk4 pot 4 4 = true := by kernel_rfl
theorem chk_5_0 (pot : D) : chk4 pot 5 0 = true := by kernel_rfl
theorem chk_5_1 (pot : D) : chk4 pot 5 1 = true := by kernel_rfl
theorem chk_5_2 (pot : D) : chk4 pot 5 2 = true := by kernel_rfl
theorem chk_5_3 (pot : D) : chk4 pot 5 3 = true := by kernel_rfl
theorem chk_5_4 (pot : D) : chk4 pot 5 4 = true := by kernel_rfl
theorem chk4_all (pot : D) : ∀ i j, i < 6 → j < 5 → chk4 pot i j = true
  | 0, 0, _, _ => chk_0_0 pot
  | 0, 1, _, _ => chk_0_1 pot
  | 0, 2, _, _ => chk_0_2 pot
  | 0, 3, _, _ => chk_0_3 pot
  | 0, 4, _, _ => chk_0_4 pot
  | 1, 0, _, _ => chk_1_0 pot
  | 1, 1, _, _ => chk_1_1 pot
  | 1, 2, _, _ => chk_1_2 pot
  | 1, 3, _, _ => chk_1_3 pot
  | 1, 4, _, _ => chk_1_4 pot
  | 2, 0, _, _ => chk_2_0 pot
  | 2, 1, _, _ => chk_2_1 pot
  | 2, 2, _, _ => chk_2_2 pot
  | 2, 3, _, _ => chk_2_3 pot
  | 2, 4, _, _ => chk_2_4 pot
  | 3, 0, _, _ => chk_3_0 pot
  | 3, 1, _, _ => chk_3_1 pot
  | 3, 2, _, _ => chk_3_2 pot
  | 3, 3, _, _ => chk_3_3 pot
  | 3, 4, _, _ => chk_3_4 pot
  | 4, 0, _, _ => chk_4_0 pot
  | 4, 1, _, _ => chk_4_1 pot
  | 4, 2, _, _ => chk_4_2 pot
  | 4, 3, _, _ => chk_4_3 pot
  | 4, 4, _, _ => chk_4_4 pot
  | 5, 0, _, _ => chk_5_0 pot
  | 5, 1, _, _ => chk_5_1 pot
  | 5, 2, _, _ => chk_5_2 pot
  | 5, 3, _, _ => chk_5_3 pot
  | 5, 4, _, _ => chk_5_4 pot
  | _ + 6, _, h, _ => absurd h (by omega)
  | 0, _ + 5, _, h => absurd h (by omega)
  | 1, _ + 5, _, h => absurd h (by omega)
  | 2, _ + 5, _, h => absurd h (by omega)
  | 3, _ + 5, _, h => absurd h (by omega)
  | 4, _ + 5, _, h => absurd h (by omega)
  | 5, _ + 5, _, h => absurd h (by omega)
theorem good_all {pot x y z : D} {i j k : Nat} (hx : pool[i]? = some x) (hy : (pool.eraseIdx i)[j]? = some y) (hz : ((pool.eraseIdx i).eraseIdx j)[k]? = some z) : good pot x y z = true := by
  have l0 : pool.length = 6 := rfl
  have i6 : i < 6 := by
    have := (List.getElem?_eq_some_iff.mp hx).1
    omega
  have l1 : (pool.eraseIdx i).length = 5 := by rw [List.length_eraseIdx, l0, if_pos i6]
  have j5 : j < 5 := by
    have := (List.getElem?_eq_some_iff.mp hy).1
    omega
  have l2 : ((pool.eraseIdx i).eraseIdx j).length = 4 := by rw [List.length_eraseIdx, l1, if_pos j5]
  have k4 : k < 4 := by
    have := (List.getElem?_eq_some_iff.mp hz).1
    omega
  have h := chk4_all pot i j i6 j5
  simp only [chk4, Bool.and_eq_true] at h
  have hc : chk pot i j k = true := by
    have : k = 0 ∨ k = 1 ∨ k = 2 ∨ k = 3 := by omega
    rcases this with rfl | rfl | rfl | rfl
    · exact h.1
    · exact h.2.1
    · exact h.2.2.1
    · exact h.2.2.2
  simpa [chk, trip, hx, hy, hz] using hc
theorem isT_ok {f : Fl} (h : isT f = true) : ∃ e, f = .rt (.bl true) e := by
  unfold isT at h
  split at h
  · exact ⟨_, rfl⟩
  · cases h
theorem right_ok {a b : Int} (h : PotOk a b 0 0) : ∃ o, c__law_right [potD a b 0] = .ok (.bl true) o := by
  obtain ⟨i, j, k, x, y, z, a', n', hx, hy, hz, e⟩ := some_ok h
  have g := good_all (pot := potD a' b n') hx hy hz
  obtain ⟨e1, h1⟩ := isT_ok g
  have f : r_first (env0 10 [potD a b 0]) = .nx [some (potD a' b n'), some x, some y, some z, none, none, none, none, none, none] := by
    have s6 : 6 ≤ sizeLine := by decide
    have e' : c__law_some [potD a b 0, .lst [.str "a", .str "boss", .str "clerk", .str "role", .str "duty", .str "zzzzzzzz"], .int 3] = .ok (.lst [x, y, z]) [some (potD a' b n'), none, none] := e
    simp [r_first, sUnp, eCallR, argsR, R.bind, lift, mkL, nd, seqF, O.bind, O.at, eC, gLstD, s6, env0, argD, e', updO, setE, List.replicate]
  refine ⟨outs [0] 1 e1, ?_⟩
  unfold c__law_right runB
  rw [r_eq]
  show (match seqB r_first r_rest (env0 10 [potD a b 0]) with
    | .nx e => C.ok .non (outs [0] 1 e)
    | .rt d e => .ok d (outs [0] 1 e)
    | .exc c d e => .exc c d (outs [0] 1 e)
    | .bad => .bad) = _
  unfold seqB
  rw [f]
  simp only []
  rw [h1]
theorem place_ok (ns : List Int) (k : Int) (h0 : 0 ≤ k) (h1 : k < 3) : eCallT c__law_right (nd (gCall 2 [] c__law_pot) [(eVar 0), (eVar 1)]) [some (.scr ns), some (.int k)] = .ok (.bl true) := by
  obtain ⟨a, b, e, a0, b0, b1⟩ := pot_ok ns k h0 h1
  obtain ⟨o, e2⟩ := right_ok ⟨a0, b0, b1, by decide, by decide⟩
  have e3 : c__law_pot [.scr ns, .int k] = .ok (potD a b 0) [none, none] := e
  simp [eCallT, nd, seqF, O.bind, eVar, gCall, e3, ofC, e2]
theorem places_ok (ns : List Int) : ∃ m : Nat, (m = 1 ∨ m = 2 ∨ m = 3) ∧ c__law_places [.scr ns, .int 3] = .ok (.lst (rangeD 0 m)) [none, none] := by
  refine ⟨(if (if (ns.length : Int) < 3 then (ns.length : Int) else 3) > 1 then (if (ns.length : Int) < 3 then (ns.length : Int) else 3) else 1).toNat, ?_, ?_⟩
  · split <;> split <;> omega
  · obtain ⟨q, hq⟩ : ∃ q : Int, (if (if (ns.length : Int) < 3 then (ns.length : Int) else 3) > 1 then (if (ns.length : Int) < 3 then (ns.length : Int) else 3) else 1) = q := ⟨_, rfl⟩
    rw [hq]
    have q1 : 1 ≤ q ∧ q ≤ 3 := by
      rw [← hq]
      split <;> split <;> omega
    have rg : RgOk 0 q := by
      have : q = 1 ∨ q = 2 ∨ q = 3 := by omega
      rcases this with rfl | rfl | rfl <;> decide
    have hq2 : (if 1 < (if (ns.length : Int) < 3 then (ns.length : Int) else 3) then (if (ns.length : Int) < 3 then (ns.length : Int) else 3) else 1) = q := hq
    rw [show c__law_places [.scr ns, .int 3] = c0__law_places [.scr ns, .int 3] from (p__law_places.eq _ rfl).symm]
    simp [c0__law_places, runB, b__law_places, sRet, lift, mkL, rgD, nd, seqF, O.bind, O.at, g1, g2, eC, eVar, fMax2, fMin2, fI, fLenX, fLen, env0, outs, hq2, rg, List.range, List.range.loop]
theorem law_ok (ns : List Int) : ∃ o, c_law [.scr ns] = .ok (.bl true) o := by
  obtain ⟨m, hm, hp⟩ := places_ok ns
  refine ⟨outs [] 1 [some (.scr ns), none], ?_⟩
  have p0 := place_ok ns 0 (by decide) (by decide)
  have p1 := place_ok ns 1 (by decide) (by decide)
  have p2 := place_ok ns 2 (by decide) (by decide)
  have s3 : 3 ≤ sizeLine := by decide
  have s2 : 2 ≤ sizeLine := by decide
  have s1 : 1 ≤ sizeLine := by decide
  rw [show c_law [.scr ns] = c0_law [.scr ns] from (p_law.eq _ rfl).symm]
  rcases hm with rfl | rfl | rfl
  · have hr : rangeD 0 1 = [.int 0] := rfl
    rw [hr] at hp
    simp [c0_law, runB, b_law, sRet, lift, mkL, nd, seqF, O.bind, O.at, g1, g2, eC, eVar, gCall, hp, ofC, itA, eComp, s1, compF, gN, Tst.f, noX, wipeE, env0, p0, fAll, bls, List.replicate]
  · have hr : rangeD 0 2 = [.int 0, .int 1] := rfl
    rw [hr] at hp
    simp [c0_law, runB, b_law, sRet, lift, mkL, nd, seqF, O.bind, O.at, g1, g2, eC, eVar, gCall, hp, ofC, itA, eComp, s2, compF, gN, Tst.f, noX, wipeE, env0, p0, p1, fAll, bls, List.replicate]
  · have hr : rangeD 0 3 = [.int 0, .int 1, .int 2] := rfl
    rw [hr] at hp
    simp [c0_law, runB, b_law, sRet, lift, mkL, nd, seqF, O.bind, O.at, g1, g2, eC, eVar, gCall, hp, ofC, itA, eComp, s3, compF, gN, Tst.f, noX, wipeE, env0, p0, p1, p2, fAll, bls, List.replicate]
end K16

namespace Rh
open PySem PySem.Spec PyProof.Rows L2
/-- the law's walk; what a call lets out may hang on the world -/
theorem walk_w {l : PySem.W.OpenLaw} {m lv : Nat} {q : Program} {lo : List Str} {XP : (Str → Option Value) → Heap → Prop} {YP : World → Heap → Prop} {df : DefRec} {C : World → CXT} {p : Str}
    (h1 : l.most = some m) (h2 : m ≤ sizeLine) (h3 : df.params.defaults = []) (room : Room lv callerA)
    (G : ∀ (w : World) (mg : Str → Option Value) (f : Addr) (h : Heap), YP w h → h.Ns mainGlobals mg → mg df.name = some (.ref f) →
      ∃ (K : PySem.W.Frag) (fd : FuncData) (sp : Sp), K.In h ∧ (∀ (s : Shared) (u : Value), BindsTo s fd ⟨[u], []⟩ [(p, u)]) ∧
        (∀ (H : Hp) (a : Addr) (ns : List Int), ns.length ≤ m → SqL K H a (ns.map V.int) → sp [.ref a] H (fun v _ => v = .bl true) fun _ _ _ => False) ∧
        ∀ B : Heap, K.In B → B.Ns mainGlobals mg → FnOk l.prog w K mg B (C w) lv f fd [p] sp)
    (no : ∀ (w : World) (H : Hp) (s : Shared) (e : Value) (s' : Shared), C w [] H s (fun _ _ _ => False) e s' → False) :
    PySem.W.WalkO q lo XP YP l.row.toRowW df [] (fun f vs => PySem.call f vs) := by
  refine Att.attach_call h1 h3 fun w t₀ t₁ mg mb f o pm cd doc a vs ns T Y ho hd hcd hm hob hin hle hg => ?_
  obtain ⟨K, fd, sp, KX, hb, hs, hF⟩ := G w mg f _ Y T.T.g hm
  exact law_call KX T.T.g T.T.b T.T.builtins T.T.nolimit hg hob hin (Nat.le_trans hle h2) room hF hb (fun H _ hS => hs H a ns hle hS) fun H e s' => no w H t₁ e s'
end Rh
namespace K16
open PySem PySem.Spec PyProof.Rows L2 Rf Rh
theorem facts {P : Program} {w : World} {K : PySem.W.Frag} {h : Heap} {mg : Str → Option Value} {f : Addr} (X : K.In h) (G : h.Ns mainGlobals mg) (hfa : mg ("law" : Str) = some (.ref f)) (c : SaysX fx fn K) :
    ∃ fd : FuncData, (∀ (s : Shared) (v : Value), BindsTo s fd ⟨[v], []⟩ [("_law_script", v)]) ∧ ∀ base : Heap, K.In base → base.Ns mainGlobals mg → FnOk P w K mg base (L2.CX P w) 14 f fd ["_law_script"] (spC K 1 [] false c_law) := by
  have z : Z K mg := ⟨c, h, X, G⟩
  obtain ⟨fd, F⟩ := c.def_ 76 (d := x_law) rfl
  have e := hfa.symm.trans (z.glo (c.fact 69 (f := fxFa (.glo "law")) rfl))
  cases e
  have b := FunD.bindsA (ps := ["_law_script"]) F fun _ _ _ _ _ _ us hl => match us, hl with | [_], _ => rfl
  exact ⟨fd, fun s v => b s [v] rfl, fun base _ _ => W_law z F⟩
theorem asked {K : PySem.W.Frag} {H : Hp} {a : Addr} {ns : List Int} (hS : SqL K H a (ns.map V.int)) : spC K 1 [] false c_law [.ref a] H (fun v _ => v = .bl true) fun _ _ _ => False := by
  obtain ⟨o, e⟩ := law_ok ns
  refine ⟨rfl, [.scr ns], fun _ => False, fun _ _ => False, rfl, rel_pure (fun a h => h.elim) (.cons (.scr (ex_l (fun b o h => ?_) hS)) .nil), ?_⟩
  · show Rf.vis H (fun _ => False) b = some o
    unfold Rf.vis
    rw [if_neg (fun z => z)]
    exact h
  · rw [e]
    intro v H' S' po res
    unfold Res at res
    cases res
    rfl
end K16
open PySem PySem.W PySem.Calls PyProof.Rows
theorem PySem.Challenge.cw_partedroles_k16_arguments_by_their_names_holds : PySem.Challenge.rw_partedroles_k16_arguments_by_their_names.Holds := by
  w_on; o_law
  refine HandSHeadRun.head_any (r := OpenLaw.row PySem.Challenge.rw_partedroles_k16_arguments_by_their_names) (q := view (OpenLaw.row PySem.Challenge.rw_partedroles_k16_arguments_by_their_names).prog [99]) (H := K16.hk) (ob := K16.ob) (M := 20000) (loose := K16.loose) (d := HandSHeadRun.topDef (OpenLaw.row PySem.Challenge.rw_partedroles_k16_arguments_by_their_names).prog 99) (kwd := []) K16.ob_eq
    (by kernel_rfl) (fun s => by kernel_rfl) K16.run (by kernel_rfl) (by kernel_rfl) (by kernel_rfl) (by rfl) (by first | assumption | decide +kernel) (by decide +kernel) ⟨rfl, rfl, rfl, rfl, rfl, by decide +kernel⟩ ?hw ?hc
  case hw => w_witness2
  case hc =>
    refine Rh.walk_w (l := PySem.Challenge.rw_partedroles_k16_arguments_by_their_names) (m := 63) (lv := 14) (p := "_law_script") (C := fun w => L2.CX (PySem.Challenge.rw_partedroles_k16_arguments_by_their_names).prog w) rfl (by decide) (by kernel_rfl) ⟨rfl, by decide, by decide⟩ ?F (fun w H s e s' z => by
      obtain ⟨_, _, _, _, _, _, _, _, _, _, _, _, z⟩ := z
      exact z)
    intro w mg fa h Y G hmg0
    obtain ⟨K, KX, c⟩ := Y
    have hmg : mg ("law" : PySem.Str) = some (.ref fa) := by
      have e : (HandSHeadRun.topDef (OpenLaw.row PySem.Challenge.rw_partedroles_k16_arguments_by_their_names).prog 99).name = ("law" : PySem.Str) := by kernel_rfl
      rw [← e]
      exact hmg0
    obtain ⟨fd, hb, hF⟩ := K16.facts (P := (PySem.Challenge.rw_partedroles_k16_arguments_by_their_names).prog) (w := w) KX G hmg c
    exact ⟨K, fd, Rf.spC K 1 [] false K16.c_law, KX, hb, fun H a ns hl hS => K16.asked hS, hF⟩

