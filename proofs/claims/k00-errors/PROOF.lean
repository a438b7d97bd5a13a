import PyProof.Rows.All
import Wide.All
import OpenK.AllK
import Wide.FinOn
import HandS.Property
import HandS.IsInst
import HandS.Words
import HandS.Head0
import HandS.Head1
import HandS.Head2
import HandS.HeadEnd
import HandS.HeadHook1
import HandS.HeadHook2
import HandS.ForMost
import HandS.ForExc
import HandS.HeadHook4
import HandS.Lambda
import HandS.EndTab
import HandS.ExcInit
import HandS.Slots
import HandS.Wide
import HandS.TupAny
import HandS.TupMul
import HandS.Deep
import HandS.Conv
import HandS.CallSlots
import HandS.Walk
import HandS.Strs
import HandS.Codes
import KE.SortData
import HandS.SortOrd
import HandS.WordsDict
import HandS.Zip
import KE.GoesEnum
import HandS.Style
import HandS.NoneIn
import KE.KAssignIn
import HandS.Star
import OpenK.KMeth
import HandS.MakeKwOnly
import KE.KDictList
import HandS.DictEq
import PyProof.DictUpdate
import HandS.TupSets
import KE.GoesNew
import PyProof.ReprRoads
import KE.KSuper
import KE.KExcSuper
import HandS.TryOnly
import HandS.Ends
import HandS.ExcIs
import HandS.ExcField
import KE.KExcIs
import HandS.Small
import KE.KeyNested
import HandS.ListItems
import KE.KDictDisplayH
import HandS.TupLe
import PyProof.SeqIndex
import KE.KIndexOf
import HandS.SetFor
import PyProof.Rows.SortShellAny
import PyProof.SliceStr2
import KE.KRevSl
import PyProof.CallFns
import KE.DataCmp
import PySem.Challenge.RW_partedroles_k00_errors_and_what_they_kee
set_option Elab.async false
set_option linter.all false
set_option maxRecDepth 100000
set_option maxHeartbeats 0
theorem xa0 {α : Type _} {a : α} {l : List α} : (a :: l)[0]? = some a := rfl
theorem xa1 {α : Type _} {a : α} {l : List α} {i : Nat} : (a :: l)[i + 1]? = l[i]? := rfl
theorem xa2 {α : Type _} {a : α} {l : List α} : (a :: l).length = l.length + 1 := rfl
theorem xa3 {α : Type _} : ([] : List α).length = 0 := rfl
theorem xa4 {α : Type _} {a v : α} {l : List α} : (a :: l).set 0 v = v :: l := rfl
theorem xa5 {α : Type _} {a v : α} {l : List α} {i : Nat} : (a :: l).set (i + 1) v = a :: l.set i v := rfl
namespace Rh
open PySem PySem.Spec PyProof.Rows L2
inductive At where
  | glo (x : Str)
  | meth (c m : Str)
  | prop (c m : Str)
def pAd (K : PySem.W.Frag) (c m : Str) : Addr := match PySem.W.recIn K (He.ma K (He.ga K c) m) "property" with
  | some (.ref g :: _) => g
  | _ => 0
def At.ad (K : PySem.W.Frag) : At → Addr
  | .glo x => He.ga K x
  | .meth c m => He.ma K (He.ga K c) m
  | .prop c m => pAd K c m
structure DX where
  at_ : At
  name : Str
  qual : Str
  params : Arguments
  body : List Stmt
  scope : Scope
  dfl : List He.Dv := []
def DX.val (d : DX) : He.FnW := some (d.name, d.qual, d.params, .stmts d.body, d.scope, mainGlobals, [], builtinsNs)
def DX.dvs (K : PySem.W.Frag) (d : DX) : List V := d.dfl.map (He.Dv.v K)
def fnX (K : PySem.W.Frag) (p : At) : He.FnW := match K.lookup (p.ad K) with
  | some ⟨_, _, .func fd, _⟩ => some (fd.name, fd.qualname, fd.params, fd.body, fd.scope, fd.globals, fd.closure, fd.builtins)
  | _ => none
def DX.ok (K : PySem.W.Frag) (d : DX) : Bool := PySem.W.keepIn K (.ref (d.at_.ad K)) && (match K.lookup (d.at_.ad K) with
  | some ⟨_, _, .func fd, _⟩ => PySem.W.codeIn K fd.code d.qual && (He.dflB K fd.defaults (d.dvs K) && He.kwdB K fd.kwdefaults [])
  | _ => false)
theorem DX.funD {K : PySem.W.Frag} {d : DX} (e : fnX K d.at_ = d.val) (c : d.ok K = true) : ∃ fd, FunD K d.name d.qual d.params d.body d.scope (d.dvs K) [] (d.at_.ad K) fd := by
  obtain ⟨kp, c2⟩ := He.ba c
  unfold fnX at e
  cases q : K.lookup (d.at_.ad K) with
  | none =>
    rw [q] at c2
    cases c2
  | some o =>
    obtain ⟨oc, od, dt, osl⟩ := o
    rw [q] at c2 e
    cases dt with
    | func fd =>
      obtain ⟨n1, n2, n3, n4, n5, n6, n7, n8, n9, n10, n11, n12, n13, n14, n15⟩ := fd
      have e2 : (some (n1, n2, n3, n4, n5, n6, n7, n15) : He.FnW) = some (d.name, d.qual, d.params, .stmts d.body, d.scope, mainGlobals, [], builtinsNs) := e
      simp only [Option.some.injEq, Prod.mk.injEq] at e2
      obtain ⟨h1, h2, h3, h4, h5, h6, h7, h8⟩ := e2
      subst h1 h2 h3 h4 h5 h6 h7 h8
      have c3 : (PySem.W.codeIn K n13 d.qual && (He.dflB K n8 (d.dvs K) && He.kwdB K n9 [])) = true := c2
      obtain ⟨k1, k2⟩ := He.ba c3
      obtain ⟨k3, k4⟩ := He.ba k2
      exact ⟨_, ⟨oc, od, n8, n9, n10, n11, n12, n13, n14, osl, rfl, q, k1, He.dflB_ok k3, He.kwdB_ok k4⟩, kp⟩
    | _ => cases c2
abbrev Fx := PySem.W.Frag → Bool
def obsX (fx : List Fx) (fn : List DX) (K : PySem.W.Frag) : He.AlD := ((fx.all fun f => f K) && fn.all fun d => d.ok K, fn.map fun d => fnX K d.at_)
def valX (fn : List DX) : He.AlD := (true, fn.map DX.val)
def SaysX (fx : List Fx) (fn : List DX) (K : PySem.W.Frag) : Prop := obsX fx fn K = valX fn
def nextX (g : Addr → Option Obj) (l : List Addr) : List Addr := l.flatMap fun a => match g a with
  | some o => He.refsD o
  | none => []
def onX (g : Addr → Option Obj) (f : List Addr) : Nat → List Addr → List Addr
  | 0, _ => []
  | n + 1, l => let m := (nextX g l).filter fun a => !f.contains a
    m ++ onX g f n m
def asX (g : Addr → Option Obj) (n : Nat) : List Addr := let f := nextX g [mainGlobals]
  mainGlobals :: (f ++ onX g f n f)
section
variable {fx : List Fx} {fn : List DX} {K : PySem.W.Frag}
theorem SaysX.fact (c : SaysX fx fn K) (i : Nat) {f : Fx} (h : fx[i]? = some f := by rfl) : f K = true := by
  have c1 := (He.ba (show ((fx.all fun f => f K) && fn.all fun d => d.ok K) = true from congrArg (fun z : He.AlD => z.1) c)).1
  exact List.all_eq_true.mp c1 f (List.mem_of_getElem? h)
theorem SaysX.def_ (c : SaysX fx fn K) (i : Nat) {d : DX} (h : fn[i]? = some d := by rfl) : ∃ fd, FunD K d.name d.qual d.params d.body d.scope (d.dvs K) [] (d.at_.ad K) fd := by
  have c1 := (He.ba (show ((fx.all fun f => f K) && fn.all fun d => d.ok K) = true from congrArg (fun z : He.AlD => z.1) c)).2
  have c2 : fn.map (fun d => fnX K d.at_) = fn.map DX.val := congrArg (fun z : He.AlD => z.2) c
  have c3 : (fn.map (fun d => fnX K d.at_))[i]? = (fn.map DX.val)[i]? := by rw [c2]
  rw [List.getElem?_map, List.getElem?_map, h] at c3
  exact DX.funD (Option.some.inj c3) (List.all_eq_true.mp c1 d (List.mem_of_getElem? h))
end
def fxFa (f : He.Fa) : Fx := fun K => f.ok K
end Rh
namespace Rf
open PySem PySem.Spec PyProof.Rows L2
def nbeq : List Nat → List Nat → Bool
  | [], [] => true
  | a :: as, b :: bs => match Nat.beq a b with
    | true => nbeq as bs
    | false => false
  | _, _ => false
theorem nbeq_ok : ∀ a b : List Nat, nbeq a b = true ↔ a = b
  | [], [] => by simp [nbeq]
  | [], _ :: _ => by simp [nbeq]
  | _ :: _, [] => by simp [nbeq]
  | a :: as, b :: bs => by
    unfold nbeq
    cases h : Nat.beq a b with
    | true =>
      have e : a = b := Nat.eq_of_beq_eq_true h
      simp [nbeq_ok as bs, e]
    | false =>
      have e : a ≠ b := Nat.ne_of_beq_eq_false h
      simp [e]
theorem nbeq_str (x y : Str) : nbeq x.cps.toList y.cps.toList = true ↔ x = y := by
  rw [nbeq_ok]
  refine ⟨fun h => ?_, fun h => by rw [h]⟩
  obtain ⟨a⟩ := x
  obtain ⟨b⟩ := y
  exact congrArg Str.mk (Array.toList_inj.mp h)
@[reducible] def quickStr : DecidableEq Str := fun x y => decidable_of_iff _ (nbeq_str x y)
class Qk (κ : Type) where
  dec : DecidableEq κ
instance : Qk Str := ⟨quickStr⟩
instance : Qk Key := ⟨@instDecidableEqSum Int Str _ quickStr⟩
theorem beq_nbeq (x y : Str) : (x == y) = nbeq x.cps.toList y.cps.toList := by
  by_cases h : x = y
  · rw [(nbeq_str x y).mpr h]
    simp [h]
  · cases hq : nbeq x.cps.toList y.cps.toList with
    | true => exact absurd ((nbeq_str x y).mp hq) h
    | false => simp [h]
def catS (x y : Str) : Str := ⟨⟨x.cps.toList ++ y.cps.toList⟩⟩
theorem catS_eq (x y : Str) : catS x y = x ++ y := by
  obtain ⟨a⟩ := x
  obtain ⟨b⟩ := y
  show Str.mk _ = Str.mk (a ++ b)
  congr 1
  apply Array.toList_inj.mp
  simp
def okL : List Nat → Bool
  | [] => true
  | c :: r => match Nat.blt c 0x110000 with
    | true => okL r
    | false => false
theorem okL_eq (x : Str) : okL x.cps.toList = PyData.strOk x := by
  unfold PyData.strOk
  rw [← Array.all_toList]
  have key : ∀ l : List Nat, okL l = l.all (fun c => decide (c < 0x110000)) := by
    intro l
    induction l with
    | nil => rfl
    | cons c r ih =>
      unfold okL
      rw [List.all_cons, ← ih]
      cases h : Nat.blt c 0x110000 with
      | true =>
        have : c < 0x110000 := Nat.le_of_ble_eq_true h
        simp [this]
      | false =>
        have : ¬ c < 0x110000 := fun z => by
          have := Nat.ble_eq_true_of_le z
          rw [show Nat.ble (c + 1) 0x110000 = Nat.blt c 0x110000 from rfl, h] at this
          cases this
        simp [this]
  exact key _
structure LamD where
  q : Str
  params : Arguments
  body : Expr
  scope : Scope
inductive D where
  | non
  | bl (b : Bool)
  | int (i : Int)
  | str (x : Str)
  | tup (xs : List D)
  | lst (xs : List D)
  | dic (kvs : List (Key × D))
  | ins (c : Str) (fs : List (Str × D))
  | exc (c : Str) (d : D)
  | scr (ns : List Int)
  | fls (xs : List D)
  | dtt (kvs : List (List Key × D))
  | fdc
  | clo (n : Nat) (l : LamD) (κ : List (Str × Addr))
  | clv (n : Nat) (l : LamD) (ds : List D)
  | slt (c : Str) (ds : List D)
mutual
def imm : D → Bool
  | .non => true
  | .bl _ => true
  | .int _ => true
  | .str _ => true
  | .tup xs => immL xs
  | .lst _ => false
  | .dic _ => false
  | .ins _ _ => false
  | .exc _ d => imm d
  | .scr _ => false
  | .fls xs => immL xs
  | .dtt _ => false
  | .fdc => true
  | .clo _ _ _ => true
  | .clv _ _ ds => immL ds
  | .slt _ ds => immL ds
def immL : List D → Bool
  | [] => true
  | x :: xs => imm x && immL xs
end
def strL : List D → Bool
  | [] => true
  | .str _ :: r => strL r
  | _ => false
def txtL : List D → Bool
  | .str x :: r => !(nbeq x.cps.toList [114, 105, 103, 104, 116, 115]) && strL r
  | _ => false
structure SqQ (K : PySem.W.Frag) (H : Hp) (a : Addr) (vs : List V) (ds : List D) : Prop where
  t : SqT K H a vs
  x : txtL ds = true → H a = some (.tup vs)
theorem SqQ.of {K : PySem.W.Frag} {H : Hp} {a : Addr} {vs : List V} {ds : List D} (h : H a = some (.tup vs)) : SqQ K H a vs ds := ⟨SqT.of h, fun _ => h⟩
instance {K : PySem.W.Frag} {H : Hp} {a : Addr} {vs : List V} {ds : List D} : CoeOut (SqQ K H a vs ds) (SqT K H a vs) := ⟨SqQ.t⟩
def ExV (cls : Value) (d : Option Addr) (a : Addr) : HO := .ext fun h => ∃ (oe : Obj) (vs : Array Value), h.get? a = some oe ∧ Zc cls d oe ∧ oe.data = .fields vs
def LamO (l : LamD) (κ : List (Str × Addr)) (c a : Addr) : HO := .ext fun h => ∃ pm ctv, h.get? a = some (PySem.W.kla_obj "<lambda>" l.q l.params l.body l.scope (L2.cloFrom κ l.scope.names []) pm c ctv)
def CelO (v : V) (c : Addr) : HO := .ext fun h => ∃ u, RelV v u ∧ h.IsCell c (some u)
inductive CelL (H : Hp) : List (Str × Addr) → List V → Prop
  | nil : CelL H [] []
  | cons {x : Str} {c : Addr} {v : V} {κ : List (Str × Addr)} {vs : List V} : H c = some (CelO v c) → CelL H κ vs → CelL H ((x, c) :: κ) (v :: vs)
structure FdE (od : Obj) (a : Addr) : Prop where
  cls : od.cls = .type "dict"
  data : ∃ n, od.data = .dict #[] n
  sys : (a == sysModules) = false
mutual
inductive Rp (K : PySem.W.Frag) (H : Hp) : V → D → Prop
  | non : Rp K H .non .non
  | bl (b : Bool) : Rp K H (.bl b) (.bl b)
  | int (i : Int) : Rp K H (.int i) (.int i)
  | str (x : Str) : Rp K H (.str x) (.str x)
  | tup {a : Addr} {vs : List V} {ds : List D} : SqQ K H a vs ds → RpL K H vs ds → Rp K H (.ref a) (.tup ds)
  | lst {a : Addr} {vs : List V} {ds : List D} : H a = some (.lst vs) → RpL K H vs ds → Rp K H (.ref a) (.lst ds)
  | scr {a : Addr} {ns : List Int} : SqL K H a (ns.map V.int) → Rp K H (.ref a) (.scr ns)
  | fls {a : Addr} {od : Obj} {vs : List V} {ds : List D} : H a = some (.frz od (.lst vs)) → RpL K H vs ds → Rp K H (.ref a) (.fls ds)
  | dic {a : Addr} {kvs : List (Key × V)} {ds : List (Key × D)} : Rd H a (.dK kvs) → kvs.map (·.1) = ds.map (·.1) → RpL K H (kvs.map (·.2)) (ds.map (·.2)) → Rp K H (.ref a) (.dic ds)
  | dtt {a : Addr} {kvs : List (List Key × V)} {ds : List (List Key × D)} : Rd H a (.dT kvs) → kvs.map (·.1) = ds.map (·.1) → RpL K H (kvs.map (·.2)) (ds.map (·.2)) → Rp K H (.ref a) (.dtt ds)
  | fdc {a : Addr} {od : Obj} {φ : Heap → Prop} : H a = some (.frz od (.ext φ)) → FdE od a → Rp K H (.ref a) .fdc
  | ins {a dx : Addr} {c : Str} {fs : List (Str × V)} {ds : List (Str × D)} : H a = some (.ins (He.ga K c) dx fs) → fs.map (·.1) = ds.map (·.1) → RpL K H (fs.map (·.2)) (ds.map (·.2)) → Rp K H (.ref a) (.ins c ds)
  | exc {a dx : Addr} {c : Str} {v : V} {d : D} : H a = some (ExV (.ref (He.ga K c)) (some dx) a) → H dx = some (.xd [("value", v)]) → Rp K H v d → Rp K H (.ref a) (.exc c d)
  | clo {a c : Addr} {n : Nat} {l : LamD} {κ : List (Str × Addr)} {q : Str} : H a = some (LamO l κ c a) → H c = some (LamX.CodeO c q) → Rp K H (.ref a) (.clo n l κ)
  | clv {a c : Addr} {n : Nat} {l : LamD} {κ : List (Str × Addr)} {q : Str} {vs : List V} {ds : List D} : H a = some (LamO l κ c a) → H c = some (LamX.CodeO c q) → CelL H κ vs → RpL K H vs ds → Rp K H (.ref a) (.clv n l ds)
  | slt {a dx : Addr} {c : Str} {vs : List V} {ds : List D} : H a = some (SlX.SlO a (He.ga K c) dx (vs.map some)) → H dx = some (.xd []) → RpL K H vs ds → Rp K H (.ref a) (.slt c ds)
inductive RpL (K : PySem.W.Frag) (H : Hp) : List V → List D → Prop
  | nil : RpL K H [] []
  | cons {v : V} {vs : List V} {d : D} {ds : List D} : Rp K H v d → RpL K H vs ds → RpL K H (v :: vs) (d :: ds)
end
def Imc : HO → Bool
  | .tup _ => true
  | .frz _ (.tup _) => true
  | .frz _ (.lst _) => true
  | .frz _ (.ext _) => true
  | .ext _ => true
  | .xd _ => true
  | _ => false
def Nb : HO → Bool
  | .tbl _ => false
  | _ => true
def Hdb (o : HO) : Bool := !Imc o && Nb o
theorem imc_nb {o : HO} (i : Imc o = true) : Nb o = true := by
  cases o with
  | tbl ps => cases i
  | _ => rfl
theorem hdb_imc {o : HO} (i : Hdb o = true) : Imc o = false := by
  unfold Hdb at i
  cases h : Imc o with
  | true => rw [h] at i; cases i
  | false => rfl
theorem hdb_nb {o : HO} (i : Hdb o = true) : Nb o = true := by
  unfold Hdb at i
  cases h : Nb o with
  | false => rw [h, Bool.and_false] at i; cases i
  | true => rfl
def TabA (H : Hp) (P : Addr) : Prop := ∃ ps : Array Value, H P = some (.tbl ps) ∧ TriplesOk ps.toList ∧ ∀ (pos : Pos) (cv : Value), codeAmong pos ps.toList = some cv → ∃ (c : Addr) (q : Str), cv = .ref c ∧ H c = some (LamX.CodeO c q)
inductive Fq where
  | ob (o : HO)
  | th
  | tb (q : Str)
def Hs (H : Hp) (a : Addr) : Fq → Prop
  | .ob o => H a = some o ∧ Nb o = true
  | .th => ∃ ps, H a = some (.tbl ps)
  | .tb _ => TabA H a
theorem Hs.ne {H : Hp} {a : Addr} {f : Fq} (h : Hs H a f) : H a ≠ none := by
  cases f with
  | ob o => rw [h.1]; simp
  | th => obtain ⟨ps, e⟩ := h; rw [e]; simp
  | tb q => obtain ⟨ps, e, _⟩ := h; rw [e]; simp
theorem Hs.of {H : Hp} {a : Addr} {o : HO} (h : H a = some o) : ∃ f, Hs H a f := by
  cases o with
  | tbl ps => exact ⟨.th, ps, h⟩
  | _ => exact ⟨.ob _, h, rfl⟩
theorem Hs.get {H H' : Hp} {a : Addr} {o : HO} (e : ∀ f, Hs H a f → Hs H' a f) (h : H a = some o) (t : Nb o = true := by rfl) : H' a = some o := (e (.ob o) ⟨h, t⟩).1
theorem Hs.gone {H H' : Hp} {a : Addr} {o : HO} (e : ∀ f, Hs H a f → Hs H' a f) (h : H a = some o) (n : H' a = none) : False := by
  obtain ⟨f, z⟩ := Hs.of h
  exact (e f z).ne n
def Oth (x : Option HO) : Prop := ∀ o, x = some o → Hdb o = true
theorem oth_none : Oth none := fun _ h => nomatch h
theorem oth_some {o : HO} (h : Hdb o = true) : Oth (some o) := fun _ e => by cases e; exact h
theorem oth_at {x : Option HO} {o : HO} (h : x = some o) (i : Hdb o = true := by rfl) : Oth x := by rw [h]; exact oth_some i
theorem codeO_hdb {c : Addr} {q : Str} : Hdb (LamX.CodeO c q) = false := rfl
theorem Hs.upd {H : Hp} {a b : Addr} {o : HO} {f : Fq} (h : Hs H b f) (ne : b ≠ a) (ha : Oth (H a)) : Hs (L2.upd H a o) b f := by
  cases f with
  | ob u => exact ⟨by rw [upd_ne ne]; exact h.1, h.2⟩
  | th => obtain ⟨ps, e⟩ := h; exact ⟨ps, by rw [upd_ne ne]; exact e⟩
  | tb q =>
    obtain ⟨ps, h1, h2, h3⟩ := h
    refine ⟨ps, by rw [upd_ne ne]; exact h1, h2, fun pos cv hc => ?_⟩
    obtain ⟨c, q0, e1, e2⟩ := h3 pos cv hc
    refine ⟨c, q0, e1, ?_⟩
    rw [upd_ne (fun z => by
      rw [z] at e2
      have := ha _ e2
      rw [codeO_hdb] at this
      cases this)]
    exact e2
def Ex (H H' : Hp) : Prop := ∀ a f, Hs H a f → Hs H' a f
def Exo (H H' : Hp) : Prop := ∀ a o, Nb o = true → H a = some o → H' a = some o
theorem Ex.at {H H' : Hp} (e : Ex H H') {a : Addr} {o : HO} (h : H a = some o) (t : Nb o = true := by rfl) : H' a = some o := (e a (.ob o) ⟨h, t⟩).1
theorem Exo.at {H H' : Hp} (e : Exo H H') {a : Addr} {o : HO} (h : H a = some o) (t : Nb o = true := by rfl) : H' a = some o := e a o t h
theorem Ex.x {H H' : Hp} (e : Ex H H') : Exo H H' := fun _ _ t h => e.at h t
instance {H H' : Hp} : Coe (Ex H H') (Exo H H') := ⟨Ex.x⟩
theorem Ex.refl (H : Hp) : Ex H H := fun _ _ h => h
theorem Ex.trans {H H1 H2 : Hp} (a : Ex H H1) (b : Ex H1 H2) : Ex H H2 := fun x o h => b x o (a x o h)
theorem Ex.new {H : Hp} {p : Addr} {o : HO} (h : H p = none) : Ex H (upd H p o) := fun a f e => e.upd (fun z => e.ne (by rw [z]; exact h)) (by rw [h]; exact oth_none)
theorem ex_rd {H H' : Hp} {a : Addr} {u : HO} (e : Exo H H') (h : Rd H a u) (t : Nb u = true := by rfl) : Rd H' a u := by
  rcases h with h | ⟨o, h⟩
  · exact Or.inl (e.at h t)
  · exact Or.inr ⟨o, e.at h⟩
theorem ex_l {K : PySem.W.Frag} {H H' : Hp} {a : Addr} {xs : List V} (e : Exo H H') (h : SqL K H a xs) : SqL K H' a xs := by
  rcases h with h | h
  · exact Or.inl (ex_rd e h)
  · exact Or.inr h
theorem ex_t {K : PySem.W.Frag} {H H' : Hp} {a : Addr} {xs : List V} (e : Exo H H') (h : SqT K H a xs) : SqT K H' a xs := by
  rcases h with h | h
  · exact Or.inl (ex_rd e h)
  · exact Or.inr h
theorem CelL.mono {H H' : Hp} (e : Exo H H') : ∀ {κ : List (Str × Addr)} {vs : List V}, CelL H κ vs → CelL H' κ vs
  | _, _, .nil => .nil
  | _, _, .cons h r => .cons (e.at h) (CelL.mono e r)
section
variable {K : PySem.W.Frag} {H H' : Hp}
mutual
theorem Rp.mono (e : Exo H H') : ∀ {d : D} {v : V}, Rp K H v d → Rp K H' v d
  | _, _, .non => .non
  | _, _, .bl b => .bl b
  | _, _, .int i => .int i
  | _, _, .str x => .str x
  | _, _, .tup h r => .tup ⟨ex_t e h.t, fun z => e.at (h.x z)⟩ (RpL.mono e r)
  | _, _, .lst h r => .lst (e.at h) (RpL.mono e r)
  | _, _, .scr h => .scr (ex_l e h)
  | _, _, .fls h r => .fls (e.at h) (RpL.mono e r)
  | _, _, .dic h k r => .dic (ex_rd e h) k (RpL.mono e r)
  | _, _, .dtt h k r => .dtt (ex_rd e h) k (RpL.mono e r)
  | _, _, .fdc h k => .fdc (e.at h) k
  | _, _, .ins h k r => .ins (e.at h) k (RpL.mono e r)
  | _, _, .exc h k r => .exc (e.at h) (e.at k) (Rp.mono e r)
  | _, _, .clo h k => .clo (e.at h) (e.at k)
  | _, _, .clv h k c r => .clv (e.at h) (e.at k) (c.mono e) (RpL.mono e r)
  | _, _, .slt h k r => .slt (e.at h) (e.at k) (RpL.mono e r)
theorem RpL.mono (e : Exo H H') : ∀ {ds : List D} {vs : List V}, RpL K H vs ds → RpL K H' vs ds
  | _, _, .nil => .nil
  | _, _, .cons r t => .cons (Rp.mono e r) (RpL.mono e t)
end
theorem RpL.length : ∀ {vs : List V} {ds : List D}, RpL K H vs ds → vs.length = ds.length
  | _, _, .nil => rfl
  | _, _, .cons _ t => congrArg (· + 1) (RpL.length t)
theorem RpL.get : ∀ {vs : List V} {ds : List D} {i : Nat} {d : D}, RpL K H vs ds → ds[i]? = some d → ∃ v, vs[i]? = some v ∧ Rp K H v d
  | _, _, _, _, .nil, e => by simp at e
  | _, _, 0, _, .cons r _, e => by simp at e; subst e; exact ⟨_, rfl, r⟩
  | _, _, i + 1, _, .cons _ t, e => by
    obtain ⟨v, h1, h2⟩ := RpL.get (i := i) t (by simpa using e)
    exact ⟨v, by simpa using h1, h2⟩
theorem RpL.get' : ∀ {vs : List V} {ds : List D} {i : Nat} {v : V}, RpL K H vs ds → vs[i]? = some v → ∃ d, ds[i]? = some d ∧ Rp K H v d
  | _, _, _, _, .nil, e => by simp at e
  | _, _, 0, _, .cons r _, e => by simp at e; subst e; exact ⟨_, rfl, r⟩
  | _, _, i + 1, _, .cons _ t, e => by
    obtain ⟨v, h1, h2⟩ := RpL.get' (i := i) t (by simpa using e)
    exact ⟨v, by simpa using h1, h2⟩
theorem RpL.append : ∀ {vs ws : List V} {ds es : List D}, RpL K H vs ds → RpL K H ws es → RpL K H (vs ++ ws) (ds ++ es)
  | _, _, _, _, .nil, s => s
  | _, _, _, _, .cons r t, s => .cons r (RpL.append t s)
theorem sql_frz {K : PySem.W.Frag} {H : Hp} {a : Addr} {od : Obj} {xs : List V} (h : H a = some (.frz od (.lst xs))) : SqL K H a xs := .inl (.inr ⟨od, h⟩)
def Stay (H H' : Hp) : Prop := ∀ a o, Imc o = true → H a = some o → H' a = some o
theorem Stay.tup {H H' : Hp} (e : Stay H H') {a : Addr} {xs : List V} (h : Rd H a (.tup xs)) : Rd H' a (.tup xs) := by
  rcases h with h | ⟨o, h⟩
  · exact .inl (e a _ rfl h)
  · exact .inr ⟨o, e a _ rfl h⟩
theorem CelL.stay {H H' : Hp} (e : Stay H H') : ∀ {κ : List (Str × Addr)} {vs : List V}, CelL H κ vs → CelL H' κ vs
  | _, _, .nil => .nil
  | _, _, .cons h r => .cons (e _ _ rfl h) (CelL.stay e r)
mutual
theorem Rp.imm (e : Stay H H') : ∀ {d : D} {v : V}, imm d = true → Rp K H v d → Rp K H' v d
  | _, _, _, .non => .non
  | _, _, _, .bl b => .bl b
  | _, _, _, .int i => .int i
  | _, _, _, .str x => .str x
  | _, _, i, .tup h r => .tup ⟨h.t.imp (fun z => e.tup z) id, fun z => e _ _ rfl (h.x z)⟩ (RpL.imm e (by simpa [Rf.imm] using i) r)
  | _, _, i, .fls h r => .fls (e _ _ rfl h) (RpL.imm e (by simpa [Rf.imm] using i) r)
  | _, _, i, .fdc h k => .fdc (e _ _ rfl h) k
  | _, _, i, .lst _ _ => by simp [Rf.imm] at i
  | _, _, i, .scr _ => by simp [Rf.imm] at i
  | _, _, i, .dic _ _ _ => by simp [Rf.imm] at i
  | _, _, i, .dtt _ _ _ => by simp [Rf.imm] at i
  | _, _, i, .ins _ _ _ => by simp [Rf.imm] at i
  | _, _, i, .exc h k r => .exc (e _ _ rfl h) (e _ _ rfl k) (Rp.imm e (by simpa [Rf.imm] using i) r)
  | _, _, i, .clo h k => .clo (e _ _ rfl h) (e _ _ rfl k)
  | _, _, i, .clv h k c r => .clv (e _ _ rfl h) (e _ _ rfl k) (c.stay e) (RpL.imm e (by simpa [Rf.imm] using i) r)
  | _, _, i, .slt h k r => .slt (e _ _ rfl h) (e _ _ rfl k) (RpL.imm e (by simpa [Rf.imm] using i) r)
theorem RpL.imm (e : Stay H H') : ∀ {ds : List D} {vs : List V}, immL ds = true → RpL K H vs ds → RpL K H' vs ds
  | _, _, _, .nil => .nil
  | _, _, i, .cons r t => by
    simp only [Rf.immL, Bool.and_eq_true] at i
    exact .cons (Rp.imm e i.1 r) (RpL.imm e i.2 t)
end
end
end Rf
namespace Rf
open PySem PySem.Spec PyProof.Rows L2
abbrev AS := Addr → Prop
open Classical in
noncomputable def vis (H : Hp) (Z : AS) : Hp := fun a => if Z a then none else H a
theorem vis_in {H : Hp} {Z : AS} {a : Addr} {o : HO} (h : H a = some o) (n : ¬ Z a) : vis H Z a = some o := by
  unfold vis; rw [if_neg n]; exact h
theorem of_vis {H : Hp} {Z : AS} {a : Addr} {o : HO} (h : vis H Z a = some o) : H a = some o ∧ ¬ Z a := by
  unfold vis at h
  by_cases z : Z a
  · rw [if_pos z] at h; cases h
  · rw [if_neg z] at h; exact ⟨h, z⟩
theorem vis_ex {H : Hp} {Z : AS} : Exo (vis H Z) H := fun _ _ _ h => (of_vis h).1
theorem vis_none {H : Hp} : vis H (fun _ => False) = H := by funext a; unfold vis; rw [if_neg (fun z => z)]
def lamFn (fd : FuncData) : Bool := nbeq fd.name.cps.toList fd.qualname.cps.toList && nbeq (fd.name.cps.toList.take 4) [95, 108, 97, 119]
def tabsOf (K : PySem.W.Frag) : List (Addr × Addr) := K.filterMap fun p => match p.2.data with
  | .func fd => (match lamFn fd with
    | true => (match fd.code with
      | .ref c => some (c, He.tabOf K c)
      | _ => none)
    | false => none)
  | _ => none
structure Nt (K : PySem.W.Frag) (H : Hp) (Z : AS) : Prop where
  hid : ∀ a, Z a → H a ≠ none ∧ Oth (H a)
  tab : ∀ t ∈ tabsOf K, TabA H t.2
theorem Nt.of {K : PySem.W.Frag} {H : Hp} {Z : AS} (t : ∀ t ∈ tabsOf K, TabA H t.2) (h : ∀ a, Z a → H a ≠ none ∧ Oth (H a)) : Nt K H Z := ⟨h, t⟩
def Hd (H : Hp) (Z : AS) : Prop := ∀ a, Z a → H a ≠ none ∧ Oth (H a)
theorem nt_not {K : PySem.W.Frag} {H : Hp} {Z : AS} (n : Nt K H Z) {a : Addr} {o : HO} (i : Imc o = true) (h : H a = some o) : ¬ Z a := fun z => by
  have := hdb_imc ((n.hid a z).2 o h)
  rw [this] at i
  cases i
theorem vis_tup {K : PySem.W.Frag} {H : Hp} {Z : AS} (n : Nt K H Z) : Stay H (vis H Z) := fun a o i h => vis_in h (nt_not n i h)
theorem Hd.new {H : Hp} {Z : AS} (n : Hd H Z) {H' : Hp} (e : Ex H H') : Hd H' Z := fun a z => by
  obtain ⟨h1, h2⟩ := n a z
  cases h : H a with
  | none => exact absurd h h1
  | some o =>
    have hb := h2 o h
    have h' := e.at h (hdb_nb hb)
    rw [h']
    exact ⟨by simp, oth_some hb⟩
theorem Nt.new {K : PySem.W.Frag} {H : Hp} {Z : AS} (n : Nt K H Z) {H' : Hp} (e : Ex H H') : Nt K H' Z :=
  ⟨Hd.new n.hid e, fun t h => e _ (.tb "") (n.tab t h)⟩
theorem nt_of {H : Hp} {a : Addr} {o : HO} (h : H a = some o) (i : Hdb o = true) : H a ≠ none ∧ Oth (H a) := by
  rw [h]
  exact ⟨by simp, oth_some i⟩
theorem vis_mono {H H' : Hp} {Z : AS} (e : Ex H H') : Exo (vis H Z) (vis H' Z) := fun a o t h => by
  obtain ⟨h1, h2⟩ := of_vis h
  exact vis_in (e.at h1 t) h2
section
variable {K : PySem.W.Frag} {H H' : Hp}
mutual
inductive Ow (K : PySem.W.Frag) (H : Hp) : V → D → AS → Prop
  | leaf {v : V} {d : D} {S : AS} : imm d = true → Rp K H v d → (∀ b, ¬ S b) → Ow K H v d S
  | tup {a : Addr} {vs : List V} {ds : List D} {S : AS} : H a = some (.tup vs) → OwL K H vs ds S → Ow K H (.ref a) (.tup ds) S
  | lst {a : Addr} {vs : List V} {ds : List D} {S T : AS} : H a = some (.lst vs) → OwL K H vs ds T → ¬ T a → (∀ b, S b ↔ b = a ∨ T b) → Ow K H (.ref a) (.lst ds) S
  | dic {a : Addr} {kvs : List (Key × V)} {ds : List (Key × D)} {S T : AS} : H a = some (.dK kvs) → kvs.map (·.1) = ds.map (·.1) → OwL K H (kvs.map (·.2)) (ds.map (·.2)) T → ¬ T a → (∀ b, S b ↔ b = a ∨ T b) → Ow K H (.ref a) (.dic ds) S
  | dtt {a : Addr} {kvs : List (List Key × V)} {ds : List (List Key × D)} {S T : AS} : H a = some (.dT kvs) → kvs.map (·.1) = ds.map (·.1) → OwL K H (kvs.map (·.2)) (ds.map (·.2)) T → ¬ T a → (∀ b, S b ↔ b = a ∨ T b) → Ow K H (.ref a) (.dtt ds) S
  | ins {a dx : Addr} {c : Str} {fs : List (Str × V)} {ds : List (Str × D)} {S T : AS} : H a = some (.ins (He.ga K c) dx fs) → H dx = some (.own a) → fs.map (·.1) = ds.map (·.1) → OwL K H (fs.map (·.2)) (ds.map (·.2)) T → ¬ T a → ¬ T dx → (∀ b, S b ↔ b = a ∨ b = dx ∨ T b) → Ow K H (.ref a) (.ins c ds) S
inductive OwL (K : PySem.W.Frag) (H : Hp) : List V → List D → AS → Prop
  | nil {S : AS} : (∀ b, ¬ S b) → OwL K H [] [] S
  | cons {v : V} {vs : List V} {d : D} {ds : List D} {S T R : AS} : Ow K H v d T → OwL K H vs ds R → (∀ b, T b → R b → False) → (∀ b, S b ↔ T b ∨ R b) → OwL K H (v :: vs) (d :: ds) S
end
mutual
theorem Ow.rp : ∀ {v : V} {d : D} {S : AS}, Ow K H v d S → Rp K H v d
  | _, _, _, .leaf _ r _ => r
  | _, _, _, .tup h r => .tup (SqQ.of h) (OwL.rp r)
  | _, _, _, .lst h r _ _ => .lst h (OwL.rp r)
  | _, _, _, .dic h k r _ _ => .dic (.inl h) k (OwL.rp r)
  | _, _, _, .dtt h k r _ _ => .dtt (.inl h) k (OwL.rp r)
  | _, _, _, .ins h _ k r _ _ _ => .ins h k (OwL.rp r)
theorem OwL.rp : ∀ {vs : List V} {ds : List D} {S : AS}, OwL K H vs ds S → RpL K H vs ds
  | _, _, _, .nil _ => .nil
  | _, _, _, .cons r t _ _ => .cons (Ow.rp r) (OwL.rp t)
end
theorem vis_at {Z : AS} (n : Nt K H Z) {a : Addr} {xs : List V} (h : H a = some (.tup xs)) : vis H Z a = some (.tup xs) := vis_in h (nt_not n rfl h)
mutual
theorem Ow.vis {Z : AS} (n : Nt K H Z) : ∀ {v : V} {d : D} {S : AS}, Ow K H v d S → (∀ a, S a → ¬ Z a) → Rp K (Rf.vis H Z) v d
  | _, _, _, .leaf i r _, _ => Rp.imm (vis_tup n) i r
  | _, _, _, .tup h r, q => .tup (SqQ.of (vis_at n h)) (OwL.vis n r q)
  | _, _, _, .lst h r _ e, q => .lst (vis_in h (q _ ((e _).mpr (.inl rfl)))) (OwL.vis n r fun b hb => q b ((e b).mpr (.inr hb)))
  | _, _, _, .dic h k r _ e, q => .dic (.inl (vis_in h (q _ ((e _).mpr (.inl rfl))))) k (OwL.vis n r fun b hb => q b ((e b).mpr (.inr hb)))
  | _, _, _, .dtt h k r _ e, q => .dtt (.inl (vis_in h (q _ ((e _).mpr (.inl rfl))))) k (OwL.vis n r fun b hb => q b ((e b).mpr (.inr hb)))
  | _, _, _, .ins h _ k r _ _ e, q => .ins (vis_in h (q _ ((e _).mpr (.inl rfl)))) k (OwL.vis n r fun b hb => q b ((e b).mpr (.inr (.inr hb))))
theorem OwL.vis {Z : AS} (n : Nt K H Z) : ∀ {vs : List V} {ds : List D} {S : AS}, OwL K H vs ds S → (∀ a, S a → ¬ Z a) → RpL K (Rf.vis H Z) vs ds
  | _, _, _, .nil _, _ => .nil
  | _, _, _, .cons r t _ e, q => .cons (Ow.vis n r fun b hb => q b ((e b).mpr (.inl hb))) (OwL.vis n t fun b hb => q b ((e b).mpr (.inr hb)))
end
mutual
theorem Ow.carry (st : Stay H H') : ∀ {v : V} {d : D} {S : AS}, Ow K H v d S → (∀ a f, S a → Hs H a f → Hs H' a f) → Ow K H' v d S
  | _, _, _, .leaf i r e, _ => .leaf i (Rp.imm st i r) e
  | _, _, _, .tup h r, q => .tup (st _ _ rfl h) (OwL.carry st r q)
  | _, _, _, .lst h r n e, q => .lst (Hs.get (fun f => q _ f ((e _).mpr (.inl rfl))) h) (OwL.carry st r fun b o hb => q b o ((e b).mpr (.inr hb))) n e
  | _, _, _, .dic h k r n e, q => .dic (Hs.get (fun f => q _ f ((e _).mpr (.inl rfl))) h) k (OwL.carry st r fun b o hb => q b o ((e b).mpr (.inr hb))) n e
  | _, _, _, .dtt h k r n e, q => .dtt (Hs.get (fun f => q _ f ((e _).mpr (.inl rfl))) h) k (OwL.carry st r fun b o hb => q b o ((e b).mpr (.inr hb))) n e
  | _, _, _, .ins h h2 k r n m e, q => .ins (Hs.get (fun f => q _ f ((e _).mpr (.inl rfl))) h) (Hs.get (fun f => q _ f ((e _).mpr (.inr (.inl rfl)))) h2) k (OwL.carry st r fun b o hb => q b o ((e b).mpr (.inr (.inr hb)))) n m e
theorem OwL.carry (st : Stay H H') : ∀ {vs : List V} {ds : List D} {S : AS}, OwL K H vs ds S → (∀ a f, S a → Hs H a f → Hs H' a f) → OwL K H' vs ds S
  | _, _, _, .nil e, _ => .nil e
  | _, _, _, .cons r t d e, q => .cons (Ow.carry st r fun b o hb => q b o ((e b).mpr (.inl hb))) (OwL.carry st t fun b o hb => q b o ((e b).mpr (.inr hb))) d e
end
mutual
theorem Ow.nt : ∀ {v : V} {d : D} {S : AS}, Ow K H v d S → Hd H S
  | _, _, _, .leaf _ _ e => fun a z => absurd z (e a)
  | _, _, _, .tup _ r => OwL.nt r
  | _, _, _, .lst h r _ e => fun b z => by
    rcases (e b).mp z with rfl | z
    · exact nt_of h rfl
    · exact OwL.nt r b z
  | _, _, _, .dic h _ r _ e => fun b z => by
    rcases (e b).mp z with rfl | z
    · exact nt_of h rfl
    · exact OwL.nt r b z
  | _, _, _, .dtt h _ r _ e => fun b z => by
    rcases (e b).mp z with rfl | z
    · exact nt_of h rfl
    · exact OwL.nt r b z
  | _, _, _, .ins h h2 _ r _ _ e => fun b z => by
    rcases (e b).mp z with rfl | rfl | z
    · exact nt_of h rfl
    · exact nt_of h2 rfl
    · exact OwL.nt r b z
theorem OwL.nt : ∀ {vs : List V} {ds : List D} {S : AS}, OwL K H vs ds S → Hd H S
  | _, _, _, .nil e => fun a z => absurd z (e a)
  | _, _, _, .cons r t _ e => fun b z => ((e b).mp z).elim (Ow.nt r b) (OwL.nt t b)
end
end
def Chg (Z : AS) (H H' : Hp) : Prop := ∀ b f, Hs H b f → ¬ Z b → Hs H' b f
theorem Chg.at {Z : AS} {H H' : Hp} (c : Chg Z H H') {b : Addr} {o : HO} (h : H b = some o) (n : ¬ Z b) (t : Nb o = true := by rfl) : H' b = some o := (c b (.ob o) ⟨h, t⟩ n).1
theorem Chg.upd {Z : AS} {H : Hp} {a : Addr} {o u : HO} (z : Z a) (h : H a = some u) (i : Hdb u = true := by rfl) : Chg Z H (L2.upd H a o) := fun b f q n => q.upd (fun e => n (by rw [e]; exact z)) (by rw [h]; exact oth_some i)
abbrev Env := List (Option D)
inductive R (α : Type) where
  | ok (a : α) (e : Env)
  | exc (c : Str) (d : D) (e : Env)
  | bad
def zo (U : AS) (S : Nat → AS) : AS := fun a => U a ∨ ∃ i, S i a
structure Rel (K : PySem.W.Frag) (M : List Nat) (U : AS) (S : Nat → AS) (H : Hp) (σ : L2.St) (env : Env) : Prop where
  own : ∀ i d, i ∈ M → env[i]? = some (some d) → ∃ v, σ[i]? = some (some v) ∧ Ow K H v d (S i)
  frz : ∀ i d, i ∉ M → env[i]? = some (some d) → ∃ v, σ[i]? = some (some v) ∧ Rp K (vis H (zo U S)) v d
  dis : ∀ i j a, i ≠ j → S i a → S j a → False
  out : ∀ i a, S i a → U a → False
  nt : Nt K H (zo U S)
  len : env.length = σ.length
structure Post (K : PySem.W.Frag) (M : List Nat) (U : AS) (S : Nat → AS) (H : Hp) (σ : L2.St) (S' : Nat → AS) (H' : Hp) (env' : Env) : Prop where
  rel : Rel K M U S' H' σ env'
  keep : ∀ a f, Hs H a f → (∀ i, ¬ S i a) → Hs H' a f
  grow : ∀ i a, S' i a → (∃ j, S j a) ∨ H a = none
theorem Post.ne {K : PySem.W.Frag} {M : List Nat} {U : AS} {S S' : Nat → AS} {H H' : Hp} {σ : L2.St} {env' : Env} (p : Post K M U S H σ S' H' env') {a : Addr} {o : HO} (h : H a = some o) (n : ∀ i, ¬ S i a) (z : H' a = none) : False := by
  obtain ⟨f, q⟩ := Hs.of h
  exact (p.keep a f q n).ne z
theorem Post.at {K : PySem.W.Frag} {M : List Nat} {U : AS} {S S' : Nat → AS} {H H' : Hp} {σ : L2.St} {env' : Env} (p : Post K M U S H σ S' H' env') {a : Addr} {o : HO} (h : H a = some o) (n : ∀ i, ¬ S i a) (t : Nb o = true := by rfl) : H' a = some o := (p.keep a (.ob o) ⟨h, t⟩ n).1
end Rf
namespace Rf
open PySem PySem.Spec PyProof.Rows L2
inductive O (α : Type) where
  | ok (a : α)
  | exc (c : Str) (d : D)
  | bad
def O.bind {α β : Type} (x : O α) (f : α → O β) : O β := match x with
  | .ok a => f a
  | .exc c d => .exc c d
  | .bad => .bad
def R.bind {α β : Type} (x : R α) (f : α → Env → R β) : R β := match x with
  | .ok a e => f a e
  | .exc c d e => .exc c d e
  | .bad => .bad
def O.at {α : Type} (x : O α) (e : Env) : R α := match x with
  | .ok a => .ok a e
  | .exc c d => .exc c d e
  | .bad => .bad
def zb (b : Bool) (U : AS) (S : Nat → AS) : AS := fun a => U a ∨ (b = true ∧ ∃ i, S i a)
theorem zb_true {U : AS} {S : Nat → AS} : zb true U S = zo U S := by funext a; simp [zb, zo]
theorem zb_false {U : AS} {S : Nat → AS} : zb false U S = U := by funext a; simp [zb]
theorem zb_zo {b : Bool} {U : AS} {S : Nat → AS} {a : Addr} (h : zb b U S a) : zo U S a := h.elim .inl fun z => .inr z.2
theorem vis_sub {H : Hp} {Z Z' : AS} (h : ∀ a, Z a → Z' a) : Exo (vis H Z') (vis H Z) := fun a o _ e => by
  obtain ⟨h1, h2⟩ := of_vis e
  exact vis_in h1 fun z => h2 (h a z)
def okE (K : PySem.W.Frag) (W : WX) (Z : AS) (H : Hp) (σ : L2.St) (c : Str) (d : D) : Prop :=
  ∀ dx v H', Ex H H' → ¬ Z dx → H' dx = some (.xd [("value", v)]) → Rp K (vis H' Z) v d → W (.ref (He.ga K c)) (some dx) σ H'
def Po {α β : Type} (K : PySem.W.Frag) (W : WX) (Z : AS) (H : Hp) (σ : L2.St) (rel : Hp → β → α → Prop) (Q : β → Hp → Prop) : O α → Prop
  | .ok a => ∀ v H', Ex H H' → rel H' v a → Q v H'
  | .exc c d => okE K W Z H σ c d
  | .bad => False
theorem fresh_back {H H' : Hp} {p : Addr} (e : Ex H H') (h : H' p = none) : H p = none := by
  cases h1 : H p with
  | none => rfl
  | some o => exact (Hs.gone (e p) h1 h).elim
theorem okE.mono {K : PySem.W.Frag} {W : WX} {Z : AS} {H H1 : Hp} {σ : L2.St} {c : Str} {d : D} (h : okE K W Z H σ c d) (e : Ex H H1) : okE K W Z H1 σ c d :=
  fun dx v H' e1 n x r => h dx v H' (e.trans e1) n x r
section
variable {α β γ δ : Type} {K : PySem.W.Frag} {W : WX} {Z : AS} {H : Hp} {σ : L2.St} {rel1 : Hp → γ → α → Prop} {rel2 : Hp → δ → β → Prop} {Q : δ → Hp → Prop} {Q1 : γ → Hp → Prop} {x : O α} {f : α → O β}
theorem Po.up {H1 : Hp} {y : O β} (e : Ex H H1) (h : Po K W Z H σ rel2 Q y) : Po K W Z H1 σ rel2 Q y := by
  cases y with
  | ok b => exact fun v H' e1 r => h v H' (e.trans e1) r
  | exc c d => exact okE.mono h e
  | bad => exact h
theorem Po.step (h : Po K W Z H σ rel2 Q (x.bind f)) (k : ∀ a v H1, x = .ok a → Ex H H1 → rel1 H1 v a → Po K W Z H1 σ rel2 Q (f a) → Q1 v H1) : Po K W Z H σ rel1 Q1 x := by
  cases x with
  | ok a => exact fun v H1 e r => k a v H1 rfl e r (Po.up e h)
  | exc c d => exact h
  | bad => exact h
end
abbrev rpZ (K : PySem.W.Frag) (Z : AS) : Hp → V → D → Prop := fun H v d => Rp K (vis H Z) v d
abbrev rlZ (K : PySem.W.Frag) (Z : AS) : Hp → List V → List D → Prop := fun H v d => RpL K (vis H Z) v d
abbrev nlZ (K : PySem.W.Frag) (Z : AS) (H0 : Hp) : Hp → V → List D → Prop := fun H v ds => ∃ p vs, v = .ref p ∧ H0 p = none ∧ H p = some (.lst vs) ∧ RpL K (vis H Z) vs ds
def SP (X : Cx) (M : List Nat) (W : WX) (b : Bool) (e : Expr) (F : Env → O D) : Prop :=
  ∃ t : TE, PE X e t ∧ ∀ σ H env U S, Rel X.K M U S H σ env → ∀ Q, Po X.K W (zb b U S) H σ (rpZ X.K (zb b U S)) Q (F env) → t σ H Q
def SPL (X : Cx) (M : List Nat) (W : WX) (b : Bool) (e : Expr) (F : Env → O (List D)) : Prop :=
  ∃ t : TE, PE X e t ∧ ∀ σ H env U S, Rel X.K M U S H σ env → ∀ Q, Po X.K W (zb b U S) H σ (nlZ X.K (zb b U S) H) Q (F env) → t σ H Q
abbrev eqZ : Hp → Bool → Bool → Prop := fun _ b c => b = c
def STp (X : Cx) (M : List Nat) (W : WX) (b : Bool) (e : Expr) (F : Env → O Bool) : Prop :=
  ∃ t : TT, PT X e t ∧ ∀ σ H env U S, Rel X.K M U S H σ env → ∀ Q, Po X.K W (zb b U S) H σ eqZ Q (F env) → t σ H Q
section
variable {K : PySem.W.Frag} {M : List Nat} {U : AS} {S : Nat → AS} {H H' : Hp} {σ : L2.St} {env : Env}
theorem Rel.mono (r : Rel K M U S H σ env) (e : Ex H H') : Rel K M U S H' σ env where
  own := fun i d hi he => by
    obtain ⟨v, h1, h2⟩ := r.own i d hi he
    exact ⟨v, h1, h2.carry (fun a o i h => e.at h (imc_nb i)) fun a f _ h => e a f h⟩
  frz := fun i d hi he => by
    obtain ⟨v, h1, h2⟩ := r.frz i d hi he
    exact ⟨v, h1, h2.mono (vis_mono e)⟩
  dis := r.dis
  out := r.out
  nt := r.nt.new e
  len := r.len
theorem Rel.ntb (r : Rel K M U S H σ env) (b : Bool) : Nt K H (zb b U S) := ⟨fun a z => r.nt.hid a (zb_zo z), r.nt.tab⟩
theorem Rel.post (r : Rel K M U S H σ env) (e : Ex H H') : Post K M U S H σ S H' env :=
  ⟨r.mono e, fun a o h _ => e a o h, fun i a h => .inl ⟨i, h⟩⟩
theorem Post.vis {S' : Nat → AS} {env' : Env} (p : Post K M U S H σ S' H' env') : Exo (Rf.vis H (zo U S)) (Rf.vis H' (zo U S')) := fun a o t h => by
  obtain ⟨h1, h2⟩ := of_vis h
  refine vis_in (p.at h1 (fun i z => h2 (.inr ⟨i, z⟩)) t) fun z => ?_
  rcases z with z | ⟨i, z⟩
  · exact h2 (.inl z)
  · rcases p.grow i a z with ⟨j, q⟩ | q
    · exact h2 (.inr ⟨j, q⟩)
    · rw [q] at h1; cases h1
theorem Post.trans {S1 S2 : Nat → AS} {H1 H2 : Hp} {e1 e2 : Env} (a : Post K M U S H σ S1 H1 e1) (b : Post K M U S1 H1 σ S2 H2 e2) : Post K M U S H σ S2 H2 e2 where
  rel := b.rel
  keep := fun x o h n => by
    refine b.keep x o (a.keep x o h n) fun i z => ?_
    rcases a.grow i x z with ⟨j, q⟩ | q
    · exact n j q
    · exact h.ne q
  grow := fun i x z => by
    rcases b.grow i x z with ⟨j, q⟩ | q
    · exact a.grow j x q
    · cases h : H x with
      | none => exact .inr rfl
      | some o =>
        left
        refine Classical.byContradiction fun n => ?_
        exact a.ne h (fun j w => n ⟨j, w⟩) q
end
section
variable {X : Cx} {M : List Nat} {W : WX} {e : Expr} {F : Env → O D}
theorem imm_up {K : PySem.W.Frag} {H : Hp} {Z Z' : AS} {v : V} {d : D} (n : Nt K H Z') (i : imm d = true) (r : Rp K (vis H Z) v d) : Rp K (vis H Z') v d := Rp.imm (vis_tup n) i (r.mono vis_ex)
def noX {α : Type} : O α → O α
  | .ok a => .ok a
  | _ => .bad
def keepI : O D → O D
  | .ok d => if imm d then .ok d else .bad
  | _ => .bad
theorem SP.kept (h : SP X M W false e F) : SP X M W true e (fun env => keepI (F env)) := by
  obtain ⟨t, p, q⟩ := h
  refine ⟨t, p, fun σ H env U S r Q hp => q σ H env U S r Q ?_⟩
  dsimp only at hp
  cases hF : F env with
  | ok d =>
    rw [hF] at hp
    simp only [keepI] at hp
    cases hi : imm d with
    | false => rw [hi] at hp; exact (by simpa [Po] using hp)
    | true =>
      rw [hi] at hp
      intro v H' ex rp
      refine hp v H' ex ?_
      exact imm_up ((r.ntb true).new ex) hi rp
  | exc c d => rw [hF] at hp; exact hp.elim
  | bad => rw [hF] at hp; exact hp.elim
def mkL : O (List D) → O D
  | .ok ds => .ok (.lst ds)
  | .exc c d => .exc c d
  | .bad => .bad
theorem SPL.sp {b : Bool} {F : Env → O (List D)} (h : SPL X M W b e F) : SP X M W b e (fun env => mkL (F env)) := by
  obtain ⟨t, p, q⟩ := h
  refine ⟨t, p, fun σ H env U S r Q hp => q σ H env U S r Q ?_⟩
  dsimp only at hp
  cases hF : F env with
  | ok ds =>
    rw [hF] at hp
    rintro v H' ex ⟨p, vs, rfl, hn, hl, rp⟩
    refine hp _ H' ex (.lst (vis_in hl fun z => ?_) rp)
    exact absurd hn ((r.ntb b).hid p z).1
  | exc c d => rw [hF] at hp; exact hp
  | bad => rw [hF] at hp; exact hp.elim
end
section
variable {X : Cx} {M : List Nat} {W : WX} {pos : Pos}
def eVar (i : Nat) : Env → O D := fun env => match env[i]? with
  | some (some d) => .ok d
  | _ => .bad
theorem sp_own {i : Nat} {x : Str} (hM : M.contains i = true) (hN : X.N[i]? = some x) (hv : Vis X.env.scope x) (hd : (x == ("__debug__" : Str)) = false := by decide) (hcd : (x == ("__classdict__" : Str)) = false := by decide) : SP X M W false (.Name x pos) (eVar i) := by
  refine ⟨_, pe_var hN hv hd hcd, fun σ H env U S r Q hp => ?_⟩
  have hM' : i ∈ M := by simpa using hM
  unfold eVar at hp
  split at hp
  · rename_i d he
    obtain ⟨v, h1, h2⟩ := r.own i d hM' he
    exact ⟨v, h1, hp v H (Ex.refl H) (by rw [rpZ, zb_false]; exact h2.vis ⟨fun a z => r.nt.hid a (.inl z), r.nt.tab⟩ fun a ha hu => r.out i a ha hu)⟩
  · exact hp.elim
def eC (d : D) : Env → O D := fun _ => .ok d
theorem sp_int {b : Bool} {i j} : SP X M W b (.Constant (.int i) j pos) (eC (.int i)) := ⟨_, pe_int, fun σ H env U S r Q hp => hp _ H (Ex.refl H) (.int i)⟩
theorem sp_bl {b : Bool} {i j} : SP X M W b (.Constant (.bool i) j pos) (eC (.bl i)) := ⟨_, pe_bl, fun σ H env U S r Q hp => hp _ H (Ex.refl H) (.bl i)⟩
theorem sp_non {b : Bool} {j} : SP X M W b (.Constant .none j pos) (eC .non) := ⟨_, pe_non, fun σ H env U S r Q hp => hp _ H (Ex.refl H) .non⟩
theorem sp_str {b : Bool} {i j} : SP X M W b (.Constant (.str i) j pos) (eC (.str i)) := ⟨_, pe_str, fun σ H env U S r Q hp => hp _ H (Ex.refl H) (.str i)⟩
end
def sq : List TE → L2.St → Hp → (List V → Hp → Prop) → Prop
  | [], _, H, k => k [] H
  | t :: ts, σ, H, k => t σ H fun v H1 => sq ts σ H1 fun vs H2 => k (v :: vs) H2
inductive PEs (X : Cx) : List Expr → List TE → Prop
  | nil : PEs X [] []
  | cons {e : Expr} {es : List Expr} {t : TE} {ts : List TE} : PE X e t → PEs X es ts → PEs X (e :: es) (t :: ts)
inductive SPs (X : Cx) (M : List Nat) (W : WX) (b : Bool) : List Expr → List (Env → O D) → Prop
  | nil : SPs X M W b [] []
  | cons {e : Expr} {es : List Expr} {F : Env → O D} {Fs : List (Env → O D)} : SP X M W b e F → SPs X M W b es Fs → SPs X M W b (e :: es) (F :: Fs)
abbrev RN := List V → L2.St → Hp → VK → Prop
def Node (X : Cx) (es : List Expr) (e : Expr) (r : RN) : Prop := ∀ ts, PEs X es ts → ∃ t, PE X e t ∧ ∀ σ H Q, sq ts σ H (fun vs H' => r vs σ H' Q) → t σ H Q
def Val (K : PySem.W.Frag) (W : WX) (r : RN) (g : List D → O D) : Prop := ∀ H Z σ vs ds Q, Nt K H Z → RpL K (vis H Z) vs ds → Po K W Z H σ (rpZ K Z) Q (g ds) → r vs σ H Q
def ValL (K : PySem.W.Frag) (W : WX) (r : RN) (g : List D → O (List D)) : Prop := ∀ H Z σ vs ds Q, Nt K H Z → RpL K (vis H Z) vs ds → Po K W Z H σ (nlZ K Z H) Q (g ds) → r vs σ H Q
def seqF : List (Env → O D) → Env → O (List D)
  | [], _ => .ok []
  | F :: Fs, env => (F env).bind fun d => (seqF Fs env).bind fun ds => .ok (d :: ds)
def nd {α : Type} (g : List D → O α) (Fs : List (Env → O D)) : Env → O α := fun env => (seqF Fs env).bind g
section
variable {X : Cx} {M : List Nat} {W : WX} {b : Bool}
theorem sps_run {es : List Expr} {Fs : List (Env → O D)} (h : SPs X M W b es Fs) : ∃ ts, PEs X es ts ∧ ∀ σ H env U S, Rel X.K M U S H σ env → ∀ (k : List V → Hp → Prop),
    Po X.K W (zb b U S) H σ (rlZ X.K (zb b U S)) k (seqF Fs env) → sq ts σ H k := by
  induction h with
  | nil => exact ⟨[], .nil, fun σ H env U S r k h => h [] H (Ex.refl H) .nil⟩
  | @cons e es F Fs h1 _ ih =>
    obtain ⟨t, p, q⟩ := h1
    obtain ⟨ts, ps, qs⟩ := ih
    refine ⟨t :: ts, .cons p ps, fun σ H env U S r k h => ?_⟩
    refine q σ H env U S r _ (Po.step h fun d v H1 hF e1 r1 h1 => ?_)
    refine qs σ H1 env U S (r.mono e1) _ (Po.step h1 fun ds vs H2 hFs e2 r2 h2 => ?_)
    exact h2 (v :: vs) H2 (Ex.refl H2) (.cons (r1.mono (vis_mono e2)) r2)
theorem sp_node {es : List Expr} {e : Expr} {r : RN} {g : List D → O D} {Fs : List (Env → O D)} (n : Node X es e r) (v : Val X.K W r g) (h : SPs X M W b es Fs) : SP X M W b e (nd g Fs) := by
  obtain ⟨ts, ps, qs⟩ := sps_run h
  obtain ⟨t, p, q⟩ := n ts ps
  refine ⟨t, p, fun σ H env U S rl Q hp => q σ H Q (qs σ H env U S rl _ (Po.step hp fun ds vs H1 hF e1 r1 h1 => ?_))⟩
  exact v H1 _ σ vs ds Q ((rl.ntb b).new e1) r1 h1
theorem spl_node {es : List Expr} {e : Expr} {r : RN} {g : List D → O (List D)} {Fs : List (Env → O D)} (n : Node X es e r) (v : ValL X.K W r g) (h : SPs X M W b es Fs) : SPL X M W b e (nd g Fs) := by
  obtain ⟨ts, ps, qs⟩ := sps_run h
  obtain ⟨t, p, q⟩ := n ts ps
  refine ⟨t, p, fun σ H env U S rl Q hp => q σ H Q (qs σ H env U S rl _ ?_)⟩
  have hp' : Po X.K W (zb b U S) H σ (nlZ X.K (zb b U S) H) Q ((seqF Fs env).bind g) := hp
  refine Po.step hp' fun ds vs H1 hF e1 r1 h1 => v H1 _ σ vs ds Q ((rl.ntb b).new e1) r1 ?_
  cases hg : g ds with
  | ok ys =>
    rw [hg] at h1
    rintro w H2 e2 ⟨p', us, rfl, hn, hl, rr⟩
    exact h1 _ H2 e2 ⟨p', us, rfl, fresh_back e1 hn, hl, rr⟩
  | exc c d => rw [hg] at h1; exact h1
  | bad => rw [hg] at h1; exact h1
end
end Rf
namespace Rf
open PySem PySem.Spec PyProof.Rows L2
def r1 (r : V → Hp → VK → Prop) : RN := fun vs _ H Q => match vs with
  | [x] => r x H Q
  | _ => False
def r2 (r : R2) : RN := fun vs _ H Q => match vs with
  | [x, y] => r x y H Q
  | _ => False
def g1 {α : Type} (f : D → O α) : List D → O α
  | [a] => f a
  | _ => .bad
def g2 {α : Type} (f : D → D → O α) : List D → O α
  | [a, b] => f a b
  | _ => .bad
section
variable {X : Cx} {W : WX} {a c : Expr} {pos : Pos}
theorem node_op {op : Operator} {r : R2} (ho : OpR X (binaryOp op) r) : Node X [a, c] (.BinOp a op c pos) (r2 r) := by
  intro ts h
  cases h with | cons h1 h => cases h with | cons h2 h => cases h with | nil => exact ⟨_, pe_op ho h1 h2, fun σ H Q h => h⟩
theorem node_un {op : UnaryOp} {r : V → Hp → VK → Prop} (ho : UnR X (unaryOp op) r) : Node X [a] (.UnaryOp op a pos) (r1 r) := by
  intro ts h
  cases h with | cons h1 h => cases h with | nil => exact ⟨_, pe_un ho h1, fun σ H Q h => h⟩
theorem node_cmp {op : CmpOp} {r : R2} (ho : OpR X (compareOp op) r) (hm : behindInMarks op c = false) : Node X [a, c] (.Compare a [op] [c] pos) (r2 r) := by
  intro ts h
  cases h with | cons h1 h => cases h with | cons h2 h => cases h with | nil => exact ⟨_, pe_cmpR ho h1 h2 hm, fun σ H Q h => h⟩
theorem node_ix {r : R2} (hr : IxR X r) (hs : PlainIx c) : Node X [a, c] (.Subscript a c pos) (r2 r) := by
  intro ts h
  cases h with | cons h1 h => cases h with | cons h2 h => cases h with | nil => exact ⟨_, pe_ix hr h1 h2 hs, fun σ H Q h => h⟩
end
section
variable {K : PySem.W.Frag} {W : WX}
def V2 (K : PySem.W.Frag) (W : WX) (r : R2) (f : D → D → O D) : Prop := ∀ H Z σ x y d e Q, Nt K H Z → Rp K (vis H Z) x d → Rp K (vis H Z) y e → Po K W Z H σ (rpZ K Z) Q (f d e) → r x y H Q
def V1 (K : PySem.W.Frag) (W : WX) (r : V → Hp → VK → Prop) (f : D → O D) : Prop := ∀ H Z σ x d Q, Nt K H Z → Rp K (vis H Z) x d → Po K W Z H σ (rpZ K Z) Q (f d) → r x H Q
theorem V2.val {r : R2} {f : D → D → O D} (h : V2 K W r f) : Val K W (r2 r) (g2 f) := by
  intro H Z σ vs ds Q n rp hp
  cases rp with
  | nil => exact hp.elim
  | cons p1 rp => cases rp with
    | nil => exact hp.elim
    | cons p2 rp => cases rp with
      | nil => exact h H Z σ _ _ _ _ Q n p1 p2 hp
      | cons _ _ => exact hp.elim
theorem V1.val {r : V → Hp → VK → Prop} {f : D → O D} (h : V1 K W r f) : Val K W (r1 r) (g1 f) := by
  intro H Z σ vs ds Q n rp hp
  cases rp with
  | nil => exact hp.elim
  | cons p1 rp => cases rp with
    | nil => exact h H Z σ _ _ Q n p1 hp
    | cons _ _ => exact hp.elim
def fI (C : Int → Int → Bool) (g : Int → Int → D) : D → D → O D
  | .int i, .int j => if C i j then .ok (g i j) else .bad
  | _, _ => .bad
theorem v2_I {C : Int → Int → Prop} {C' : Int → Int → Bool} {g : Int → Int → V} {g' : Int → Int → D} (hc : ∀ i j, C' i j = true → C i j) (hg : ∀ H i j, Rp K H (g i j) (g' i j)) : V2 K W (rI C g) (fI C' g') := by
  intro H Z σ x y d e Q n h1 h2 hp
  cases h1 <;> try exact hp.elim
  cases h2 <;> try exact hp.elim
  rename_i i j
  simp only [fI] at hp
  cases hcc : C' i j with
  | false => rw [hcc] at hp; exact (by simpa [Po] using hp)
  | true => rw [hcc] at hp; exact ⟨i, j, rfl, rfl, hc i j hcc, hp _ H (Ex.refl H) (hg _ i j)⟩
theorem v2_I0 {g : Int → Int → V} {g' : Int → Int → D} (hg : ∀ H i j, Rp K H (g i j) (g' i j)) : V2 K W (rI0 g) (fI (fun _ _ => true) g') := by
  intro H Z σ x y d e Q n h1 h2 hp
  cases h1 <;> try exact hp.elim
  cases h2 <;> try exact hp.elim
  rename_i i j
  exact ⟨i, j, rfl, rfl, hp _ H (Ex.refl H) (hg _ i j)⟩
theorem Po_new {Z : AS} {H : Hp} {σ : L2.St} {Q : VK} {d : D} (h : Po K W Z H σ (rpZ K Z) Q (.ok d)) {p : Addr} {o : HO} (hn : H p = none) (hr : Rp K (vis (upd H p o) Z) (.ref p) d) : Q (.ref p) (upd H p o) :=
  h _ _ (Ex.new hn) hr
theorem fresh_vis {K : PySem.W.Frag} {H : Hp} {Z : AS} {p : Addr} {o : HO} (n : Nt K H Z) (hn : H p = none) : vis (upd H p o) Z p = some o := vis_in upd_same fun z => (n.hid p z).1 hn
def fAdd : D → D → O D
  | .int i, .int j => .ok (.int (i + j))
  | .str x, .str y => if x.length + y.length ≤ sizeLine then .ok (.str (catS x y)) else .bad
  | .tup xs, .tup ys => if xs.length + ys.length ≤ sizeLine then .ok (.tup (xs ++ ys)) else .bad
  | .lst xs, .lst ys => if xs.length + ys.length ≤ sizeLine then .ok (.lst (xs ++ ys)) else .bad
  | _, _ => .bad
def rAddAll (K : PySem.W.Frag) : R2 := fun x y H Q => ((rI0 (fun i j => V.int (i + j)) x y H Q ∨ (∃ i j, x = .str i ∧ y = .str j ∧ i.length + j.length ≤ sizeLine ∧ Q (.str (i ++ j)) H)) ∨ rCatA K x y H Q) ∨ rCat x y H Q
theorem op_addAll {X : Cx} : OpR X (binaryOp .Add) (rAddAll X.K) := ((op_add.or op_add_str).or op_catA).or op_cat
theorem of_some_vis {H : Hp} {Z : AS} {a : Addr} {o : HO} (h : vis H Z a = some o) : H a = some o := (of_vis h).1
class SqC (p : Prop) (K : outParam PySem.W.Frag) (H : outParam Hp) (a : outParam Addr) (xs : outParam (List V)) : Prop where
  t : p → SqT K H a xs
instance {K : PySem.W.Frag} {H : Hp} {a : Addr} {xs : List V} : SqC (SqT K H a xs) K H a xs := ⟨id⟩
instance {K : PySem.W.Frag} {H : Hp} {a : Addr} {xs : List V} {ds : List D} : SqC (SqQ K H a xs ds) K H a xs := ⟨SqQ.t⟩
theorem SqT.up {p : Prop} {K : PySem.W.Frag} {H : Hp} {Z : AS} {a : Addr} {xs : List V} [c : SqC p K (vis H Z) a xs] (h : p) : SqT K H a xs := ex_t vis_ex (c.t h)
theorem v2_add : V2 K W (rAddAll K) fAdd := by
  intro H Z σ x y d e Q n h1 h2 hp
  cases h1 <;> cases h2 <;> try exact hp.elim
  · exact .inl (.inl (.inl ⟨_, _, rfl, rfl, hp _ H (Ex.refl H) (.int _)⟩))
  · simp only [fAdd, catS_eq] at hp
    split at hp
    · rename_i hl
      exact .inl (.inl (.inr ⟨_, _, rfl, rfl, hl, hp _ H (Ex.refl H) (.str _)⟩))
    · exact hp.elim
  · rename_i a xs ds ha ra b ys es hb rb
    simp only [fAdd] at hp
    split at hp
    · rename_i hl
      have l1 := ra.length
      have l2 := rb.length
      refine .inl (.inr ⟨a, b, xs, ys, rfl, rfl, SqT.up ha, SqT.up hb, by omega, fun e => ?_, fun _ e => ?_, fun _ _ p hn => ?_⟩)
      · subst e; cases ra; exact hp _ H (Ex.refl H) (.tup hb rb)
      · subst e; cases rb; rw [List.append_nil] at hp; exact hp _ H (Ex.refl H) (.tup ha ra)
      · exact Po_new hp hn (.tup (SqQ.of (fresh_vis n hn)) ((ra.append rb).mono (vis_mono (Ex.new hn))))
    · exact hp.elim
  · rename_i a xs ds ha ra b ys es hb rb
    simp only [fAdd] at hp
    split at hp
    · rename_i hl
      have l1 := ra.length
      have l2 := rb.length
      refine .inr ⟨a, b, xs, ys, rfl, rfl, of_some_vis ha, of_some_vis hb, by omega, fun p hn => ?_⟩
      exact Po_new hp hn (.lst (fresh_vis n hn) ((ra.append rb).mono (vis_mono (Ex.new hn))))
    · exact hp.elim
def fSub : D → D → O D := fI (fun _ _ => true) fun i j => .int (i - j)
theorem v2_sub : V2 K W (rI0 fun i j => V.int (i - j)) fSub := v2_I0 fun _ _ _ => .int _
def cMul (i j : Int) : Bool := decide (i.natAbs < 2 ^ 4000) && decide (j.natAbs < 2 ^ 4000)
theorem cMul_ok (i j : Int) (h : cMul i j = true) : CMulW i j := by
  simp only [cMul, Bool.and_eq_true, decide_eq_true_eq] at h
  exact wide_mul h.1 h.2 (by decide) (by decide) (by decide)
def fMulI : D → D → O D := fI cMul fun i j => .int (i * j)
theorem v2_mul : V2 K W (rI CMulW fun i j => V.int (i * j)) fMulI := v2_I cMul_ok fun _ _ _ => .int _
def cDiv (_ j : Int) : Bool := decide (0 < j) && decide (j < 1073741824)
theorem cDiv_ok (i j : Int) (h : cDiv i j = true) : CDiv i j := by
  simp only [cDiv, Bool.and_eq_true, decide_eq_true_eq] at h
  exact h
def fDiv : D → D → O D := fI cDiv fun i j => .int (i / j)
theorem v2_div : V2 K W (rI CDiv fun i j => V.int (i / j)) fDiv := v2_I cDiv_ok fun _ _ _ => .int _
def fMod : D → D → O D := fI (fun _ j => decide (0 < j)) fun i j => .int (i % j)
theorem v2_mod : V2 K W (rI (fun _ j => 0 < j) fun i j => V.int (i % j)) fMod := v2_I (fun _ _ h => of_decide_eq_true h) fun _ _ _ => .int _
def cPow (i j : Int) : Bool := decide (0 ≤ j) && decide (j ≤ 1000) && decide (i.natAbs < 2 ^ 1000)
def CPowW (i j : Int) : Prop := 0 ≤ j ∧ j ≤ 1000 ∧ i.natAbs < 2 ^ 1000
theorem op_powW {X : Cx} : OpR X (binaryOp .Pow) (rI CPowW fun i j => .int (i ^ j.toNat)) := opI fun i j _ _ _ _ _ hc q => by
  refine pow_int hc.1 ?_ q
  have hb : Builtin.Int.intBits i ≤ 1000 := by
    have h1 : i.natAbs.log2 + 1 ≤ 1000 ∨ i.natAbs = 0 := by
      by_cases h0 : i.natAbs = 0
      · exact .inr h0
      · left
        have := (Nat.log2_lt h0).mpr hc.2.2
        omega
    rcases h1 with h1 | h1
    · unfold Builtin.Int.intBits
      split <;> omega
    · have : i = 0 := by omega
      subst this
      decide
  obtain ⟨h1, h2, _⟩ := hc
  have h3 : (Builtin.Int.intBits i : Int) ≤ 1000 := by exact_mod_cast hb
  have h4 : (Builtin.Int.intBits i : Int) * j ≤ 1000 * 1000 := Int.mul_le_mul h3 h2 h1 (by decide)
  exact Int.le_trans h4 (by decide)
theorem cPow_ok (i j : Int) (h : cPow i j = true) : CPowW i j := by
  simp only [cPow, Bool.and_eq_true, decide_eq_true_eq] at h
  exact ⟨h.1.1, h.1.2, h.2⟩
def fPow : D → D → O D := fI cPow fun i j => .int (i ^ j.toNat)
theorem v2_pow : V2 K W (rI CPowW fun i j => V.int (i ^ j.toNat)) fPow := v2_I cPow_ok fun _ _ _ => .int _
def fNeg : D → O D
  | .int i => .ok (.int (-i))
  | _ => .bad
theorem v1_neg : V1 K W (rU fun i => V.int (-i)) fNeg := by
  intro H Z σ x d Q n h hp
  cases h <;> try exact hp.elim
  exact ⟨_, rfl, hp _ H (Ex.refl H) (.int _)⟩
end
end Rf
namespace Rf
open PySem PySem.Spec PyProof.Rows L2
mutual
def pd : Nat → D → Bool
  | _, .non => true
  | _, .bl _ => true
  | _, .int _ => true
  | _, .str x => okL x.cps.toList
  | 0, .tup _ => false
  | n + 1, .tup xs => pdL n xs
  | 0, .lst _ => false
  | n + 1, .lst xs => pdL n xs
  | _, .dic _ => false
  | _, .ins _ _ => false
  | _, .exc _ _ => false
  | _, .scr _ => false
  | _, .fls _ => false
  | _, .dtt _ => false
  | _, .fdc => false
  | _, .clo _ _ _ => false
  | _, .clv _ _ _ => false
  | _, .slt _ _ => false
def pdL : Nat → List D → Bool
  | _, [] => true
  | n, x :: xs => pd n x && pdL n xs
end
mutual
def toP : D → PyData
  | .non => .none
  | .bl b => .bool b
  | .int i => .int i
  | .str x => .str x
  | .tup xs => .tuple (toPL xs)
  | .lst xs => .list (toPL xs)
  | .dic _ => .none
  | .ins _ _ => .none
  | .exc _ _ => .none
  | .scr _ => .none
  | .fls _ => .none
  | .dtt _ => .none
  | .fdc => .none
  | .clo _ _ _ => .none
  | .clv _ _ _ => .none
  | .slt _ _ => .none
def toPL : List D → List PyData
  | [] => []
  | x :: xs => toP x :: toPL xs
end
mutual
def dEq : D → D → Bool
  | .non, .non => true
  | .bl a, .bl b => a == b
  | .bl a, .int j => (if a then 1 else 0) == j
  | .int i, .bl b => i == (if b then 1 else 0)
  | .int i, .int j => i == j
  | .str x, .str y => nbeq x.cps.toList y.cps.toList
  | .lst xs, .lst ys => dEqL xs ys
  | .tup xs, .tup ys => dEqL xs ys
  | _, _ => false
def dEqL : List D → List D → Bool
  | [], [] => true
  | x :: xs, y :: ys => dEq x y && dEqL xs ys
  | _, _ => false
end
mutual
theorem eqv_eq : ∀ (n m : Nat) (d e : D), pd n d = true → pd m e = true → PyData.eqv (toP d) (toP e) = dEq d e
  | n, m, d, e, h1, h2 => by
    match d, e, h1, h2 with
    | .dic _, _, h1, _ => simp [pd] at h1
    | .dtt _, _, h1, _ => simp [pd] at h1
    | .fdc, _, h1, _ => simp [pd] at h1
    | .clo _ _ _, _, h1, _ => simp [pd] at h1
    | .clv _ _ _, _, h1, _ => simp [pd] at h1
    | .slt _ _, _, h1, _ => simp [pd] at h1
    | .ins _ _, _, h1, _ => simp [pd] at h1
    | .exc _ _, _, h1, _ => simp [pd] at h1
    | .scr _, _, h1, _ => simp [pd] at h1
    | _, .dic _, _, h2 => simp [pd] at h2
    | _, .dtt _, _, h2 => simp [pd] at h2
    | _, .fdc, _, h2 => simp [pd] at h2
    | _, .clo _ _ _, _, h2 => simp [pd] at h2
    | _, .clv _ _ _, _, h2 => simp [pd] at h2
    | _, .slt _ _, _, h2 => simp [pd] at h2
    | _, .ins _ _, _, h2 => simp [pd] at h2
    | _, .exc _ _, _, h2 => simp [pd] at h2
    | _, .scr _, _, h2 => simp [pd] at h2
    | .tup xs, .tup ys, h1, h2 =>
      cases n with
      | zero => simp [pd] at h1
      | succ n =>
        cases m with
        | zero => simp [pd] at h2
        | succ m => simpa [toP, PyData.eqv, dEq] using eqvL_eq n m xs ys (by simpa [pd] using h1) (by simpa [pd] using h2)
    | .lst xs, .lst ys, h1, h2 =>
      cases n with
      | zero => simp [pd] at h1
      | succ n =>
        cases m with
        | zero => simp [pd] at h2
        | succ m => simpa [toP, PyData.eqv, dEq] using eqvL_eq n m xs ys (by simpa [pd] using h1) (by simpa [pd] using h2)
    | .non, .non, _, _ => rfl
    | .non, .bl _, _, _ => rfl
    | .non, .int _, _, _ => rfl
    | .non, .str _, _, _ => rfl
    | .non, .tup _, _, _ => rfl
    | .non, .lst _, _, _ => rfl
    | .bl _, .non, _, _ => rfl
    | .bl _, .bl _, _, _ => rfl
    | .bl _, .int _, _, _ => rfl
    | .bl _, .str _, _, _ => rfl
    | .bl _, .tup _, _, _ => rfl
    | .bl _, .lst _, _, _ => rfl
    | .int _, .non, _, _ => rfl
    | .int _, .bl _, _, _ => rfl
    | .int _, .int _, _, _ => rfl
    | .int _, .str _, _, _ => rfl
    | .int _, .tup _, _, _ => rfl
    | .int _, .lst _, _, _ => rfl
    | .str _, .non, _, _ => rfl
    | .str _, .bl _, _, _ => rfl
    | .str _, .int _, _, _ => rfl
    | .str x, .str y, _, _ => exact Rf.beq_nbeq x y
    | .str _, .tup _, _, _ => rfl
    | .str _, .lst _, _, _ => rfl
    | .tup _, .non, _, _ => rfl
    | .tup _, .bl _, _, _ => rfl
    | .tup _, .int _, _, _ => rfl
    | .tup _, .str _, _, _ => rfl
    | .tup _, .lst _, _, _ => rfl
    | .lst _, .non, _, _ => rfl
    | .lst _, .bl _, _, _ => rfl
    | .lst _, .int _, _, _ => rfl
    | .lst _, .str _, _, _ => rfl
    | .lst _, .tup _, _, _ => rfl
theorem eqvL_eq : ∀ (n m : Nat) (d e : List D), pdL n d = true → pdL m e = true → PyData.eqvAll (toPL d) (toPL e) = dEqL d e
  | n, m, [], [], _, _ => by simp [toPL, PyData.eqvAll, dEqL]
  | n, m, [], _ :: _, _, _ => by simp [toPL, PyData.eqvAll, dEqL]
  | n, m, _ :: _, [], _, _ => by simp [toPL, PyData.eqvAll, dEqL]
  | n, m, x :: xs, y :: ys, h1, h2 => by
    simp only [pdL, Bool.and_eq_true] at h1 h2
    simp only [toPL, PyData.eqvAll, dEqL, eqv_eq n m x y h1.1 h2.1, eqvL_eq n m xs ys h1.2 h2.2]
end
section
variable {K : PySem.W.Frag} {H : Hp}
mutual
theorem pd_dp : ∀ (n : Nat) (d : D) (v : V), pd n d = true → Rp K H v d → Dp K H v (toP d)
  | n, .non, _, _, .non => by simp only [toP]; exact .non
  | n, .bl _, _, _, .bl b => by simp only [toP]; exact .bl b
  | n, .int _, _, _, .int i => by simp only [toP]; exact .int i
  | n, .str _, _, _, .str x => by simp only [toP]; exact .str x
  | 0, .tup _, _, h, .tup _ _ => by simp [pd] at h
  | n + 1, .tup xs, _, h, .tup a r => by simp only [toP]; exact .tup a (pdL_dp n xs _ (by simpa [pd] using h) r)
  | 0, .lst _, _, h, .lst _ _ => by simp [pd] at h
  | n + 1, .lst xs, _, h, .lst a r => by simp only [toP]; exact .lst (SqL.of a) (pdL_dp n xs _ (by simpa [pd] using h) r)
  | n, .dic _, _, h, _ => by simp [pd] at h
  | n, .ins _ _, _, h, _ => by simp [pd] at h
  | n, .exc _ _, _, h, _ => by simp [pd] at h
  | n, .scr _, _, h, _ => by simp [pd] at h
theorem pdL_dp : ∀ (n : Nat) (d : List D) (v : List V), pdL n d = true → RpL K H v d → DpAll K H v (toPL d)
  | n, [], _, _, .nil => by simp only [toPL]; exact .nil
  | n, x :: xs, _, h, .cons r t => by
    simp only [pdL, Bool.and_eq_true] at h
    simp only [toPL]
    exact .cons (pd_dp n x _ h.1 r) (pdL_dp n xs _ h.2 t)
end
mutual
theorem pd_lay : ∀ (n : Nat) (d : D), pd n d = true → (toP d).canLay0 = true ∧ (toP d).depth ≤ n
  | n, .non, _ => by simp [toP, PyData.canLay0, PyData.depth]
  | n, .bl _, _ => by simp [toP, PyData.canLay0, PyData.depth]
  | n, .int _, _ => by simp [toP, PyData.canLay0, PyData.depth]
  | n, .str _, h => by simpa [toP, PyData.canLay0, PyData.depth, pd, okL_eq] using h
  | 0, .tup _, h => by simp [pd] at h
  | n + 1, .tup xs, h => by
    have := pdL_lay n xs (by simpa [pd] using h)
    simp only [toP, PyData.canLay0, PyData.depth]
    exact ⟨this.1, by omega⟩
  | 0, .lst _, h => by simp [pd] at h
  | n + 1, .lst xs, h => by
    have := pdL_lay n xs (by simpa [pd] using h)
    simp only [toP, PyData.canLay0, PyData.depth]
    exact ⟨this.1, by omega⟩
  | n, .dic _, h => by simp [pd] at h
  | n, .ins _ _, h => by simp [pd] at h
  | n, .exc _ _, h => by simp [pd] at h
  | n, .scr _, h => by simp [pd] at h
theorem pdL_lay : ∀ (n : Nat) (d : List D), pdL n d = true → PyData.canLayAll0 (toPL d) = true ∧ PyData.depthAll (toPL d) ≤ n
  | n, [], _ => by simp [toPL, PyData.canLayAll0, PyData.depthAll]
  | n, x :: xs, h => by
    simp only [pdL, Bool.and_eq_true] at h
    have h1 := pd_lay n x h.1
    have h2 := pdL_lay n xs h.2
    simp only [toPL, PyData.canLayAll0, PyData.depthAll]
    exact ⟨by simp [h1.1, h2.1], by omega⟩
end
theorem pd_shaped {d : D} (h : pd 60 d = true) : SeqAt.shaped (toP d) = true := by
  have := pd_lay 60 d h
  unfold SeqAt.shaped
  simp only [this.1, Bool.true_and, decide_eq_true_eq]
  omega
end
def fEq (neg : Bool) : D → D → O D := fun d e => if pd 60 d && pd 60 e then .ok (.bl (if neg then !dEq d e else dEq d e)) else .bad
section
variable {K : PySem.W.Frag} {W : WX}
theorem v2_eq : V2 K W (rEqD K) (fEq false) := by
  intro H Z σ x y d e Q n h1 h2 hp
  simp only [fEq] at hp
  split at hp
  · rename_i hh
    simp only [Bool.and_eq_true] at hh
    refine ⟨toP d, toP e, pd_dp 60 d x hh.1 (h1.mono vis_ex), pd_dp 60 e y hh.2 (h2.mono vis_ex), pd_shaped hh.1, pd_shaped hh.2, ?_⟩
    rw [eqv_eq 60 60 d e hh.1 hh.2]
    exact hp _ H (Ex.refl H) (.bl _)
  · exact hp.elim
theorem v2_ne : V2 K W (rNeD K) (fEq true) := by
  intro H Z σ x y d e Q n h1 h2 hp
  simp only [fEq] at hp
  split at hp
  · rename_i hh
    simp only [Bool.and_eq_true] at hh
    refine ⟨toP d, toP e, pd_dp 60 d x hh.1 (h1.mono vis_ex), pd_dp 60 e y hh.2 (h2.mono vis_ex), pd_shaped hh.1, pd_shaped hh.2, ?_⟩
    rw [eqv_eq 60 60 d e hh.1 hh.2]
    exact hp _ H (Ex.refl H) (.bl _)
  · exact hp.elim
def fLt : D → D → O D := fI (fun _ _ => true) fun i j => .bl (decide (i < j))
def fGt : D → D → O D := fI (fun _ _ => true) fun i j => .bl (decide (j < i))
def fGe : D → D → O D := fI (fun _ _ => true) fun i j => .bl (decide (j ≤ i))
theorem v2_lt : V2 K W (rI0 fun i j => V.bl (decide (i < j))) fLt := v2_I0 fun _ _ _ => .bl _
theorem v2_gt : V2 K W (rI0 fun i j => V.bl (decide (j < i))) fGt := v2_I0 fun _ _ _ => .bl _
theorem v2_ge : V2 K W (rI0 fun i j => V.bl (decide (j ≤ i))) fGe := v2_I0 fun _ _ _ => .bl _
end
end Rf
namespace Rf
open PySem PySem.Spec PyProof.Rows L2
def rInQ (K : PySem.W.Frag) (neg : Bool) : R2 := fun x y H Q => ∃ d ds, Dp K H x d ∧ (Dp K H y (.list ds) ∨ Dp K H y (.tuple ds)) ∧ SeqAt.shaped d = true ∧ PyData.canLayAll0 ds = true ∧ Q (.bl (if neg then !ds.any fun z => PyData.eqv z d else ds.any fun z => PyData.eqv z d)) H
section
variable {X : Cx}
theorem op_inQ (hu : X.A.units + 65 < cLine) : OpR X (compareOp .In) (rInQ X.K false) := by
  intro pins s σ H x y v u Q I rx ry h
  obtain ⟨d, ds, hd, he, sd, se, q⟩ := h
  obtain ⟨as, r1⟩ := Dp.reads I d x v hd rx
  rcases he with he | he
  · obtain ⟨bs, r2⟩ := Dp.reads I (.list ds) y u he ry
    exact SeqAt.in_list_reads r2 r1 se (SeqAt.canLay_of_shaped sd) (room_in_shaped sd hu) ⟨.bl _, H, I, rfl, q⟩
  · obtain ⟨bs, r2⟩ := Dp.reads I (.tuple ds) y u he ry
    exact SeqAt.in_tuple_reads r2 r1 se (SeqAt.canLay_of_shaped sd) (room_in_shaped sd hu) ⟨.bl _, H, I, rfl, q⟩
def rDInQ (neg : Bool) : R2 := fun x y H Q => ∃ a o, y = .ref a ∧ DGet H a x o ∧ Q (.bl (if neg then !o.isSome else o.isSome)) H
theorem op_dinQ (hu : X.A.units + 1 < cLine) : OpR X (compareOp .In) (rDInQ false) := by
  intro pins s σ H x y v u Q I rx ry h
  obtain ⟨a, o, rfl, g, q⟩ := h
  cases ry
  exact d_in hu I g rx fun s' I' => ⟨.bl _, H, I', rfl, q⟩
def rSgn (neg : Bool) : R2 := fun x y H Q => ∃ (c : Nat) (z : Str), x = .str ⟨#[c]⟩ ∧ y = .str z ∧ Q (.bl (if neg then !decide (c ∈ z.cps.toList) else decide (c ∈ z.cps.toList))) H
theorem op_sgn : OpR X (compareOp .In) (rSgn false) := op_in_sign
def rInAll (K : PySem.W.Frag) (neg : Bool) : R2 := fun x y H Q => (rInQ K neg x y H Q ∨ rDInQ neg x y H Q) ∨ rSgn neg x y H Q
theorem op_inAll (hu : X.A.units + 65 < cLine) : OpR X (compareOp .In) (rInAll X.K false) := ((op_inQ hu).or (op_dinQ (by omega))).or op_sgn
end
def keyOf : D → Option Key
  | .int i => some (.inl i)
  | .str x => some (.inr x)
  | _ => none
def hasK (k : Key) : List (Key × D) → Bool
  | [] => false
  | (j, _) :: r => @decide (j = k) (Qk.dec j k) || hasK k r
def inL (x : D) : List D → Bool
  | [] => false
  | y :: ys => dEq y x || inL x ys
def ng (neg b : Bool) : Bool := if neg then !b else b
def fIn (neg : Bool) (x : D) : D → O D
  | .tup ys => if pd 59 x && pdL 59 ys then .ok (.bl (ng neg (inL x ys))) else .bad
  | .lst ys => if pd 59 x && pdL 59 ys then .ok (.bl (ng neg (inL x ys))) else .bad
  | .fls ys => if pd 59 x && pdL 59 ys then .ok (.bl (ng neg (inL x ys))) else .bad
  | .dic kvs => match keyOf x with
    | some k => .ok (.bl (ng neg (hasK k kvs)))
    | none => .bad
  | .str z => match x with
    | .str ⟨⟨[c]⟩⟩ => .ok (.bl (ng neg (decide (c ∈ z.cps.toList))))
    | _ => .bad
  | _ => .bad
theorem inL_eq (x : D) (n m : Nat) (hx : pd n x = true) : ∀ ys : List D, pdL m ys = true → ((toPL ys).any fun z => PyData.eqv z (toP x)) = inL x ys
  | [], _ => by simp [toPL, inL]
  | y :: ys, h => by
    simp only [pdL, Bool.and_eq_true] at h
    simp only [toPL, inL, List.any_cons, eqv_eq m n y x h.1 hx, inL_eq x n m hx ys h.2]
theorem hasK_eq (k : Key) : ∀ {kvs : List (Key × V)} {ds : List (Key × D)}, kvs.map (·.1) = ds.map (·.1) → (valV kvs k).isSome = hasK k ds
  | [], [], _ => rfl
  | [], _ :: _, h => by simp at h
  | _ :: _, [], h => by simp at h
  | (a, v) :: kvs, (b, d) :: ds, h => by
    simp only [List.map_cons, List.cons.injEq] at h
    obtain ⟨rfl, h⟩ := h
    by_cases e : a = k
    · rw [valV_pos (p := (a, v)) e]; simp [hasK, e]
    · rw [valV_neg (p := (a, v)) e, hasK_eq k h]; simp [hasK, e]
section
variable {K : PySem.W.Frag} {W : WX}
theorem pd_mono60 {x : D} (h : pd 59 x = true) : SeqAt.shaped (toP x) = true := by
  have := pd_lay 59 x h
  unfold SeqAt.shaped
  simp only [this.1, Bool.true_and, decide_eq_true_eq]
  omega
theorem v2_in (neg : Bool) : V2 K W (rInAll K neg) (fIn neg) := by
  intro H Z σ x y d e Q n h1 h2 hp
  cases h2 with
  | non => exact hp.elim
  | bl _ => exact hp.elim
  | int _ => exact hp.elim
  | ins _ _ _ => exact hp.elim
  | exc _ _ _ => exact hp.elim
  | scr _ => exact hp.elim
  | dtt _ _ _ => exact hp.elim
  | fdc _ _ => exact hp.elim
  | clo _ _ => exact hp.elim
  | clv _ _ _ _ => exact hp.elim
  | slt _ _ _ => exact hp.elim
  | str z =>
    simp only [fIn] at hp
    split at hp
    · rename_i c
      cases h1
      exact .inr ⟨c, z, rfl, rfl, hp _ H (Ex.refl H) (.bl _)⟩
    · exact hp.elim
  | @tup a vs ds ha r =>
    simp only [fIn] at hp
    split at hp
    · rename_i hh
      simp only [Bool.and_eq_true] at hh
      refine .inl (.inl ⟨toP d, toPL ds, pd_dp 59 d x hh.1 (h1.mono vis_ex), .inr (.tup (SqT.up ha) (pdL_dp 59 ds vs hh.2 (r.mono vis_ex))), pd_mono60 hh.1, (pdL_lay 59 ds hh.2).1, ?_⟩)
      rw [inL_eq d 59 59 hh.1 ds hh.2]
      exact hp _ H (Ex.refl H) (.bl _)
    · exact hp.elim
  | @lst a vs ds ha r =>
    simp only [fIn] at hp
    split at hp
    · rename_i hh
      simp only [Bool.and_eq_true] at hh
      refine .inl (.inl ⟨toP d, toPL ds, pd_dp 59 d x hh.1 (h1.mono vis_ex), .inl (.lst (SqL.of (of_some_vis ha)) (pdL_dp 59 ds vs hh.2 (r.mono vis_ex))), pd_mono60 hh.1, (pdL_lay 59 ds hh.2).1, ?_⟩)
      rw [inL_eq d 59 59 hh.1 ds hh.2]
      exact hp _ H (Ex.refl H) (.bl _)
    · exact hp.elim
  | @fls a od vs ds ha r =>
    simp only [fIn] at hp
    split at hp
    · rename_i hh
      simp only [Bool.and_eq_true] at hh
      refine .inl (.inl ⟨toP d, toPL ds, pd_dp 59 d x hh.1 (h1.mono vis_ex), .inl (.lst (sql_frz (of_some_vis ha)) (pdL_dp 59 ds vs hh.2 (r.mono vis_ex))), pd_mono60 hh.1, (pdL_lay 59 ds hh.2).1, ?_⟩)
      rw [inL_eq d 59 59 hh.1 ds hh.2]
      exact hp _ H (Ex.refl H) (.bl _)
    · exact hp.elim
  | @dic a kvs ds ha hk r =>
    simp only [fIn] at hp
    split at hp
    · rename_i k hkk
      have hx : x = kV k := by
        cases h1 <;> simp [keyOf] at hkk <;> subst hkk <;> rfl
      refine .inl (.inr ⟨a, valV kvs k, rfl, .inl ⟨kvs, k, ex_rd vis_ex ha, hx, rfl⟩, ?_⟩)
      rw [hasK_eq k hk]
      exact hp _ H (Ex.refl H) (.bl _)
    · exact hp.elim
end
def asB : O D → O Bool
  | .ok (.bl b) => .ok b
  | .ok _ => .bad
  | .exc c d => .exc c d
  | .bad => .bad
section
variable {X : Cx} {M : List Nat} {W : WX} {b : Bool} {e : Expr}
theorem Po_asB {Z : AS} {H : Hp} {σ : L2.St} {Q : Bool → Hp → Prop} {x : O D} (h : Po X.K W Z H σ eqZ Q (asB x)) : Po X.K W Z H σ (rpZ X.K Z) (fun v H' => ∃ c, v = .bl c ∧ Q c H') x := by
  cases x with
  | ok d =>
    intro v H' ex rp
    cases rp <;> try exact h.elim
    exact ⟨_, rfl, h _ H' ex rfl⟩
  | exc c d => exact h
  | bad => exact h.elim
theorem st_val {F : Env → O D} (h : SP X M W b e F) (he : ∀ whole, isTrue e X.env whole = (do let v ← whole; standAt e.pos; holding [v] (truthy v)) := by intro _; rfl) : STp X M W b e (fun env => asB (F env)) := by
  obtain ⟨t, p, q⟩ := h
  exact ⟨_, pt_val p he, fun σ H env U S r Q hp => q σ H env U S r _ (Po_asB hp)⟩
theorem st_cmp {op : CmpOp} {r : R2} {f : D → D → O D} {a c : Expr} {pos : Pos} {Fa Fc : Env → O D} (ho : OpR X (compareOp op) r) (v : V2 X.K W r f) (ha : SP X M W b a Fa) (hc : SP X M W b c Fc) (hm : behindInMarks op c = false := by first | exact nobehind _ (by decide) (by decide) | rfl) :
    STp X M W b (.Compare a [op] [c] pos) (fun env => asB (nd (g2 f) [Fa, Fc] env)) := by
  obtain ⟨ts, ps, qs⟩ := sps_run (SPs.cons ha (SPs.cons hc SPs.nil))
  cases ps with | cons p1 ps => cases ps with | cons p2 ps => cases ps with | nil =>
  refine ⟨_, pt_cmpR ho p1 p2 hm, fun σ H env U S rl Q hp => ?_⟩
  have h0 := Po_asB hp
  have h1 : Po X.K W (zb b U S) H σ (rpZ X.K (zb b U S)) (fun v H' => ∃ c, v = .bl c ∧ Q c H') ((seqF [Fa, Fc] env).bind (g2 f)) := h0
  have := qs σ H env U S rl (fun vs H' => r2 r vs σ H' fun v H' => ∃ c, v = .bl c ∧ Q c H') (Po.step h1 fun ds vs H1 hF e1 r1 h1 => v.val H1 _ σ vs ds _ ((rl.ntb b).new e1) r1 h1)
  exact this
theorem sp_cmp {op : CmpOp} {r : R2} {f : D → D → O D} {a c : Expr} {pos : Pos} {Fa Fc : Env → O D} (ho : OpR X (compareOp op) r) (v : V2 X.K W r f) (ha : SP X M W b a Fa) (hc : SP X M W b c Fc) (hm : behindInMarks op c = false := by first | exact nobehind _ (by decide) (by decide) | rfl) :
    SP X M W b (.Compare a [op] [c] pos) (nd (g2 f) [Fa, Fc]) := sp_node (node_cmp ho hm) v.val (.cons ha (.cons hc .nil))
theorem sp_op {op : Operator} {r : R2} {f : D → D → O D} {a c : Expr} {pos : Pos} {Fa Fc : Env → O D} (ho : OpR X (binaryOp op) r) (v : V2 X.K W r f) (ha : SP X M W b a Fa) (hc : SP X M W b c Fc) :
    SP X M W b (.BinOp a op c pos) (nd (g2 f) [Fa, Fc]) := sp_node (node_op ho) v.val (.cons ha (.cons hc .nil))
theorem sp_un {op : UnaryOp} {r : V → Hp → VK → Prop} {f : D → O D} {a : Expr} {pos : Pos} {Fa : Env → O D} (ho : UnR X (unaryOp op) r) (v : V1 X.K W r f) (ha : SP X M W b a Fa) :
    SP X M W b (.UnaryOp op a pos) (nd (g1 f) [Fa]) := sp_node (node_un ho) v.val (.cons ha .nil)
def bAnd (F G : Env → O Bool) : Env → O Bool := fun env => (F env).bind fun a => if a then G env else .ok false
def bOr (F G : Env → O Bool) : Env → O Bool := fun env => (F env).bind fun a => if a then .ok true else G env
def bNot (F : Env → O Bool) : Env → O Bool := fun env => (F env).bind fun a => .ok (!a)
def vAnd (F G : Env → O D) : Env → O D := fun env => (asB (F env)).bind fun a => if a then G env else .ok (.bl false)
def vOr (F G : Env → O D) : Env → O D := fun env => (asB (F env)).bind fun a => if a then .ok (.bl true) else G env
def vNot (F : Env → O D) : Env → O D := fun env => (asB (F env)).bind fun a => .ok (.bl (!a))
def vIf (C : Env → O Bool) (F G : Env → O D) : Env → O D := fun env => (C env).bind fun a => if a then F env else G env
def SW (X : Cx) (M : List Nat) (W : WX) (b : Bool) (e : Expr) (F : Env → O Bool) : Prop :=
  ∃ t : TT, PW X e t ∧ ∀ σ H env U S, Rel X.K M U S H σ env → ∀ Q, Po X.K W (zb b U S) H σ eqZ Q (F env) → t σ H Q
theorem SW.st {F : Env → O Bool} (h : SW X M W b e F) : STp X M W b e F := by
  obtain ⟨t, p, q⟩ := h
  exact ⟨t, p.pt, q⟩
variable {a c : Expr} {rest : List Expr} {pos : Pos} {F G : Env → O Bool} {FD GD : Env → O D}
theorem sw_and1 (h : STp X M W b a F) : SW X M W b (.BoolOp .And [a] pos) F := by
  obtain ⟨t, p, q⟩ := h
  exact ⟨t, pw_and1 p, q⟩
theorem sw_or1 (h : STp X M W b a F) : SW X M W b (.BoolOp .Or [a] pos) F := by
  obtain ⟨t, p, q⟩ := h
  exact ⟨t, pw_or1 p, q⟩
theorem sw_and (h : STp X M W b a F) (h2 : SW X M W b (.BoolOp .And (c :: rest) pos) G) : SW X M W b (.BoolOp .And (a :: c :: rest) pos) (bAnd F G) := by
  obtain ⟨t, p, q⟩ := h
  obtain ⟨t2, p2, q2⟩ := h2
  refine ⟨_, pw_and p p2, fun σ H env U S r Q hp => q σ H env U S r _ ?_⟩
  have hp' : Po X.K W (zb b U S) H σ eqZ Q ((F env).bind fun a => if a then G env else .ok false) := hp
  refine Po.step hp' fun k v H1 hF e1 r1 h1 => ?_
  obtain rfl : v = k := r1
  cases v with
  | true => exact q2 σ H1 env U S (r.mono e1) Q h1
  | false => exact h1 false H1 (Ex.refl H1) rfl
theorem sw_or (h : STp X M W b a F) (h2 : SW X M W b (.BoolOp .Or (c :: rest) pos) G) : SW X M W b (.BoolOp .Or (a :: c :: rest) pos) (bOr F G) := by
  obtain ⟨t, p, q⟩ := h
  obtain ⟨t2, p2, q2⟩ := h2
  refine ⟨_, pw_or p p2, fun σ H env U S r Q hp => q σ H env U S r _ ?_⟩
  have hp' : Po X.K W (zb b U S) H σ eqZ Q ((F env).bind fun a => if a then .ok true else G env) := hp
  refine Po.step hp' fun k v H1 hF e1 r1 h1 => ?_
  obtain rfl : v = k := r1
  cases v with
  | true => exact h1 true H1 (Ex.refl H1) rfl
  | false => exact q2 σ H1 env U S (r.mono e1) Q h1
theorem st_not (h : STp X M W b a F) : STp X M W b (.UnaryOp .Not a pos) (bNot F) := by
  obtain ⟨t, p, q⟩ := h
  refine ⟨_, pt_not p, fun σ H env U S r Q hp => q σ H env U S r _ ?_⟩
  have hp' : Po X.K W (zb b U S) H σ eqZ Q ((F env).bind fun a => .ok (!a)) := hp
  refine Po.step hp' fun k v H1 hF e1 r1 h1 => ?_
  obtain rfl : v = k := r1
  exact h1 _ H1 (Ex.refl H1) rfl
theorem sp_if {C : Env → O Bool} {t f : Expr} (hc : STp X M W b c C) (h1 : SP X M W b t FD) (h2 : SP X M W b f GD) : SP X M W b (.IfExp c t f pos) (vIf C FD GD) := by
  obtain ⟨tc, pc, qc⟩ := hc
  obtain ⟨t1, p1, q1⟩ := h1
  obtain ⟨t2, p2, q2⟩ := h2
  refine ⟨_, pe_ifExp pc p1 p2, fun σ H env U S r Q hp => qc σ H env U S r _ ?_⟩
  have hp' : Po X.K W (zb b U S) H σ (rpZ X.K (zb b U S)) Q ((C env).bind fun a => if a then FD env else GD env) := hp
  refine Po.step hp' fun k v H1 hF e1 r1 h1 => ?_
  obtain rfl : v = k := r1
  cases v with
  | true => exact q1 σ H1 env U S (r.mono e1) Q h1
  | false => exact q2 σ H1 env U S (r.mono e1) Q h1
end
end Rf
namespace Rf
open PySem PySem.Spec PyProof.Rows L2
def noStar : List Expr → Bool
  | [] => true
  | .Starred _ _ :: _ => false
  | _ :: es => noStar es
theorem noStar_head {e : Expr} {es : List Expr} (h : noStar (e :: es) = true) (env : PySem.Env) : starEach (e :: es) env = (false, eval e env) :: starEach es env ∧ noStar es = true := by
  cases e <;> first
    | exact ⟨rfl, h⟩
    | (simp [noStar] at h)
theorem noStar_plain : ∀ {es : List Expr}, noStar es = true → ∀ (pos : Pos) (env : PySem.Env), (backTo pos (starEach es env)).any (·.1) = false
  | [], _, _, _ => rfl
  | e :: es, h, pos, env => by
    obtain ⟨h1, h2⟩ := noStar_head h env
    rw [h1]
    have := noStar_plain h2 pos env
    simp only [backTo] at this ⊢
    simpa using this
section
variable {X : Cx} {M : List Nat} {W : WX} {b : Bool}
theorem pa_of {es : List Expr} {ts : List TE} (h : PEs X es ts) (hs : noStar es = true) : ∃ t : TA, PA X es t ∧ ∀ σ H k, sq ts σ H k → t σ H k := by
  induction h with
  | nil => exact ⟨_, pa_nil, fun σ H k h => h⟩
  | @cons e es t ts h1 h2 ih =>
    obtain ⟨e1, e2⟩ := noStar_head hs X.env
    obtain ⟨u, p, q⟩ := ih e2
    refine ⟨tCons t (sq ts), pa_cons h1 ?_ e1, fun σ H k h => h⟩
    exact ⟨fun pos pins s σ H Q I hw => p.run pos pins s σ H Q I (q σ H Q hw)⟩
theorem node_tup {es : List Expr} {k : Nat} {pos : Pos} (hs : noStar es = true) : Node X es (.Tuple es k pos) (fun vs _ H Q => vs.length ≤ sizeLine ∧ ∀ p, H p = none → Q (.ref p) (upd H p (.tup vs))) := by
  intro ts h
  obtain ⟨t, p, q⟩ := pa_of h hs
  exact ⟨_, pe_tup p, fun σ H Q hq => q σ H _ hq⟩
theorem node_lst {es : List Expr} {pos : Pos} (hs : noStar es = true) : Node X es (.List es pos) (fun vs _ H Q => vs.length ≤ sizeLine ∧ ∀ p, H p = none → Q (.ref p) (upd H p (.lst vs))) := by
  intro ts h
  obtain ⟨t, p, q⟩ := pa_of h hs
  exact ⟨_, pe_lst p, fun σ H Q hq => q σ H _ hq⟩
def gTupD (ds : List D) : O D := if ds.length ≤ sizeLine then .ok (.tup ds) else .bad
def gLstD (ds : List D) : O (List D) := if ds.length ≤ sizeLine then .ok ds else .bad
variable {K : PySem.W.Frag}
theorem val_tup : Val K W (fun vs _ H Q => vs.length ≤ sizeLine ∧ ∀ p, H p = none → Q (.ref p) (upd H p (.tup vs))) gTupD := by
  intro H Z σ vs ds Q n rp hp
  simp only [gTupD] at hp
  split at hp
  · rename_i hl
    refine ⟨by rw [rp.length]; exact hl, fun p hn => ?_⟩
    exact Po_new hp hn (.tup (SqQ.of (fresh_vis n hn)) (rp.mono (vis_mono (Ex.new hn))))
  · exact hp.elim
theorem vl_lst : ValL K W (fun vs _ H Q => vs.length ≤ sizeLine ∧ ∀ p, H p = none → Q (.ref p) (upd H p (.lst vs))) gLstD := by
  intro H Z σ vs ds Q n rp hp
  simp only [gLstD] at hp
  split at hp
  · rename_i hl
    refine ⟨by rw [rp.length]; exact hl, fun p hn => ?_⟩
    exact hp _ _ (Ex.new hn) ⟨p, _, rfl, hn, upd_same, rp.mono (vis_mono (Ex.new hn))⟩
  · exact hp.elim
theorem sp_tup {es : List Expr} {Fs : List (Env → O D)} {k : Nat} {pos : Pos} (h : SPs X M W b es Fs) (hs : noStar es = true := by rfl) : SP X M W b (.Tuple es k pos) (nd gTupD Fs) := sp_node (node_tup hs) val_tup h
theorem spl_lst {es : List Expr} {Fs : List (Env → O D)} {pos : Pos} (h : SPs X M W b es Fs) (hs : noStar es = true := by rfl) : SPL X M W b (.List es pos) (nd gLstD Fs) := spl_node (node_lst hs) vl_lst h
def rIxAll (K : PySem.W.Frag) : R2 := fun x y H Q => (rIxL K x y H Q ∨ rIxT K x y H Q) ∨ rIxS x y H Q
theorem ix_all : IxR X (rIxAll X.K) := (ix_list.or ix_tup).or ix_str
def fIx : D → D → O D
  | .tup xs, .int i => match atI xs i with
    | some d => .ok d
    | none => .bad
  | .lst xs, .int i => match atI xs i with
    | some d => .ok d
    | none => .bad
  | .fls xs, .int i => match atI xs i with
    | some d => .ok d
    | none => .bad
  | .scr ns, .int i => match atI ns i with
    | some d => .ok (.int d)
    | none => .bad
  | .str z, .int i => if z.length ≤ sizeLine then match atI z.cps.toList i with
    | some c => .ok (.str ⟨#[c]⟩)
    | none => .bad else .bad
  | _, _ => .bad
theorem RpL.at {H : Hp} {vs : List V} {ds : List D} {i : Int} {d : D} (r : RpL K H vs ds) (h : atI ds i = some d) : ∃ v, atI vs i = some v ∧ Rp K H v d := by
  unfold atI at h ⊢
  rw [r.length]
  cases e : ixN ds.length i with
  | none => rw [e] at h; simp at h
  | some j =>
    rw [e] at h
    obtain ⟨v, h1, h2⟩ := r.get (i := j) (by simpa using h)
    exact ⟨v, by simpa using h1, h2⟩
theorem v2_ix : V2 K W (rIxAll K) fIx := by
  intro H Z σ x y d e Q n h1 h2 hp
  cases h2 <;> try (cases h1 <;> exact hp.elim)
  rename_i i
  cases h1 <;> try exact hp.elim
  · rename_i z
    simp only [fIx] at hp
    split at hp
    · rename_i hz
      split at hp
      · rename_i c hc
        exact .inr ⟨z, i, c, rfl, rfl, hz, hc, hp _ H (Ex.refl H) (.str _)⟩
      · exact hp.elim
    · exact hp.elim
  · rename_i a vs ds ha r
    simp only [fIx] at hp
    split at hp
    · rename_i d' hd
      obtain ⟨v, hv, rv⟩ := RpL.at r hd
      exact .inl (.inr ⟨a, vs, i, v, rfl, rfl, SqT.up ha, hv, hp v H (Ex.refl H) rv⟩)
    · exact hp.elim
  · rename_i a vs ds ha r
    simp only [fIx] at hp
    split at hp
    · rename_i d' hd
      obtain ⟨v, hv, rv⟩ := RpL.at r hd
      exact .inl (.inl ⟨a, vs, i, v, rfl, rfl, SqL.of (of_some_vis ha), hv, hp v H (Ex.refl H) rv⟩)
    · exact hp.elim
  · rename_i a ns ha
    simp only [fIx] at hp
    split at hp
    · rename_i d' hd
      refine .inl (.inl ⟨a, _, i, .int d', rfl, rfl, ex_l vis_ex ha, ?_, hp _ H (Ex.refl H) (.int _)⟩)
      unfold atI at hd ⊢
      rw [List.length_map]
      cases e : ixN ns.length i with
      | none => rw [e] at hd; simp at hd
      | some j => rw [e] at hd; simp at hd ⊢; exact hd
    · exact hp.elim
  · rename_i a od vs ds ha r
    simp only [fIx] at hp
    split at hp
    · rename_i d' hd
      obtain ⟨v, hv, rv⟩ := RpL.at r hd
      exact .inl (.inl ⟨a, vs, i, v, rfl, rfl, sql_frz (of_some_vis ha), hv, hp v H (Ex.refl H) rv⟩)
    · exact hp.elim
theorem sp_ix {a c : Expr} {pos : Pos} {Fa Fc : Env → O D} (ha : SP X M W b a Fa) (hc : SP X M W b c Fc) (hs : PlainIx c := by intro _ _; rfl) : SP X M W b (.Subscript a c pos) (nd (g2 fIx) [Fa, Fc]) := sp_node (node_ix ix_all hs) v2_ix.val (.cons ha (.cons hc .nil))
def cutD {α : Type} (xs : List α) (lo hi : Option Int) : List α := (xs.drop (HT.sIx xs.length 0 lo)).take (HT.sIx xs.length xs.length hi - HT.sIx xs.length 0 lo)
def rSlAll (K : PySem.W.Frag) : V → Option Int → Option Int → Hp → VK → Prop := fun x lo hi H Q => (rSlL K x lo hi H Q ∨ rSlA K x lo hi H Q) ∨ rSlS x lo hi H Q
theorem SlR.or {r r' : V → Option Int → Option Int → Hp → VK → Prop} (h : L2.SlR X r) (h' : L2.SlR X r') : L2.SlR X (fun x lo hi H Q => r x lo hi H Q ∨ r' x lo hi H Q) := by
  intro pins s σ H x v vl vu lo hi sl Q I rx hs pl pu q
  rcases q with q | q
  · exact h pins s σ H x v vl vu lo hi sl Q I rx hs pl pu q
  · exact h' pins s σ H x v vl vu lo hi sl Q I rx hs pl pu q
theorem sl_all : L2.SlR X (rSlAll X.K) := SlR.or (SlR.or sl_list sl_tupA) sl_str
def fSl (x : D) (lo hi : Option Int) : O D := match x with
  | .tup xs => .ok (.tup (cutD xs lo hi))
  | .lst xs => .ok (.lst (cutD xs lo hi))
  | .fls xs => .ok (.lst (cutD xs lo hi))
  | .str z => if z.length ≤ sizeLine then .ok (.str (cutS z lo hi)) else .bad
  | _ => .bad
def fSlL (x : D) (lo hi : Option Int) : O (List D) := match x with
  | .lst xs => .ok (cutD xs lo hi)
  | .fls xs => .ok (cutD xs lo hi)
  | _ => .bad
theorem RpL.drop {H : Hp} : ∀ {vs : List V} {ds : List D} (n : Nat), RpL K H vs ds → RpL K H (vs.drop n) (ds.drop n)
  | _, _, 0, r => r
  | _, _, _ + 1, .nil => .nil
  | _, _, n + 1, .cons _ t => RpL.drop n t
theorem RpL.take {H : Hp} : ∀ {vs : List V} {ds : List D} (n : Nat), RpL K H vs ds → RpL K H (vs.take n) (ds.take n)
  | _, _, 0, _ => .nil
  | _, _, _ + 1, .nil => .nil
  | _, _, n + 1, .cons r t => .cons r (RpL.take n t)
theorem RpL.cut {H : Hp} {vs : List V} {ds : List D} (lo hi : Option Int) (r : RpL K H vs ds) : RpL K H (cutV vs lo hi) (cutD ds lo hi) := by
  unfold cutV cutD
  rw [r.length]
  exact (r.drop _).take _
theorem cut_whole {ds : List D} {lo hi : Option Int} (h : HT.sIx ds.length 0 lo = 0 ∧ HT.sIx ds.length ds.length hi = ds.length) : cutD ds lo hi = ds := by
  unfold cutD
  rw [h.1, h.2]
  simp
theorem v_sl {H : Hp} {Z : AS} {σ : L2.St} {x : V} {d : D} {lo hi : Option Int} {Q : VK} (n : Nt K H Z) (h : Rp K (vis H Z) x d) (hp : Po K W Z H σ (rpZ K Z) Q (fSl d lo hi)) : rSlAll K x lo hi H Q := by
  cases h <;> try exact hp.elim
  · rename_i z
    simp only [fSl] at hp
    split at hp
    · rename_i hz
      exact .inr ⟨z, rfl, hz, hp _ H (Ex.refl H) (.str _)⟩
    · exact hp.elim
  · rename_i a vs ds ha r
    refine .inl (.inr ⟨a, vs, rfl, SqT.up ha, fun e => ?_, fun _ p hn => ?_⟩)
    · rw [r.length] at e
      refine hp _ H (Ex.refl H) ?_
      rw [cut_whole e]
      exact .tup ha r
    · exact Po_new hp hn (.tup (SqQ.of (fresh_vis n hn)) ((r.cut lo hi).mono (vis_mono (Ex.new hn))))
  · rename_i a vs ds ha r
    refine .inl (.inl ⟨a, vs, rfl, SqL.of (of_some_vis ha), fun p hn => ?_⟩)
    exact Po_new hp hn (.lst (fresh_vis n hn) ((r.cut lo hi).mono (vis_mono (Ex.new hn))))
  · rename_i a od vs ds ha r
    refine .inl (.inl ⟨a, vs, rfl, sql_frz (of_some_vis ha), fun p hn => ?_⟩)
    exact Po_new hp hn (.lst (fresh_vis n hn) ((r.cut lo hi).mono (vis_mono (Ex.new hn))))
def SPO (X : Cx) (M : List Nat) (W : WX) (b : Bool) (e : Option Expr) (F : Env → O (Option Int)) : Prop :=
  ∃ t : TO, PO X e t ∧ ∀ σ H env U S, Rel X.K M U S H σ env → ∀ Q, Po X.K W (zb b U S) H σ (fun _ (o o' : Option Int) => o = o') Q (F env) → t σ H Q
def oNone : Env → O (Option Int) := fun _ => .ok none
def asI : O D → O (Option Int)
  | .ok (.int i) => .ok (some i)
  | .ok _ => .bad
  | .exc c d => .exc c d
  | .bad => .bad
def oSome (F : Env → O D) : Env → O (Option Int) := fun env => asI (F env)
theorem spo_none : SPO X M W b none oNone := ⟨_, po_none, fun σ H env U S r Q hp => hp none H (Ex.refl H) rfl⟩
theorem spo_some {e : Expr} {F : Env → O D} (h : SP X M W b e F) : SPO X M W b (some e) (oSome F) := by
  obtain ⟨t, p, q⟩ := h
  refine ⟨_, po_some p, fun σ H env U S r Q hp => q σ H env U S r _ ?_⟩
  unfold oSome at hp
  cases hF : F env with
  | ok d =>
    rw [hF] at hp
    intro v H' ex rp
    cases rp <;> try exact hp.elim
    exact ⟨_, rfl, hp _ H' ex rfl⟩
  | exc c d => rw [hF] at hp; exact hp
  | bad => rw [hF] at hp; exact hp.elim
def eSl (F : Env → O D) (L R : Env → O (Option Int)) : Env → O D := fun env => (F env).bind fun d => (L env).bind fun lo => (R env).bind fun hi => fSl d lo hi
def eSlL (F : Env → O D) (L R : Env → O (Option Int)) : Env → O (List D) := fun env => (F env).bind fun d => (L env).bind fun lo => (R env).bind fun hi => fSlL d lo hi
theorem sp_sl {e : Expr} {lo hi : Option Expr} {F : Env → O D} {L R : Env → O (Option Int)} {p2 pos : Pos} (h : SP X M W b e F) (hl : SPO X M W b lo L) (hr : SPO X M W b hi R) : SP X M W b (.Subscript e (.Slice lo hi none p2) pos) (eSl F L R) := by
  obtain ⟨t, p, q⟩ := h
  obtain ⟨tl, pl, ql⟩ := hl
  obtain ⟨tr, pr, qr⟩ := hr
  refine ⟨_, pe_slice sl_all p pl pr, fun σ H env U S r Q hp => q σ H env U S r _ ?_⟩
  have hp' : Po X.K W (zb b U S) H σ (rpZ X.K (zb b U S)) Q ((F env).bind fun d => (L env).bind fun lo => (R env).bind fun hi => fSl d lo hi) := hp
  refine Po.step hp' fun d v H1 _ e1 r1 h1 => ql σ H1 env U S (r.mono e1) _ (Po.step h1 fun lo lo' H2 _ e2 r2 h2 => qr σ H2 env U S (r.mono (e1.trans e2)) _ (Po.step h2 fun hi hi' H3 _ e3 r3 h3 => ?_))
  subst r2 r3
  exact v_sl ((r.ntb b).new ((e1.trans e2).trans e3)) (r1.mono (vis_mono (e2.trans e3))) h3
end
end Rf
namespace Rf
open PySem PySem.Spec PyProof.Rows L2
section
variable {X : Cx} {M : List Nat} {W : WX} {b : Bool} {K : PySem.W.Frag}
def rc (r : List V → Hp → VK → Prop) : RN := fun vs _ H Q => r vs H Q
theorem node_callB {id : String} {r : List V → Hp → VK → Prop} {x : Str} {p pos : Pos} {e : Expr} {es : List Expr} (hc : CallR X (.builtin id) r) (hg : Gl X x) (hm : X.mg x = none) (hv : bootBuiltins x = some (.builtin id)) (hs : noStar (e :: es) = true) (hn : x ≠ "__name__" := by decide) (hdb : (x == ("__debug__" : Str)) = false := by decide) :
    Node X (e :: es) (.Call (.Name x p) (e :: es) [] pos) (rc r) := by
  intro ts h
  obtain ⟨t, pa, q⟩ := pa_of h hs
  obtain ⟨h1, h2⟩ := noStar_head hs X.env
  exact ⟨_, pe_callB hc hg hm hv pa hn hdb h1 (noStar_plain h2 pos X.env), fun σ H Q hq => q σ H _ hq⟩
theorem node_callTy {T : String} {r : List V → Hp → VK → Prop} {x : Str} {p pos : Pos} {e : Expr} {es : List Expr} (hc : CallR X (.type T) r) (hg : Gl X x) (hm : X.mg x = none) (hv : bootBuiltins x = some (.type T)) (hs : noStar (e :: es) = true) (hn : x ≠ "__name__" := by decide) (hdb : (x == ("__debug__" : Str)) = false := by decide) :
    Node X (e :: es) (.Call (.Name x p) (e :: es) [] pos) (rc r) := by
  intro ts h
  obtain ⟨t, pa, q⟩ := pa_of h hs
  obtain ⟨h1, h2⟩ := noStar_head hs X.env
  exact ⟨_, pe_callTy hc hg hm hv pa hn hdb h1 (noStar_plain h2 pos X.env), fun σ H Q hq => q σ H _ hq⟩
def VC1 (K : PySem.W.Frag) (W : WX) (r : List V → Hp → VK → Prop) (f : D → O D) : Prop := ∀ H Z σ x d Q, Nt K H Z → Rp K (vis H Z) x d → Po K W Z H σ (rpZ K Z) Q (f d) → r [x] H Q
def VC1L (K : PySem.W.Frag) (W : WX) (r : List V → Hp → VK → Prop) (f : D → O (List D)) : Prop := ∀ H Z σ x d Q, Nt K H Z → Rp K (vis H Z) x d → Po K W Z H σ (nlZ K Z H) Q (f d) → r [x] H Q
def VC2 (K : PySem.W.Frag) (W : WX) (r : List V → Hp → VK → Prop) (f : D → D → O D) : Prop := ∀ H Z σ x y d e Q, Nt K H Z → Rp K (vis H Z) x d → Rp K (vis H Z) y e → Po K W Z H σ (rpZ K Z) Q (f d e) → r [x, y] H Q
theorem VC1.val {r : List V → Hp → VK → Prop} {f : D → O D} (h : VC1 K W r f) : Val K W (rc r) (g1 f) := by
  intro H Z σ vs ds Q n rp hp
  cases rp with
  | nil => exact hp.elim
  | cons p1 rp => cases rp with
    | nil => exact h H Z σ _ _ Q n p1 hp
    | cons _ _ => exact hp.elim
theorem VC1L.val {r : List V → Hp → VK → Prop} {f : D → O (List D)} (h : VC1L K W r f) : ValL K W (rc r) (g1 f) := by
  intro H Z σ vs ds Q n rp hp
  cases rp with
  | nil => exact hp.elim
  | cons p1 rp => cases rp with
    | nil => exact h H Z σ _ _ Q n p1 hp
    | cons _ _ => exact hp.elim
theorem VC2.val {r : List V → Hp → VK → Prop} {f : D → D → O D} (h : VC2 K W r f) : Val K W (rc r) (g2 f) := by
  intro H Z σ vs ds Q n rp hp
  cases rp with
  | nil => exact hp.elim
  | cons p1 rp => cases rp with
    | nil => exact hp.elim
    | cons p2 rp => cases rp with
      | nil => exact h H Z σ _ _ _ _ Q n p1 p2 hp
      | cons _ _ => exact hp.elim
section
variable {x : Str} {p pos : Pos} {e e' : Expr} {F F' : Env → O D} {f : D → O D} {f2 : D → D → O D} {fl : D → O (List D)} {r : List V → Hp → VK → Prop}
theorem sp_b1 {id : String} (hc : CallR X (.builtin id) r) (v : VC1 X.K W r f) (hg : Gl X x) (hm : X.mg x = none) (hv : bootBuiltins x = some (.builtin id)) (h : SP X M W b e F) (hs : noStar [e] = true := by rfl) (hn : x ≠ "__name__" := by decide) (hdb : (x == ("__debug__" : Str)) = false := by decide) :
    SP X M W b (.Call (.Name x p) [e] [] pos) (nd (g1 f) [F]) := sp_node (node_callB hc hg hm hv hs hn hdb) v.val (.cons h .nil)
theorem sp_b2 {id : String} (hc : CallR X (.builtin id) r) (v : VC2 X.K W r f2) (hg : Gl X x) (hm : X.mg x = none) (hv : bootBuiltins x = some (.builtin id)) (h : SP X M W b e F) (h' : SP X M W b e' F') (hs : noStar [e, e'] = true := by rfl) (hn : x ≠ "__name__" := by decide) (hdb : (x == ("__debug__" : Str)) = false := by decide) :
    SP X M W b (.Call (.Name x p) [e, e'] [] pos) (nd (g2 f2) [F, F']) := sp_node (node_callB hc hg hm hv hs hn hdb) v.val (.cons h (.cons h' .nil))
theorem sp_t1 {T : String} (hc : CallR X (.type T) r) (v : VC1 X.K W r f) (hg : Gl X x) (hm : X.mg x = none) (hv : bootBuiltins x = some (.type T)) (h : SP X M W b e F) (hs : noStar [e] = true := by rfl) (hn : x ≠ "__name__" := by decide) (hdb : (x == ("__debug__" : Str)) = false := by decide) :
    SP X M W b (.Call (.Name x p) [e] [] pos) (nd (g1 f) [F]) := sp_node (node_callTy hc hg hm hv hs hn hdb) v.val (.cons h .nil)
theorem spl_t1 {T : String} (hc : CallR X (.type T) r) (v : VC1L X.K W r fl) (hg : Gl X x) (hm : X.mg x = none) (hv : bootBuiltins x = some (.type T)) (h : SP X M W b e F) (hs : noStar [e] = true := by rfl) (hn : x ≠ "__name__" := by decide) (hdb : (x == ("__debug__" : Str)) = false := by decide) :
    SPL X M W b (.Call (.Name x p) [e] [] pos) (nd (g1 fl) [F]) := spl_node (node_callTy hc hg hm hv hs hn hdb) v.val (.cons h .nil)
end
def rLenAll (K : PySem.W.Frag) : List V → Hp → VK → Prop := fun xs H Q => (∃ x n, xs = [x] ∧ LenV K x H n ∧ Q (.int n) H) ∨ (∃ a kvs, xs = [V.ref a] ∧ H a = some (.dK kvs) ∧ Q (.int kvs.length) H)
theorem call_lenAll : CallR X (.builtin "len") (rLenAll X.K) := call_len.or call_lenD
def fLen : D → O D
  | .tup xs => .ok (.int xs.length)
  | .lst xs => .ok (.int xs.length)
  | .scr ns => .ok (.int ns.length)
  | .fls xs => .ok (.int xs.length)
  | .str x => if x.length ≤ sizeLine then .ok (.int x.length) else .bad
  | _ => .bad
theorem vc_len : VC1 K W (rLenAll K) fLen := by
  intro H Z σ x d Q n h hp
  cases h <;> try exact hp.elim
  · rename_i z
    simp only [fLen] at hp
    split at hp
    · rename_i hz
      exact .inl ⟨_, z.length, rfl, ⟨hz, rfl⟩, hp _ H (Ex.refl H) (.int _)⟩
    · exact hp.elim
  · rename_i a vs ds ha r
    refine .inl ⟨_, vs.length, rfl, .inr ⟨vs, SqT.up ha, rfl⟩, ?_⟩
    rw [r.length]
    exact hp _ H (Ex.refl H) (.int _)
  · rename_i a vs ds ha r
    refine .inl ⟨_, vs.length, rfl, .inl ⟨vs, SqL.of (of_some_vis ha), rfl⟩, ?_⟩
    rw [r.length]
    exact hp _ H (Ex.refl H) (.int _)
  · rename_i a ns ha
    refine .inl ⟨_, (ns.map V.int).length, rfl, .inl ⟨_, ex_l vis_ex ha, rfl⟩, ?_⟩
    rw [List.length_map]
    exact hp _ H (Ex.refl H) (.int _)
  · rename_i a od vs ds ha r
    refine .inl ⟨_, vs.length, rfl, .inl ⟨vs, sql_frz (of_some_vis ha), rfl⟩, ?_⟩
    rw [r.length]
    exact hp _ H (Ex.refl H) (.int _)
def fAbs : D → O D
  | .int i => .ok (.int (if i < 0 then -i else i))
  | _ => .bad
theorem vc_abs : VC1 K W (fun xs H Q => ∃ i, xs = [.int i] ∧ Q (.int (if i < 0 then -i else i)) H) fAbs := by
  intro H Z σ x d Q n h hp
  cases h <;> try exact hp.elim
  exact ⟨_, rfl, hp _ H (Ex.refl H) (.int _)⟩
def rIntAll : List V → Hp → VK → Prop := fun xs H Q => ((∃ i, xs = [.int i] ∧ Q (.int i) H) ∨ ∃ k, xs = [.bl k] ∧ Q (.int (if k then 1 else 0)) H) ∨ (∃ a n, xs = [.str a] ∧ PySem.intText? a = some n ∧ a.length ≤ 640 ∧ Q (.int n) H)
theorem call_intAll : CallR X (.type "int") rIntAll := call_int1.or call_int_str
def fInt : D → O D
  | .int i => .ok (.int i)
  | .bl k => .ok (.int (if k then 1 else 0))
  | .str a => if a.length ≤ 640 then match PySem.intText? a with
    | some n => .ok (.int n)
    | none => .bad else .bad
  | _ => .bad
theorem vc_int : VC1 K W rIntAll fInt := by
  intro H Z σ x d Q n h hp
  cases h <;> try exact hp.elim
  · exact .inl (.inr ⟨_, rfl, hp _ H (Ex.refl H) (.int _)⟩)
  · exact .inl (.inl ⟨_, rfl, hp _ H (Ex.refl H) (.int _)⟩)
  · simp only [fInt] at hp
    split at hp
    · rename_i hl
      split at hp
      · rename_i m hm
        exact .inr ⟨_, m, rfl, hm, hl, hp _ H (Ex.refl H) (.int _)⟩
      · exact hp.elim
    · exact hp.elim
def fMin2 : D → D → O D := fI (fun _ _ => true) fun i j => .int (if j < i then j else i)
def fMax2 : D → D → O D := fI (fun _ _ => true) fun i j => .int (if j > i then j else i)
theorem vc_min2 : VC2 K W (fun xs H Q => ∃ i j, xs = [.int i, .int j] ∧ Q (.int (if j < i then j else i)) H) fMin2 := by
  intro H Z σ x y d e Q n h1 h2 hp
  cases h1 <;> try exact hp.elim
  cases h2 <;> try exact hp.elim
  exact ⟨_, _, rfl, hp _ H (Ex.refl H) (.int _)⟩
theorem vc_max2 : VC2 K W (fun xs H Q => ∃ i j, xs = [.int i, .int j] ∧ Q (.int (if j > i then j else i)) H) fMax2 := by
  intro H Z σ x y d e Q n h1 h2 hp
  cases h1 <;> try exact hp.elim
  cases h2 <;> try exact hp.elim
  exact ⟨_, _, rfl, hp _ H (Ex.refl H) (.int _)⟩
def fListL : D → O (List D)
  | .tup xs => .ok xs
  | .lst xs => .ok xs
  | .fls xs => .ok xs
  | _ => .bad
theorem vc_list : VC1L K W (fun xs H Q => ∃ p ys, xs = [.ref p] ∧ (SqL K H p ys ∨ SqT K H p ys) ∧ ∀ l, H l = none → Q (.ref l) (upd H l (.lst ys))) fListL := by
  intro H Z σ x d Q n h hp
  cases h <;> try exact hp.elim
  · rename_i a vs ds ha r
    exact ⟨a, vs, rfl, .inr (SqT.up ha), fun p hn => hp _ _ (Ex.new hn) ⟨p, _, rfl, hn, upd_same, r.mono (vis_mono (Ex.new hn))⟩⟩
  · rename_i a vs ds ha r
    exact ⟨a, vs, rfl, .inl (SqL.of (of_some_vis ha)), fun p hn => hp _ _ (Ex.new hn) ⟨p, _, rfl, hn, upd_same, r.mono (vis_mono (Ex.new hn))⟩⟩
  · rename_i a od vs ds ha r
    exact ⟨a, vs, rfl, .inl (sql_frz (of_some_vis ha)), fun p hn => hp _ _ (Ex.new hn) ⟨p, _, rfl, hn, upd_same, r.mono (vis_mono (Ex.new hn))⟩⟩
def bls : List D → Option (List Bool)
  | [] => some []
  | .bl k :: r => (bls r).map (k :: ·)
  | _ :: _ => none
theorem bls_ok {H : Hp} : ∀ {vs : List V} {ds : List D} {bs : List Bool}, RpL K H vs ds → bls ds = some bs → vs = bs.map V.bl
  | _, _, _, .nil, h => by simp [bls] at h; subst h; rfl
  | _, _, _, .cons r t, h => by
    cases r <;> simp [bls] at h
    obtain ⟨bs, h1, rfl⟩ := h
    rw [bls_ok t h1]; rfl
def fAll : D → O D
  | .lst xs => match bls xs with
    | some bs => .ok (.bl (bs.all id))
    | none => .bad
  | _ => .bad
theorem vc_all : VC1 K W (rAll K) fAll := by
  intro H Z σ x d Q n h hp
  cases h <;> try exact hp.elim
  rename_i a vs ds ha r
  simp only [fAll] at hp
  split at hp
  · rename_i bs hb
    have hv := bls_ok r hb
    subst hv
    exact ⟨a, bs, rfl, SqL.of (of_some_vis ha), hp _ H (Ex.refl H) (.bl _)⟩
  · exact hp.elim
inductive Ty where
  | b (n : String)
  | own (c : Str)
  deriving DecidableEq
def tyD : D → Ty
  | .non => .b "NoneType"
  | .bl _ => .b "bool"
  | .int _ => .b "int"
  | .str _ => .b "str"
  | .tup _ => .b "tuple"
  | .lst _ => .b "list"
  | .dic _ => .b "dict"
  | .ins c _ => .own c
  | .exc c _ => .own c
  | .scr _ => .b "list"
  | .fls _ => .b "list"
  | .dtt _ => .own "dict"
  | .fdc => .b "dict"
  | .clo _ _ _ => .own "function"
  | .clv _ _ _ => .own "function"
  | .slt c _ => .own c
end
end Rf
namespace Rf
open PySem PySem.Spec PyProof.Rows L2
def PoE {α β : Type} (K : PySem.W.Frag) (M : List Nat) (W : WX) (U : AS) (S : Nat → AS) (H : Hp) (σ : L2.St) (rel : (Nat → AS) → Hp → β → α → Prop) (Q : β → Hp → Prop) : R α → Prop
  | .ok a env' => ∀ v H' S', Post K M U S H σ S' H' env' → rel S' H' v a → Q v H'
  | .exc c d env' => ∀ dx v H' S', Post K M U S H σ S' H' env' → H' dx = some (.xd [("value", v)]) → ¬ zo U S' dx → Rp K (vis H' (zo U S')) v d → W (.ref (He.ga K c)) (some dx) σ H'
  | .bad => False
abbrev rpE (K : PySem.W.Frag) (U : AS) : (Nat → AS) → Hp → V → D → Prop := fun S' H' v d => Rp K (vis H' (zo U S')) v d
abbrev rlE (K : PySem.W.Frag) (U : AS) : (Nat → AS) → Hp → List V → List D → Prop := fun S' H' v d => RpL K (vis H' (zo U S')) v d
abbrev eqE : (Nat → AS) → Hp → Bool → Bool → Prop := fun _ _ b c => b = c
abbrev un (U T : AS) : AS := fun a => U a ∨ T a
def PoO (K : PySem.W.Frag) (M : List Nat) (W : WX) (U : AS) (S : Nat → AS) (H : Hp) (σ : L2.St) (Q : VK) : R D → Prop
  | .ok d env' => ∀ v H' S' T, Post K M U S H σ S' H' env' → Rel K M (un U T) S' H' σ env' → Ow K H' v d T → (∀ a, T a → ¬ U a) → (∀ a, T a → (∃ j, S j a) ∨ H a = none) → Q v H'
  | .exc c d env' => ∀ dx v H' S', Post K M U S H σ S' H' env' → H' dx = some (.xd [("value", v)]) → ¬ zo U S' dx → Rp K (vis H' (zo U S')) v d → W (.ref (He.ga K c)) (some dx) σ H'
  | .bad => False
def SE (X : Cx) (M : List Nat) (W : WX) (e : Expr) (F : Env → R D) : Prop :=
  ∃ t : TE, PE X e t ∧ ∀ σ H env U S, Rel X.K M U S H σ env → ∀ Q, PoE X.K M W U S H σ (rpE X.K U) Q (F env) → t σ H Q
def SO (X : Cx) (M : List Nat) (W : WX) (e : Expr) (F : Env → R D) : Prop :=
  ∃ t : TE, PE X e t ∧ ∀ σ H env U S, Rel X.K M U S H σ env → ∀ Q, PoO X.K M W U S H σ Q (F env) → t σ H Q
def STe (X : Cx) (M : List Nat) (W : WX) (e : Expr) (F : Env → R Bool) : Prop :=
  ∃ t : TT, PT X e t ∧ ∀ σ H env U S, Rel X.K M U S H σ env → ∀ Q, PoE X.K M W U S H σ eqE Q (F env) → t σ H Q
section
variable {α β γ δ : Type} {K : PySem.W.Frag} {M : List Nat} {W : WX} {U : AS} {S : Nat → AS} {H : Hp} {σ : L2.St} {env : Env}
theorem PoE.up {rel : (Nat → AS) → Hp → δ → β → Prop} {Q : δ → Hp → Prop} {S1 : Nat → AS} {H1 : Hp} {e1 : Env} {y : R β} (p : Post K M U S H σ S1 H1 e1) (h : PoE K M W U S H σ rel Q y) : PoE K M W U S1 H1 σ rel Q y := by
  cases y with
  | ok b e => exact fun v H' S' q r => h v H' S' (p.trans q) r
  | exc c d e => exact fun dx v H' S' q x z r => h dx v H' S' (p.trans q) x z r
  | bad => exact h
theorem PoE.step {rel1 : (Nat → AS) → Hp → γ → α → Prop} {rel2 : (Nat → AS) → Hp → δ → β → Prop} {Q : δ → Hp → Prop} {Q1 : γ → Hp → Prop} {x : R α} {f : α → Env → R β} (h : PoE K M W U S H σ rel2 Q (x.bind f))
    (k : ∀ a env1 v H1 S1, x = .ok a env1 → Post K M U S H σ S1 H1 env1 → rel1 S1 H1 v a → PoE K M W U S1 H1 σ rel2 Q (f a env1) → Q1 v H1) : PoE K M W U S H σ rel1 Q1 x := by
  cases x with
  | ok a e => exact fun v H1 S1 p r => k a e v H1 S1 rfl p r (PoE.up p h)
  | exc c d e => exact h
  | bad => exact h
theorem PoE.pure {rel : (Nat → AS) → Hp → δ → β → Prop} {rel0 : Hp → δ → β → Prop} {Q : δ → Hp → Prop} {y : O β} (r : Rel K M U S H σ env) (h : PoE K M W U S H σ rel Q (y.at env)) (hr : ∀ H' v a, Ex H H' → rel0 H' v a → rel S H' v a) : Po K W (zo U S) H σ rel0 Q y := by
  cases y with
  | ok b => exact fun v H' ex rr => h v H' S (r.post ex) (hr H' v b ex rr)
  | exc c d => exact fun dx v H' ex nz x rr => h dx v H' S (r.post ex) x nz rr
  | bad => exact h
end
section
variable {K : PySem.W.Frag} {M : List Nat} {U T : AS} {S : Nat → AS} {H H' : Hp} {σ : L2.St} {env : Env}
theorem Rel.out_eq {U' : AS} (r : Rel K M U S H σ env) (h : ∀ a, U' a ↔ U a) : Rel K M U' S H σ env := by
  have : U' = U := funext fun a => propext (h a)
  subst this
  exact r
theorem Rel.hide (r : Rel K M U S H σ env) (e : Ex H H') (f : ∀ a, T a → H a = none) (n : Hd H' T) : Rel K M (un U T) S H' σ env where
  own := (r.mono e).own
  frz := fun i d hi he => by
    obtain ⟨v, h1, h2⟩ := r.frz i d hi he
    refine ⟨v, h1, h2.mono fun a o t h => ?_⟩
    obtain ⟨h3, h4⟩ := of_vis h
    refine vis_in (e.at h3 t) fun z => ?_
    rcases z with (z | z) | z
    · exact h4 (.inl z)
    · rw [f a z] at h3; cases h3
    · exact h4 (.inr z)
  dis := r.dis
  out := fun i a z u => by
    rcases u with u | u
    · exact r.out i a z u
    · exact (r.nt.hid a (.inr ⟨i, z⟩)).1 (f a u)
  nt := Nt.of (r.nt.new e).tab fun a z => by
    rcases z with (z | z) | z
    · exact (r.nt.new e).hid a (.inl z)
    · exact n a z
    · exact (r.nt.new e).hid a (.inr z)
  len := r.len
end
section
variable {X : Cx} {M : List Nat} {W : WX} {e : Expr}
def lift (F : Env → O D) : Env → R D := fun env => (F env).at env
def liftB (F : Env → O Bool) : Env → R Bool := fun env => (F env).at env
theorem SP.se {F : Env → O D} (h : SP X M W true e F) : SE X M W e (lift F) := by
  obtain ⟨t, p, q⟩ := h
  refine ⟨t, p, fun σ H env U S r Q hp => q σ H env U S r Q ?_⟩
  rw [zb_true]
  exact PoE.pure r hp fun _ _ _ _ h => h
theorem STp.ste {F : Env → O Bool} (h : STp X M W true e F) : STe X M W e (liftB F) := by
  obtain ⟨t, p, q⟩ := h
  refine ⟨t, p, fun σ H env U S r Q hp => q σ H env U S r Q ?_⟩
  rw [zb_true]
  exact PoE.pure r hp fun _ _ _ _ h => h
theorem STp.look {F : Env → O Bool} (h : STp X M W false e F) : STp X M W true e (fun env => noX (F env)) := by
  obtain ⟨t, p, q⟩ := h
  refine ⟨t, p, fun σ H env U S r Q hp => q σ H env U S r Q ?_⟩
  dsimp only at hp
  cases hF : F env with
  | ok d => rw [hF] at hp; exact hp
  | exc c d => rw [hF] at hp; exact hp.elim
  | bad => rw [hF] at hp; exact hp.elim
def liftL (F : Env → O (List D)) : Env → R D := fun env => match F env with
  | .ok ds => if immL ds then .ok (.lst ds) env else .bad
  | .exc c d => .bad
  | .bad => .bad
theorem immL_ow {K : PySem.W.Frag} {H : Hp} : ∀ {vs : List V} {ds : List D}, immL ds = true → RpL K H vs ds → OwL K H vs ds (fun _ => False)
  | _, _, _, .nil => .nil fun _ h => h
  | _, _, i, .cons r t => by
    simp only [Rf.immL, Bool.and_eq_true] at i
    exact .cons (T := fun _ => False) (R := fun _ => False) (.leaf i.1 r fun _ h => h) (immL_ow i.2 t) (fun _ h => h.elim) fun b => by simp
theorem SPL.so {b : Bool} {F : Env → O (List D)} (h : SPL X M W b e F) : SO X M W e (liftL F) := by
  obtain ⟨t, p, q⟩ := h
  refine ⟨t, p, fun σ H env U S r Q hp => q σ H env U S r Q ?_⟩
  unfold liftL at hp
  cases hF : F env with
  | ok ds =>
    rw [hF] at hp
    simp only at hp
    cases hi : immL ds with
    | false => rw [hi] at hp; exact (show False by simpa [PoO] using hp).elim
    | true =>
      rw [hi] at hp
      rintro v H' ex ⟨p, vs, rfl, hn, hl, rp⟩
      have ow : Ow X.K H' (.ref p) (.lst ds) (fun a => a = p) := .lst hl (immL_ow hi (rp.mono vis_ex)) (fun z => z) (fun b => by simp)
      refine hp _ H' S _ (r.post ex) (r.hide ex (fun a e => by subst e; exact hn) ow.nt) ow ?_ ?_
      · rintro a rfl z
        exact (r.nt.hid _ (.inl z)).1 hn
      · rintro a rfl
        exact .inr hn
  | exc c d => rw [hF] at hp; exact hp.elim
  | bad => rw [hF] at hp; exact hp.elim
inductive SEs (X : Cx) (M : List Nat) (W : WX) : List Expr → List (Env → R D) → Prop
  | nil : SEs X M W [] []
  | cons {e : Expr} {es : List Expr} {F : Env → R D} {Fs : List (Env → R D)} : SE X M W e F → SEs X M W es Fs → SEs X M W (e :: es) (F :: Fs)
def seqR : List (Env → R D) → Env → R (List D)
  | [], env => .ok [] env
  | F :: Fs, env => (F env).bind fun d env => (seqR Fs env).bind fun ds env => .ok (d :: ds) env
def nr {α : Type} (g : List D → O α) (Fs : List (Env → R D)) : Env → R α := fun env => (seqR Fs env).bind fun ds env => (g ds).at env
theorem ses_run {es : List Expr} {Fs : List (Env → R D)} (h : SEs X M W es Fs) : ∃ ts, PEs X es ts ∧ ∀ σ H env U S, Rel X.K M U S H σ env → ∀ (k : List V → Hp → Prop),
    PoE X.K M W U S H σ (rlE X.K U) k (seqR Fs env) → sq ts σ H k := by
  induction h with
  | nil => exact ⟨[], .nil, fun σ H env U S r k h => h [] H S (r.post (Ex.refl H)) .nil⟩
  | @cons e es F Fs h1 _ ih =>
    obtain ⟨t, p, q⟩ := h1
    obtain ⟨ts, ps, qs⟩ := ih
    refine ⟨t :: ts, .cons p ps, fun σ H env U S r k h => ?_⟩
    refine q σ H env U S r _ (PoE.step h fun d env1 v H1 S1 hF p1 r1 h1 => ?_)
    refine qs σ H1 env1 U S1 p1.rel _ (PoE.step h1 fun ds env2 vs H2 S2 hFs p2 r2 h2 => ?_)
    exact h2 (v :: vs) H2 S2 (p2.rel.post (Ex.refl H2)) (.cons (r1.mono p2.vis) r2)
theorem se_node {es : List Expr} {r : RN} {g : List D → O D} {Fs : List (Env → R D)} (n : Node X es e r) (v : Val X.K W r g) (h : SEs X M W es Fs) : SE X M W e (nr g Fs) := by
  obtain ⟨ts, ps, qs⟩ := ses_run h
  obtain ⟨t, p, q⟩ := n ts ps
  refine ⟨t, p, fun σ H env U S rl Q hp => q σ H Q (qs σ H env U S rl _ (PoE.step hp fun ds env1 vs H1 S1 hF p1 r1 h1 => ?_))⟩
  exact v H1 _ σ vs ds Q p1.rel.nt r1 (PoE.pure p1.rel h1 fun _ _ _ _ h => h)
end
end Rf
namespace Rf
open PySem PySem.Spec PyProof.Rows L2
inductive Fl where
  | nx (e : Env)
  | rt (d : D) (e : Env)
  | exc (c : Str) (d : D) (e : Env)
  | bad
structure Pl where
  M : List Nat
  Pm : List Nat
  ro : Bool
structure PostS (K : PySem.W.Frag) (G : Pl) (U : AS) (S : Nat → AS) (H : Hp) (σ : L2.St) (S' : Nat → AS) (H' : Hp) (σ' : L2.St) (env' : Env) : Prop where
  rel : Rel K G.M U S' H' σ' env'
  keep : ∀ a f, Hs H a f → (∀ i, ¬ S i a) → Hs H' a f
  grow : ∀ i a, S' i a → (∃ j, S j a) ∨ H a = none
  prot : ∀ i, i ∈ G.Pm → σ'[i]? = σ[i]?
def Res (K : PySem.W.Frag) (ro : Bool) (U : AS) (S : Nat → AS) (H : Hp) (S' : Nat → AS) (H' : Hp) (v : V) (d : D) : Prop := match ro with
  | true => ∃ T : AS, Ow K H' v d T ∧ (∀ a, T a → ¬ zo U S' a) ∧ ∀ a, T a → (∃ j, S j a) ∨ H a = none
  | false => Rp K (vis H' (zo U S')) v d
def PoS (K : PySem.W.Frag) (G : Pl) (W : WX) (U : AS) (S : Nat → AS) (H : Hp) (σ : L2.St) (E : Ends) : Fl → Prop
  | .nx env' => ∀ σ' H' S', PostS K G U S H σ S' H' σ' env' → E.nx σ' H'
  | .rt d env' => ∀ v σ' H' S', PostS K G U S H σ S' H' σ' env' → Res K G.ro U S H S' H' v d → E.rt v H'
  | .exc c d env' => ∀ dx v σ' H' S', PostS K G U S H σ S' H' σ' env' → H' dx = some (.xd [("value", v)]) → ¬ zo U S' dx → Rp K (vis H' (zo U S')) v d → W (.ref (He.ga K c)) (some dx) σ' H'
  | .bad => False
def SS (X : Cx) (G : Pl) (W : WX) (st : Stmt) (B : Env → Fl) : Prop :=
  ∃ t : TS, PS X st t ∧ ∀ σ H env U S, Rel X.K G.M U S H σ env → ∀ E, PoS X.K G W U S H σ E (B env) → t E σ H
def SSs (X : Cx) (G : Pl) (W : WX) (st : List Stmt) (B : Env → Fl) : Prop :=
  ∃ t : TS, PSs X st t ∧ ∀ σ H env U S, Rel X.K G.M U S H σ env → ∀ E, PoS X.K G W U S H σ E (B env) → t E σ H
section
variable {K : PySem.W.Frag} {G : Pl} {W : WX} {U : AS} {S S1 S2 : Nat → AS} {H H1 H2 : Hp} {σ σ1 σ2 : L2.St} {env e1 e2 : Env} {E : Ends}
theorem PostS.ne {S' : Nat → AS} {H' : Hp} {σ' : L2.St} {env' : Env} (p : PostS K G U S H σ S' H' σ' env') {a : Addr} {o : HO} (h : H a = some o) (n : ∀ i, ¬ S i a) (z : H' a = none) : False := by
  obtain ⟨f, q⟩ := Hs.of h
  exact (p.keep a f q n).ne z
theorem PostS.at {S' : Nat → AS} {H' : Hp} {σ' : L2.St} {env' : Env} (p : PostS K G U S H σ S' H' σ' env') {a : Addr} {o : HO} (h : H a = some o) (n : ∀ i, ¬ S i a) (t : Nb o = true := by rfl) : H' a = some o := (p.keep a (.ob o) ⟨h, t⟩ n).1
theorem PostS.refl (r : Rel K G.M U S H σ env) : PostS K G U S H σ S H σ env := ⟨r, fun _ _ h _ => h, fun i _ h => .inl ⟨i, h⟩, fun _ _ => rfl⟩
theorem PostS.of (p : Post K G.M U S H σ S1 H1 e1) : PostS K G U S H σ S1 H1 σ e1 := ⟨p.rel, p.keep, p.grow, fun _ _ => rfl⟩
theorem PostS.trans (a : PostS K G U S H σ S1 H1 σ1 e1) (b : PostS K G U S1 H1 σ1 S2 H2 σ2 e2) : PostS K G U S H σ S2 H2 σ2 e2 where
  rel := b.rel
  keep := fun x o h n => by
    refine b.keep x o (a.keep x o h n) fun i z => ?_
    rcases a.grow i x z with ⟨j, q⟩ | q
    · exact n j q
    · exact h.ne q
  grow := fun i x z => by
    rcases b.grow i x z with ⟨j, q⟩ | q
    · exact a.grow j x q
    · cases h : H x with
      | none => exact .inr rfl
      | some o =>
        left
        refine Classical.byContradiction fun n => ?_
        exact a.ne h (fun j w => n ⟨j, w⟩) q
  prot := fun i hi => (b.prot i hi).trans (a.prot i hi)
theorem Res.up {S' : Nat → AS} {H' : Hp} {v : V} {d : D} (p : PostS K G U S H σ S1 H1 σ1 e1) (r : Res K G.ro U S1 H1 S' H' v d) : Res K G.ro U S H S' H' v d := by
  unfold Res at r ⊢
  cases hg : G.ro with
  | false => rw [hg] at r; exact r
  | true =>
    rw [hg] at r
    obtain ⟨T, ow, nz, gr⟩ := r
    refine ⟨T, ow, nz, fun a ta => ?_⟩
    rcases gr a ta with ⟨j, q⟩ | q
    · exact p.grow j a q
    · cases h : H a with
      | none => exact .inr rfl
      | some o =>
        left
        refine Classical.byContradiction fun n => ?_
        exact p.ne h (fun j w => n ⟨j, w⟩) q
theorem PoS.up {f : Fl} (p : PostS K G U S H σ S1 H1 σ1 e1) (h : PoS K G W U S H σ E f) : PoS K G W U S1 H1 σ1 E f := by
  cases f with
  | nx e => exact fun σ' H' S' q => h σ' H' S' (p.trans q)
  | rt d e => exact fun v σ' H' S' q r => h v σ' H' S' (p.trans q) (r.up p)
  | exc c d e => exact fun dx v σ' H' S' q x z r => h dx v σ' H' S' (p.trans q) x z r
  | bad => exact h
def seqB (A B : Env → Fl) : Env → Fl := fun env => match A env with
  | .nx e => B e
  | .rt d e => .rt d e
  | .exc c d e => .exc c d e
  | .bad => .bad
theorem PoS.seq {A B : Env → Fl} {u : L2.St → Hp → Prop} (h : PoS K G W U S H σ E (seqB A B env)) (k : ∀ e σ' H' S', A env = .nx e → PostS K G U S H σ S' H' σ' e → PoS K G W U S' H' σ' E (B e) → u σ' H') : PoS K G W U S H σ { E with nx := u } (A env) := by
  unfold seqB at h
  cases hA : A env with
  | nx e => rw [hA] at h; exact fun σ' H' S' p => k e σ' H' S' hA p (PoS.up p h)
  | rt d e => rw [hA] at h; exact h
  | exc c d e => rw [hA] at h; exact h
  | bad => rw [hA] at h; exact h
end
section
variable {X : Cx} {G : Pl} {W : WX} {pos : Pos} {st : Stmt} {rest : List Stmt} {A B : Env → Fl}
def sNil : Env → Fl := fun env => .nx env
theorem ss_nil : SSs X G W [] sNil := ⟨_, pss_nil, fun σ H env U S r E h => h σ H S (PostS.refl r)⟩
theorem ss_cons (h1 : SS X G W st A) (h2 : SSs X G W rest B) : SSs X G W (st :: rest) (seqB A B) := by
  obtain ⟨t, p, q⟩ := h1
  obtain ⟨t2, p2, q2⟩ := h2
  refine ⟨_, pss_cons p p2, fun σ H env U S r E h => q σ H env U S r _ (PoS.seq h fun e σ' H' S' hA po h' => ?_)⟩
  exact q2 σ' H' e U S' po.rel E h'
theorem ss_one (h1 : SS X G W st A) : SSs X G W [st] A := by
  obtain ⟨t, p, q⟩ := h1
  exact ⟨_, pss_one p, q⟩
def sRet (F : Env → R D) : Env → Fl := fun env => match F env with
  | .ok d e => .rt d e
  | .exc c d e => .exc c d e
  | .bad => .bad
theorem s_ret {e : Expr} {F : Env → R D} (hG : G.ro = false) (h : SE X G.M W e F) : SS X G W (.Return (some e) pos) (sRet F) := by
  obtain ⟨t, p, q⟩ := h
  refine ⟨_, ps_ret p, fun σ H env U S r E h => q σ H env U S r _ ?_⟩
  unfold sRet at h
  cases hF : F env with
  | ok d e => rw [hF] at h; exact fun v H' S' po rp => h v σ H' S' (.of po) (by unfold Res; rw [hG]; exact rp)
  | exc c d e => rw [hF] at h; exact fun dx v H' S' po x z rp => h dx v σ H' S' (.of po) x z rp
  | bad => rw [hF] at h; exact h
theorem s_retO {e : Expr} {F : Env → R D} (hG : G.ro = true) (h : SO X G.M W e F) : SS X G W (.Return (some e) pos) (sRet F) := by
  obtain ⟨t, p, q⟩ := h
  refine ⟨_, ps_ret p, fun σ H env U S r E h => q σ H env U S r _ ?_⟩
  unfold sRet at h
  cases hF : F env with
  | ok d e =>
    rw [hF] at h
    intro v H' S' T po rl ow nu gr
    refine h v σ H' S' (.of po) ?_
    unfold Res
    rw [hG]
    refine ⟨T, ow, fun a ta z => ?_, gr⟩
    rcases z with z | ⟨i, z⟩
    · exact nu a ta z
    · exact rl.out i a z (.inr ta)
  | exc c d e => rw [hF] at h; exact fun dx v H' S' po x z rp => h dx v σ H' S' (.of po) x z rp
  | bad => rw [hF] at h; exact h
def sIf (C : Env → R Bool) (A B : Env → Fl) : Env → Fl := fun env => match C env with
  | .ok k e => if k then A e else B e
  | .exc c d e => .exc c d e
  | .bad => .bad
theorem s_if {c : Expr} {a b : List Stmt} {C : Env → R Bool} (hc : STe X G.M W c C) (h1 : SSs X G W a A) (h2 : SSs X G W b B) : SS X G W (.If c a b pos) (sIf C A B) := by
  obtain ⟨tc, pc, qc⟩ := hc
  obtain ⟨t1, p1, q1⟩ := h1
  obtain ⟨t2, p2, q2⟩ := h2
  refine ⟨_, ps_if pc p1 p2, fun σ H env U S r E h => qc σ H env U S r _ ?_⟩
  unfold sIf at h
  cases hC : C env with
  | ok k e =>
    rw [hC] at h
    rintro v H' S' po rfl
    have h' := PoS.up (.of po) h
    cases v with
    | true => exact q1 σ H' e U S' po.rel E h'
    | false => exact q2 σ H' e U S' po.rel E h'
  | exc c d e => rw [hC] at h; exact fun dx v H' S' po x z rp => h dx v σ H' S' (.of po) x z rp
  | bad => rw [hC] at h; exact h
def sDrop (F : Env → R D) : Env → Fl := fun env => match F env with
  | .ok _ e => .nx e
  | .exc c d e => .exc c d e
  | .bad => .bad
end
section
variable {K : PySem.W.Frag} {M : List Nat} {U : AS} {S : Nat → AS} {H : Hp} {σ : L2.St} {env : Env} {i : Nat} {v : V} {d : D}
theorem set_get {α : Type} {l : List α} {i j : Nat} {x y : α} (h : (l.set i x)[j]? = some y) : (j = i ∧ y = x ∧ i < l.length) ∨ (j ≠ i ∧ l[j]? = some y) := by
  by_cases e : j = i
  · subst e
    by_cases hl : j < l.length
    · rw [List.getElem?_set_self hl] at h; exact .inl ⟨rfl, (Option.some.inj h).symm, hl⟩
    · rw [List.getElem?_eq_none (by simpa using hl)] at h; cases h
  · rw [List.getElem?_set_ne (Ne.symm e)] at h; exact .inr ⟨e, h⟩
theorem Rel.set (r : Rel K M U S H σ env) (hi : i ∉ M) (rp : Rp K (vis H (zo U S)) v d) : Rel K M U S H (σ.set i (some v)) (env.set i (some d)) where
  own := fun j d' hj he => by
    rcases set_get he with ⟨rfl, _, _⟩ | ⟨ne, he⟩
    · exact absurd hj hi
    · obtain ⟨w, h1, h2⟩ := r.own j d' hj he
      exact ⟨w, by rw [List.getElem?_set_ne (Ne.symm ne)]; exact h1, h2⟩
  frz := fun j d' hj he => by
    rcases set_get he with ⟨rfl, hd, hl⟩ | ⟨ne, he⟩
    · cases hd
      exact ⟨v, List.getElem?_set_self (by rw [← r.len]; exact hl), rp⟩
    · obtain ⟨w, h1, h2⟩ := r.frz j d' hj he
      exact ⟨w, by rw [List.getElem?_set_ne (Ne.symm ne)]; exact h1, h2⟩
  dis := r.dis
  out := r.out
  nt := r.nt
  len := by simpa using r.len
open Classical in
theorem Rel.setO {T : AS} (r : Rel K M (un U T) S H σ env) (hi : i ∈ M) (ow : Ow K H v d T) (nu : ∀ a, T a → ¬ U a) : Rel K M U (fun j => if j = i then T else S j) H (σ.set i (some v)) (env.set i (some d)) where
  own := fun j d' hj he => by
    rcases set_get he with ⟨rfl, hd, hl⟩ | ⟨ne, he⟩
    · cases hd
      refine ⟨v, List.getElem?_set_self (by rw [← r.len]; exact hl), ?_⟩
      simpa using ow
    · obtain ⟨w, h1, h2⟩ := r.own j d' hj he
      refine ⟨w, by rw [List.getElem?_set_ne (Ne.symm ne)]; exact h1, ?_⟩
      simpa [ne] using h2
  frz := fun j d' hj he => by
    rcases set_get he with ⟨rfl, _, _⟩ | ⟨ne, he⟩
    · exact absurd hi hj
    · obtain ⟨w, h1, h2⟩ := r.frz j d' hj he
      refine ⟨w, by rw [List.getElem?_set_ne (Ne.symm ne)]; exact h1, h2.mono fun a o _ h => ?_⟩
      obtain ⟨h3, h4⟩ := of_vis h
      refine vis_in h3 fun z => h4 ?_
      rcases z with z | ⟨k, z⟩
      · exact .inl (.inl z)
      · by_cases hk : k = i
        · rw [if_pos hk] at z; exact .inl (.inr z)
        · rw [if_neg hk] at z; exact .inr ⟨k, z⟩
  dis := fun j k a ne h1 h2 => by
    by_cases hj : j = i
    · rw [if_pos hj] at h1
      have hk : ¬ k = i := fun e => ne (hj.trans e.symm)
      rw [if_neg hk] at h2
      exact r.out k a h2 (.inr h1)
    · rw [if_neg hj] at h1
      by_cases hk : k = i
      · rw [if_pos hk] at h2
        exact r.out j a h1 (.inr h2)
      · rw [if_neg hk] at h2
        exact r.dis j k a ne h1 h2
  out := fun j a h u => by
    by_cases hj : j = i
    · rw [if_pos hj] at h; exact nu a h u
    · rw [if_neg hj] at h; exact r.out j a h (.inl u)
  nt := Nt.of r.nt.tab fun a z => by
    rcases z with z | ⟨k, z⟩
    · exact r.nt.hid a (.inl (.inl z))
    · by_cases hk : k = i
      · rw [if_pos hk] at z; exact r.nt.hid a (.inl (.inr z))
      · rw [if_neg hk] at z; exact r.nt.hid a (.inr ⟨k, z⟩)
  len := by simpa using r.len
end
section
variable {X : Cx} {G : Pl} {W : WX} {pos py : Pos} {x : Str} {i : Nat} {e : Expr} {F : Env → R D}
def sSet (i : Nat) (F : Env → R D) : Env → Fl := fun env => match F env with
  | .ok d e => .nx (e.set i (some d))
  | .exc c d e => .exc c d e
  | .bad => .bad
def AsgE (X : Cx) (M : List Nat) (W : WX) (i : Nat) (st : Stmt) (F : Env → R D) : Prop :=
  ∃ t : TE, PS X st (tAsg t (gName i)) ∧ ∀ σ H env U S, Rel X.K M U S H σ env → ∀ Q, PoE X.K M W U S H σ (rpE X.K U) Q (F env) → t σ H Q
def AsgO (X : Cx) (M : List Nat) (W : WX) (i : Nat) (st : Stmt) (F : Env → R D) : Prop :=
  ∃ t : TE, PS X st (tAsg t (gName i)) ∧ ∀ σ H env U S, Rel X.K M U S H σ env → ∀ Q, PoO X.K M W U S H σ Q (F env) → t σ H Q
theorem asgE {M : List Nat} (hN : X.N.Nodup) (hi : X.N[i]? = some x) (hx : Loc X.env.scope x) (h : SE X M W e F) (hs : swapsWith e (some (.Name x py)) pos.line X.env = pure false := by rfl) (hf : X.fn x = true ∨ X.env.scope.names.lookup x = some .local := by first | exact .inl rfl | exact .inr rfl | assumption) :
    AsgE X M W i (.Assign [.Name x py] e pos) F := by
  obtain ⟨t, p, q⟩ := h
  exact ⟨t, ps_set hN hi hx p hs hf, q⟩
theorem asgO {M : List Nat} (hN : X.N.Nodup) (hi : X.N[i]? = some x) (hx : Loc X.env.scope x) (h : SO X M W e F) (hs : swapsWith e (some (.Name x py)) pos.line X.env = pure false := by rfl) (hf : X.fn x = true ∨ X.env.scope.names.lookup x = some .local := by first | exact .inl rfl | exact .inr rfl | assumption) :
    AsgO X M W i (.Assign [.Name x py] e pos) F := by
  obtain ⟨t, p, q⟩ := h
  exact ⟨t, ps_set hN hi hx p hs hf, q⟩
theorem s_set {st : Stmt} (hM : G.M.contains i = false) (hP : G.Pm.contains i = false) (h : AsgE X G.M W i st F) : SS X G W st (sSet i F) := by
  obtain ⟨t, p, q⟩ := h
  refine ⟨_, p, fun σ H env U S r E h => q σ H env U S r _ ?_⟩
  have hM' : i ∉ G.M := by simpa using hM
  have hP' : i ∉ G.Pm := by simpa using hP
  unfold sSet at h
  cases hF : F env with
  | ok d e =>
    rw [hF] at h
    exact fun v H' S' po rp => h _ H' S' ⟨po.rel.set hM' rp, po.keep, po.grow, fun j hj => List.getElem?_set_ne fun (e : i = j) => hP' (by rw [e]; exact hj)⟩
  | exc c d e => rw [hF] at h; exact fun dx v H' S' po x z rp => h dx v σ H' S' (.of po) x z rp
  | bad => rw [hF] at h; exact h
theorem s_setO {st : Stmt} (hM : G.M.contains i = true) (hP : G.Pm.contains i = false) (h : AsgO X G.M W i st F) : SS X G W st (sSet i F) := by
  obtain ⟨t, p, q⟩ := h
  refine ⟨_, p, fun σ H env U S r E h => q σ H env U S r _ ?_⟩
  have hM' : i ∈ G.M := by simpa using hM
  have hP' : i ∉ G.Pm := by simpa using hP
  unfold sSet at h
  cases hF : F env with
  | ok d e =>
    rw [hF] at h
    refine fun v H' S' T po rl ow nu gr => h _ H' _ ⟨rl.setO hM' ow nu, po.keep, fun j a z => ?_, fun j hj => List.getElem?_set_ne fun (e : i = j) => hP' (by rw [e]; exact hj)⟩
    by_cases hj : j = i
    · simp only [hj, if_true] at z; exact gr a z
    · simp only [hj, if_false] at z; exact po.grow j a z
  | exc c d e => rw [hF] at h; exact fun dx v H' S' po x z rp => h dx v σ H' S' (.of po) x z rp
  | bad => rw [hF] at h; exact h
end
end Rf
namespace Rf
open PySem PySem.Spec PyProof.Rows L2
inductive C where
  | ok (d : D) (o : Env)
  | exc (c : Str) (d : D) (o : Env)
  | bad
def PoC (K : PySem.W.Frag) (io : List Nat) (ro : Bool) (U : AS) (S : Nat → AS) (H : Hp) (vs : List V) (Q : VK) (E : XK) : C → Prop
  | .ok d o => ∀ v H' S', Post K io U S H (vs.map some) S' H' o → Res K ro U S H S' H' v d → Q v H'
  | .exc c d o => ∀ dx v H' S', Post K io U S H (vs.map some) S' H' o → H' dx = some (.xd [("value", v)]) → ¬ zo U S' dx → Rp K (vis H' (zo U S')) v d → E (.ref (He.ga K c)) (some dx) H'
  | .bad => False
def spC (K : PySem.W.Frag) (n : Nat) (io : List Nat) (ro : Bool) (g : List D → C) : Sp := fun vs H Q E =>
  vs.length = n ∧ ∃ ds U S, ds.length = n ∧ Rel K io U S H (vs.map some) (ds.map some) ∧ PoC K io ro U S H vs Q E (g ds)
def outs (io : List Nat) (p : Nat) (e : Env) : Env := (List.range p).map fun i => if io.contains i then (e[i]?).getD none else none
def env0 (n : Nat) (ds : List D) : Env := ds.map some ++ List.replicate (n - ds.length) none
def runB (n p : Nat) (io : List Nat) (B : Env → Fl) : List D → C := fun ds => match B (env0 n ds) with
  | .nx e => .ok .non (outs io p e)
  | .rt d e => .ok d (outs io p e)
  | .exc c d e => .exc c d (outs io p e)
  | .bad => .bad
def plOk (M io : List Nat) (p : Nat) : Bool := M.all (fun i => !decide (i < p) || io.contains i) && io.all (fun i => M.contains i && decide (i < p))
theorem start_get {N : List Str} {vs : List V} {i : Nat} (h : i < vs.length) : (start N vs)[i]? = (vs.map some)[i]? := by
  unfold L2.start
  rw [List.getElem?_append_left (by simpa using h)]
theorem env0_get {n : Nat} {ds : List D} {i : Nat} {d : D} (h : (env0 n ds)[i]? = some (some d)) : (ds.map some)[i]? = some (some d) ∧ i < ds.length := by
  unfold env0 at h
  by_cases hl : i < ds.length
  · rw [List.getElem?_append_left (by simpa using hl)] at h; exact ⟨h, hl⟩
  · rw [List.getElem?_append_right (by simpa using hl)] at h
    obtain ⟨h1, h2⟩ := List.getElem?_eq_some_iff.mp h
    simp at h2
section
variable {P : Program} {w : World} {K : PySem.W.Frag} {mg : Str → Option Value} {base : Heap} {x qual : Str} {params : Arguments} {body : List Stmt} {scope : Scope} {dvs : List V} {kws : List (Str × V)} {f : Addr} {fd : FuncData}
theorem fn_mk {N ps : List Str} {k : Nat} {M io : List Nat} {ro : Bool} {B : Env → Fl} (F : FunD K x qual params body scope dvs kws f fd) (SC : FnScope N ps scope) (hp : plOk M io ps.length = true) (hN : ps.length ≤ N.length)
    (hbody : ∀ (cdv : Value) (A : Around) (outer : List PySem.Env) (s : Shared) (H : Hp) (E : XK), Room k (A.deeper (envOfC qual scope s.heap.objs.size f cdv)) →
      SSs (cxOf (L2.CX P w) P w K mg base N qual scope f cdv A outer s H E) ⟨M, io, ro⟩ (fun c d _ H => E c d H) body B) :
    FnOk P w K mg base (L2.CX P w) (k + 1) f fd ps (spC K ps.length io ro (runB N.length ps.length io B)) := by
  refine F.ok SC (fun vs H Q E h => h.1) fun cdv A outer s H vs Q E hr h => ?_
  obtain ⟨hl, ds, U, S, hd, rel, po⟩ := h
  obtain ⟨t, p, q⟩ := hbody cdv A outer s H E hr
  simp only [plOk, Bool.and_eq_true, List.all_eq_true, Bool.or_eq_true, Bool.not_eq_true', decide_eq_false_iff_not, List.contains_eq_mem, decide_eq_true_eq] at hp
  obtain ⟨hM, hio⟩ := hp
  refine ⟨t, p, q (start N vs) H (env0 N.length ds) U S ⟨?_, ?_, rel.dis, rel.out, rel.nt, ?_⟩ _ ?_⟩
  · intro i d hi he
    obtain ⟨h1, h2⟩ := env0_get he
    have hi2 : i ∈ io := (hM i hi).resolve_left (by omega)
    obtain ⟨v, h3, h4⟩ := rel.own i d hi2 h1
    exact ⟨v, by rw [start_get (by omega)]; exact h3, h4⟩
  · intro i d hi he
    obtain ⟨h1, h2⟩ := env0_get he
    have hi2 : i ∉ io := fun z => hi (hio i z).1
    obtain ⟨v, h3, h4⟩ := rel.frz i d hi2 h1
    exact ⟨v, by rw [start_get (by omega)]; exact h3, h4⟩
  · simp only [env0, L2.start, List.length_append, List.length_map, List.length_replicate]
    omega
  have fin : ∀ {S' : Nat → AS} {H' : Hp} {σ' : L2.St} {e : Env}, PostS K ⟨M, io, ro⟩ U S H (start N vs) S' H' σ' e → Post K io U S H (vs.map some) S' H' (outs io ps.length e) := by
    intro S' H' σ' e po
    refine ⟨⟨?_, ?_, po.rel.dis, po.rel.out, po.rel.nt, ?_⟩, po.keep, po.grow⟩
    · intro i d hi he
      have hi1 := (hio i hi).2
      have he2 : e[i]? = some (some d) := by
        unfold outs at he
        rw [List.getElem?_map, List.getElem?_range hi1] at he
        simp only [Option.map_some, List.contains_eq_mem, hi, decide_true, if_true, Option.some.injEq] at he
        cases hq : e[i]? with
        | none => rw [hq] at he; simp at he
        | some z => rw [hq] at he; simp at he; rw [he]
      obtain ⟨v, h1, h2⟩ := po.rel.own i d (hio i hi).1 he2
      refine ⟨v, ?_, h2⟩
      rw [← start_get (N := N) (by omega), ← po.prot i hi]
      exact h1
    · intro i d hi he
      unfold outs at he
      rw [List.getElem?_map] at he
      cases hq : (List.range ps.length)[i]? with
      | none => rw [hq] at he; simp at he
      | some j =>
        have hj : j = i := by
          obtain ⟨h1, h2⟩ := List.getElem?_eq_some_iff.mp hq
          rw [← h2]; simp
        subst hj
        rw [hq] at he
        simp [hi] at he
    · simp [outs, hl]
  simp only [runB] at po
  cases hB : B (env0 N.length ds) with
  | nx e =>
    rw [hB] at po
    intro σ' H' S' pos
    refine po .non H' S' (fin pos) ?_
    unfold Res
    cases ro with
    | false => exact .non
    | true => exact ⟨fun _ => False, .leaf rfl .non (fun _ h => h), fun _ h => h.elim, fun _ h => h.elim⟩
  | rt d e =>
    rw [hB] at po
    intro v σ' H' S' pos res
    exact po v H' S' (fin pos) res
  | exc c d e =>
    rw [hB] at po
    intro dx v σ' H' S' pos h1 h2 h3
    exact po dx v H' S' (fin pos) h1 h2 h3
  | bad => rw [hB] at po; exact po
end
structure Cal (P : Program) (w : World) (K : PySem.W.Frag) (mg : Str → Option Value) (base : Heap) (k : Nat) (x : Str) (m : Nat) (io : List Nat) (ro : Bool) (dds : List D) (g : List D → C) : Prop where
  ex : ∃ (f : Addr) (fd : FuncData) (ps : List Str) (dvs : List V) (dsV : List Value), mg x = some (.ref f) ∧ PySem.W.keepIn K (.ref f) = true ∧ ps.length = m + dds.length ∧ FnOk P w K mg base (L2.CX P w) k f fd ps (spC K (m + dds.length) io ro g) ∧
    Binds K fd ps dsV ∧ Vals dvs dsV ∧ ∀ H, RpL K H dvs dds
abbrev CalX (X : Cx) := Cal X.prog X.w X.K X.mg X.base
theorem Cal.mono {P : Program} {w : World} {K : PySem.W.Frag} {mg : Str → Option Value} {base : Heap} {j k : Nat} {x : Str} {m : Nat} {io : List Nat} {ro : Bool} {dds : List D} {g : List D → C} (h : Cal P w K mg base j x m io ro dds g) (hk : j ≤ k) : Cal P w K mg base k x m io ro dds g := by
  obtain ⟨f, fd, ps, dvs, dsV, h1, h2, h3, h4, h5⟩ := h.ex
  exact ⟨f, fd, ps, dvs, dsV, h1, h2, h3, h4.mono hk, h5⟩
structure Gd (X : Cx) (W : WX) (k : Nat) : Prop where
  calm : X.calm = true
  room : Room k X.A
  takes : Takes X W
  nd : X.N.Nodup
  pass : PassesOwn (model X.prog X.w) X.A X.env X.xe
theorem Gd.hu {X : Cx} {W : WX} {k : Nat} (g : Gd X W k) : X.A.units + 65 < cLine := by have := g.room.un; omega
theorem Gd.hu64 {X : Cx} {W : WX} {k : Nat} (g : Gd X W k) : X.A.units + 64 < cLine := by have := g.room.un; omega
section
variable {X : Cx} {M : List Nat} {W : WX} {b : Bool} {k m : Nat} {x : Str} {ro : Bool} {dds : List D} {g : List D → C} {p pos : Pos} {e : Expr} {es : List Expr}
def ofC : C → O D
  | .ok d _ => .ok d
  | .exc c d _ => .exc c d
  | .bad => .bad
def rcall (K : PySem.W.Frag) (W : WX) (n : Nat) (io : List Nat) (ro : Bool) (dvs : List V) (g : List D → C) : RN := fun vs σ H Q => spC K n io ro g (vs ++ dvs) H Q fun cls d H' => W cls d σ H'
theorem rel_pure {K : PySem.W.Frag} {H : Hp} {Z : AS} {vs : List V} {ds : List D} (n : Nt K H Z) (r : RpL K (vis H Z) vs ds) : Rel K [] Z (fun _ _ => False) H (vs.map some) (ds.map some) where
  own := fun i d hi => by simp at hi
  frz := fun i d _ he => by
    rw [List.getElem?_map] at he
    cases hq : ds[i]? with
    | none => rw [hq] at he; simp at he
    | some d' =>
      rw [hq] at he
      simp at he
      subst he
      obtain ⟨v, h1, h2⟩ := r.get hq
      refine ⟨v, by rw [List.getElem?_map, h1]; rfl, ?_⟩
      have : zo Z (fun _ _ => False) = Z := funext fun a => propext ⟨fun z => z.elim id fun ⟨_, f⟩ => f.elim, .inl⟩
      rw [this]
      exact h2
  dis := fun _ _ _ _ h => h.elim
  out := fun _ _ h => h.elim
  nt := Nt.of n.tab fun a z => z.elim (n.hid a) fun ⟨_, f⟩ => f.elim
  len := by simp [r.length]
theorem val_call {K : PySem.W.Frag} {dvs : List V} (hd : ∀ H, RpL K H dvs dds) : Val K W (rcall K W (m + dds.length) [] ro dvs g) (fun ds => if ds.length = m then ofC (g (ds ++ dds)) else .bad) := by
  intro H Z σ vs ds Q n rp hp
  dsimp only at hp
  by_cases hm : ds.length = m
  · rw [if_pos hm] at hp
    have rp' := rp.append (hd (vis H Z))
    have hl := rp'.length
    refine ⟨by rw [hl, List.length_append, hm], ds ++ dds, Z, fun _ _ => False, by rw [List.length_append, hm], rel_pure n rp', ?_⟩
    cases hg : g (ds ++ dds) with
    | ok d o =>
      rw [hg] at hp
      intro v H' S' po res
      have ex : Ex H H' := fun a o h => po.keep a o h fun _ f => f
      refine hp v H' ex ?_
      unfold Res at res
      cases ro with
      | false => exact res.mono (vis_sub fun a z => .inl z)
      | true =>
        obtain ⟨T, ow, nz, _⟩ := res
        exact (ow.vis po.rel.nt nz).mono (vis_sub fun a z => .inl z)
    | exc c d o =>
      rw [hg] at hp
      intro dx v H' S' po h1 h2 h3
      have ex : Ex H H' := fun a o h => po.keep a o h fun _ f => f
      exact hp dx v H' ex (fun z => h2 (.inl z)) h1 (h3.mono (vis_sub fun a z => .inl z))
    | bad => rw [hg] at hp; exact hp.elim
  · rw [if_neg hm] at hp
    exact hp.elim
def gCall (m : Nat) (dds : List D) (g : List D → C) : List D → O D := fun ds => if ds.length = m then ofC (g (ds ++ dds)) else .bad
theorem node_call (G : Gd X W k) (c : CalX X k x m [] ro dds g) (hg : Gl X x) (hs : noStar (e :: es) = true) (hdb : (x == ("__debug__" : Str)) = false := by decide) :
    ∃ dvs, (∀ H, RpL X.K H dvs dds) ∧ Node X (e :: es) (.Call (.Name x p) (e :: es) [] pos) (rcall X.K W (m + dds.length) [] ro dvs g) := by
  obtain ⟨f, fd, ps, dvs, dsV, h1, h2, h3, h4, h5, h6, h7⟩ := c.ex
  refine ⟨dvs, h7, fun ts h => ?_⟩
  obtain ⟨t, pa, q⟩ := pa_of h hs
  obtain ⟨n1, n2⟩ := noStar_head hs X.env
  exact ⟨_, pe_callSD h4 G.room hg h1 h2 h5 h6 (fun σ => passAt G.takes σ) pa hdb n1 (noStar_plain n2 pos X.env), fun σ H Q hq => q σ H _ hq⟩
theorem sp_call {Fs : List (Env → O D)} (G : Gd X W k) (c : CalX X k x m [] ro dds g) (hg : Gl X x) (h : SPs X M W b (e :: es) Fs) (hs : noStar (e :: es) = true := by rfl) (hdb : (x == ("__debug__" : Str)) = false := by decide) :
    SP X M W b (.Call (.Name x p) (e :: es) [] pos) (nd (gCall m dds g) Fs) := by
  obtain ⟨dvs, hd, n⟩ := node_call (p := p) (pos := pos) G c hg hs hdb
  exact sp_node n (val_call hd) h
end
end Rf
namespace Rf
open PySem PySem.Spec PyProof.Rows L2
def ItOk (K : PySem.W.Frag) (J : It) (Hv : Hp) (ds : List D) : Prop :=
  ∃ G Y, Walk J ds.length G Y ∧ (∀ H, Exo Hv H → G H) ∧ ∀ i H x H' Z, Nt K H Z → Exo Hv (vis H Z) → Y i H x H' → Ex H H' ∧ ∃ d, ds[i]? = some d ∧ Rp K (vis H' Z) x d
abbrev itZ (K : PySem.W.Frag) (Z : AS) : Hp → It → List D → Prop := fun H J ds => ItOk K J (vis H Z) ds
def SI (X : Cx) (M : List Nat) (W : WX) (b : Bool) (tg iter : Expr) (F : Env → O (List D)) : Prop :=
  ∃ wi : TI, PI X tg iter wi ∧ ∀ σ H env U S, Rel X.K M U S H σ env → ∀ Q, Po X.K W (zb b U S) H σ (itZ X.K (zb b U S)) Q (F env) → wi σ H Q
section
variable {K : PySem.W.Frag}
theorem it_list {Hv : Hp} {a : Addr} {vs : List V} {ds : List D} (h : SqL K Hv a vs) (r : RpL K Hv vs ds) : ItOk K (Itl K a) Hv ds := by
  have w := walk_list (K := K) (a := a) (xs := vs)
  rw [r.length] at w
  refine ⟨_, _, w, fun H e => ex_l e h, fun i H x H' Z n e y => ?_⟩
  obtain ⟨rfl, hx⟩ := y
  obtain ⟨d, h1, h2⟩ := r.get' hx
  exact ⟨Ex.refl _, d, h1, h2.mono e⟩
theorem it_tup {Hv : Hp} {a : Addr} {vs : List V} {ds : List D} (h : SqT K Hv a vs) (r : RpL K Hv vs ds) : ItOk K (Itt K a) Hv ds := by
  have w := walk_tup (K := K) (a := a) (xs := vs)
  rw [r.length] at w
  refine ⟨_, _, w, fun H e => ex_t e h, fun i H x H' Z n e y => ?_⟩
  obtain ⟨rfl, hx⟩ := y
  obtain ⟨d, h1, h2⟩ := r.get' hx
  exact ⟨Ex.refl _, d, h1, h2.mono e⟩
def rangeD (lo : Int) (n : Nat) : List D := (List.range n).map fun i => .int (lo + (i : Nat))
theorem it_range {Hv : Hp} {lo : Int} {n : Nat} : ItOk K (Itr lo n) Hv (rangeD lo n) := by
  have w := walk_range (lo := lo) (n := n)
  have hl : (rangeD lo n).length = n := by simp [rangeD]
  refine ⟨_, fun i H x H' => i < n ∧ YFn (fun i => .int (lo + i)) i H x H', ?_, fun _ _ => True.intro, fun i H x H' Z nn e y => ?_⟩
  · rw [hl]
    exact ⟨w.goes, w.stops, fun i H x H' hi g y => ⟨hi, w.yields i H x H' hi g y⟩⟩
  · obtain ⟨hi, rfl, rfl⟩ := y
    refine ⟨Ex.refl _, .int (lo + i), ?_, .int _⟩
    simp [rangeD, List.getElem?_map, List.getElem?_range hi]
def signsD (z : Str) : List D := z.cps.toList.map fun c => .str ⟨#[c]⟩
theorem it_str {Hv : Hp} {z : Str} : ItOk K (Its z) Hv (signsD z) := by
  have w := walk_str (z := z)
  have hl : z.cps.size = (signsD z).length := by simp [signsD]
  rw [hl] at w
  refine ⟨_, _, w, fun _ _ => True.intro, fun i H x H' Z nn e y => ?_⟩
  obtain ⟨rfl, c, hc, rfl⟩ := y
  refine ⟨Ex.refl _, .str ⟨#[c]⟩, ?_, .str _⟩
  simp [signsD, List.getElem?_map, hc]
end
section
variable {X : Cx} {M : List Nat} {W : WX} {b : Bool} {tg e e2 : Expr} {F F2 : Env → O D}
def itL : O D → O (List D)
  | .ok (.lst ds) => .ok ds
  | .ok (.scr ns) => .ok (ns.map .int)
  | .ok (.fls ds) => .ok ds
  | .ok _ => .bad
  | .exc c d => .exc c d
  | .bad => .bad
def itT : O D → O (List D)
  | .ok (.tup ds) => .ok ds
  | .ok _ => .bad
  | .exc c d => .exc c d
  | .bad => .bad
def itS : O D → O (List D)
  | .ok (.str z) => .ok (signsD z)
  | .ok _ => .bad
  | .exc c d => .exc c d
  | .bad => .bad
theorem RpL.ints {K : PySem.W.Frag} {H : Hp} : ∀ ns : List Int, RpL K H (ns.map V.int) (ns.map D.int)
  | [] => .nil
  | n :: ns => .cons (.int n) (RpL.ints ns)
theorem si_list (h : SP X M W b e F) : SI X M W b tg e (fun env => itL (F env)) := by
  obtain ⟨t, p, q⟩ := h
  refine ⟨_, pi_list p, fun σ H env U S r Q hp => q σ H env U S r _ ?_⟩
  dsimp only at hp
  cases hF : F env with
  | ok d =>
    rw [hF] at hp
    intro v H' ex rp
    cases rp <;> try exact hp.elim
    · rename_i a vs ds ha rr
      exact ⟨a, rfl, ⟨vs, SqL.of (of_some_vis ha)⟩, hp _ H' ex (it_list (SqL.of ha) rr)⟩
    · rename_i a ns ha
      exact ⟨a, rfl, ⟨_, ex_l vis_ex ha⟩, hp _ H' ex (it_list ha (RpL.ints ns))⟩
    · rename_i a od vs ds ha rr
      exact ⟨a, rfl, ⟨vs, sql_frz (of_some_vis ha)⟩, hp _ H' ex (it_list (sql_frz ha) rr)⟩
  | exc c d => rw [hF] at hp; exact hp
  | bad => rw [hF] at hp; exact hp.elim
theorem si_tup (h : SP X M W b e F) : SI X M W b tg e (fun env => itT (F env)) := by
  obtain ⟨t, p, q⟩ := h
  refine ⟨_, pi_tup p, fun σ H env U S r Q hp => q σ H env U S r _ ?_⟩
  dsimp only at hp
  cases hF : F env with
  | ok d =>
    rw [hF] at hp
    intro v H' ex rp
    cases rp <;> try exact hp.elim
    rename_i a vs ds ha rr
    exact ⟨a, rfl, ⟨vs, SqT.up ha⟩, hp _ H' ex (it_tup ha rr)⟩
  | exc c d => rw [hF] at hp; exact hp
  | bad => rw [hF] at hp; exact hp.elim
theorem si_str (h : SP X M W b e F) : SI X M W b tg e (fun env => itS (F env)) := by
  obtain ⟨t, p, q⟩ := h
  refine ⟨_, pi_str p, fun σ H env U S r Q hp => q σ H env U S r _ ?_⟩
  dsimp only at hp
  cases hF : F env with
  | ok d =>
    rw [hF] at hp
    intro v H' ex rp
    cases rp <;> try exact hp.elim
    rename_i z
    exact ⟨z, rfl, hp _ H' ex it_str⟩
  | exc c d => rw [hF] at hp; exact hp
  | bad => rw [hF] at hp; exact hp.elim
def itR1 : O D → O (List D)
  | .ok (.int j) => if -(2 ^ 62) ≤ j ∧ j < 2 ^ 62 then .ok (rangeD 0 j.toNat) else .bad
  | .ok _ => .bad
  | .exc c d => .exc c d
  | .bad => .bad
theorem si_range1 {p pos : Pos} (hg : Gl X "range") (hm : X.mg "range" = none) (h : SP X M W b e F) (hs : noStar [e] = true := by rfl) : SI X M W b tg (.Call (.Name "range" p) [e] [] pos) (fun env => itR1 (F env)) := by
  obtain ⟨t, pp, q⟩ := h
  obtain ⟨h1, h2⟩ := noStar_head hs X.env
  refine ⟨_, pi_range1 hg hm (pa_cons pp pa_nil h1) h1, fun σ H env U S r Q hp => q σ H env U S r _ ?_⟩
  dsimp only at hp
  cases hF : F env with
  | ok d =>
    rw [hF] at hp
    intro v H' ex rp
    cases rp <;> try exact hp.elim
    rename_i j
    simp only [itR1] at hp
    split at hp
    · rename_i hj
      exact ⟨j, rfl, hj.1, hj.2, hp _ H' ex it_range⟩
    · exact hp.elim
  | exc c d => rw [hF] at hp; exact hp
  | bad => rw [hF] at hp; exact hp.elim
end
def SG (X : Cx) (M : List Nat) (vs : List Nat) (tg : Expr) (g : D → Env → Option Env) : Prop :=
  ∃ t : TG, PG X tg t ∧ ∀ σ H env U S v d env1, Rel X.K M U S H σ env → Rp X.K (vis H (zo U S)) v d → g d env = some env1 → ∀ Q : L2.St → Hp → Prop,
    (∀ σ1, Rel X.K M U S H σ1 env1 → wipe σ1 vs = wipe σ vs → (∀ j, j ∉ vs → σ1[j]? = σ[j]?) → Q σ1 H) → t v σ H Q
def SGs (X : Cx) (M : List Nat) (vs : List Nat) (tgs : List Expr) (g : List D → Env → Option Env) : Prop :=
  ∃ t : TGs, PGs X tgs t ∧ ∀ σ H env U S v d env1, Rel X.K M U S H σ env → RpL X.K (vis H (zo U S)) v d → g d env = some env1 → ∀ Q : L2.St → Hp → Prop,
    (∀ σ1, Rel X.K M U S H σ1 env1 → wipe σ1 vs = wipe σ vs → (∀ j, j ∉ vs → σ1[j]? = σ[j]?) → Q σ1 H) → t v σ H Q
theorem wipe_set (σ : L2.St) (i : Nat) (x : Option V) : ∀ {vs : List Nat}, i ∈ vs → wipe (σ.set i x) vs = wipe σ vs
  | [], h => by simp at h
  | v :: vs, h => by
    unfold wipe
    by_cases hv : i ∈ vs
    · rw [wipe_set σ i x hv]
    · have e : v = i := by simp at h; rcases h with h | h; exact h.symm; exact absurd h hv
      subst e
      have : ∀ (σ : L2.St) (vs : List Nat), v ∉ vs → (wipe (σ.set v x) vs) = (wipe σ vs).set v x := by
        intro σ vs
        induction vs with
        | nil => intro _; rfl
        | cons u us ih =>
          intro hn
          simp only [List.mem_cons, not_or] at hn
          unfold wipe
          rw [ih hn.2, List.set_comm _ _ hn.1]
      rw [this σ vs hv, List.set_set]
section
variable {X : Cx} {M : List Nat} {vs : List Nat} {pos : Pos}
def gN (i : Nat) : D → Env → Option Env := fun d env => some (env.set i (some d))
theorem sg_name {i : Nat} {x : Str} (hM : M.contains i = false) (hv : vs.contains i = true) (hN : X.N.Nodup) (hi : X.N[i]? = some x) (hx : Loc X.env.scope x) (hf : X.fn x = true ∨ X.env.scope.names.lookup x = some .local := by first | exact .inl rfl | exact .inr rfl | assumption) : SG X M vs (.Name x pos) (gN i) := by
  refine ⟨_, pg_name hN hi hx hf, fun σ H env U S v d env1 r rp hg Q h => ?_⟩
  cases hg
  have hM' : i ∉ M := by simpa using hM
  have hv' : i ∈ vs := by simpa using hv
  exact h _ (r.set hM' rp) (wipe_set σ i _ hv') fun j hj => List.getElem?_set_ne fun (e : i = j) => hj (by rw [← e]; exact hv')
def gsN : List D → Env → Option Env
  | [], env => some env
  | _ :: _, _ => none
def gsC (g : D → Env → Option Env) (gs : List D → Env → Option Env) : List D → Env → Option Env
  | [], _ => none
  | d :: ds, env => (g d env).bind fun e => gs ds e
theorem sgs_nil : SGs X M vs [] gsN := by
  refine ⟨_, pgs_nil, fun σ H env U S v d env1 r rp hg Q h => ?_⟩
  cases rp with
  | nil => cases hg; exact ⟨rfl, h σ r rfl fun _ _ => rfl⟩
  | cons _ _ => cases hg
theorem sgs_cons {e : Expr} {es : List Expr} {g : D → Env → Option Env} {gs : List D → Env → Option Env} (h1 : SG X M vs e g) (h2 : SGs X M vs es gs) (p : ∀ t u, PG X e t → PGs X es u → PGs X (e :: es) (gCons t u) := by intro t u h1 h2; exact pgs_cons h1 h2) : SGs X M vs (e :: es) (gsC g gs) := by
  obtain ⟨t, p1, q1⟩ := h1
  obtain ⟨u, p2, q2⟩ := h2
  refine ⟨_, p t u p1 p2, fun σ H env U S v d env1 r rp hg Q h => ?_⟩
  cases rp with
  | nil => cases hg
  | @cons v vs' d ds r1 r2 =>
    simp only [gsC, Option.bind_eq_some_iff] at hg
    obtain ⟨e1, hg1, hg2⟩ := hg
    exact ⟨_, _, rfl, q1 σ H env U S _ _ _ r r1 hg1 _ fun σ1 rl1 w1 k1 => q2 σ1 H e1 U S _ _ _ rl1 r2 hg2 _ fun σ2 rl2 w2 k2 => h σ2 rl2 (w2.trans w1) fun j hj => (k2 j hj).trans (k1 j hj)⟩
def gT (n : Nat) (gs : List D → Env → Option Env) : D → Env → Option Env := fun d env => match d with
  | .tup ds => if ds.length = n then gs ds env else none
  | _ => none
theorem sg_tup {es : List Expr} {k n : Nat} {gs : List D → Env → Option Env} (h : SGs X M vs es gs) (p : ∀ t, PGs X es t → PG X (.Tuple es k pos) (gTup X.K n t)) : SG X M vs (.Tuple es k pos) (gT n gs) := by
  obtain ⟨t, p1, q1⟩ := h
  refine ⟨_, p t p1, fun σ H env U S v d env1 r rp hg Q h => ?_⟩
  cases rp <;> try (simp [gT] at hg; done)
  rename_i a ws ds ha rr
  simp only [gT] at hg
  split at hg
  · rename_i hl
    exact ⟨a, ws, rfl, SqT.up ha, by rw [rr.length]; exact hl, q1 σ H env U S _ _ _ r rr hg Q h⟩
  · cases hg
end
end Rf
namespace Rf
open PySem PySem.Spec PyProof.Rows L2
def W0 : WX := fun _ _ _ _ => False
def wipeE (env : Env) : List Nat → Env
  | [] => env
  | v :: vs => (wipeE env vs).set v none
theorem wipeE_get {env : Env} {i : Nat} {d : D} : ∀ {vs : List Nat}, (wipeE env vs)[i]? = some (some d) → env[i]? = some (some d) ∧ i ∉ vs
  | [], h => ⟨h, by simp⟩
  | v :: vs, h => by
    unfold wipeE at h
    rcases set_get h with ⟨_, h2, _⟩ | ⟨h1, h2⟩
    · cases h2
    · obtain ⟨h3, h4⟩ := wipeE_get h2
      exact ⟨h3, by simp [h1, h4]⟩
theorem wipeE_length (env : Env) : ∀ vs : List Nat, (wipeE env vs).length = env.length
  | [] => rfl
  | v :: vs => by unfold wipeE; rw [List.length_set, wipeE_length env vs]
section
variable {K : PySem.W.Frag} {M : List Nat} {U : AS} {S : Nat → AS} {H : Hp} {σ : L2.St} {env : Env}
theorem Rel.wipe (r : Rel K M U S H σ env) (vs : List Nat) : Rel K M U S H (L2.wipe σ vs) (wipeE env vs) where
  own := fun i d hi he => by
    obtain ⟨h1, h2⟩ := wipeE_get he
    obtain ⟨v, h3, h4⟩ := r.own i d hi h1
    exact ⟨v, by rw [wipe_out h2]; exact h3, h4⟩
  frz := fun i d hi he => by
    obtain ⟨h1, h2⟩ := wipeE_get he
    obtain ⟨v, h3, h4⟩ := r.frz i d hi h1
    exact ⟨v, by rw [wipe_out h2]; exact h3, h4⟩
  dis := r.dis
  out := r.out
  nt := r.nt
  len := by rw [wipe_length, wipeE_length]; exact r.len
end
def compF (vs : List Nat) (g : D → Env → Option Env) (T : Env → O Bool) (E : Env → O D) (env : Env) : List D → O (List D)
  | [] => .ok []
  | d :: ds => match g d env with
    | none => .bad
    | some e1 => (noX (T e1)).bind fun k => match k with
      | true => (noX (E e1)).bind fun y => (compF vs g T E env ds).bind fun ys => .ok (y :: ys)
      | false => compF vs g T E env ds
def eComp (b : Bool) (vs : List Nat) (I : Env → O (List D)) (g : D → Env → Option Env) (T : Env → O Bool) (E : Env → O D) : Env → O (List D) := fun env => (I env).bind fun ds =>
  if (b || immL ds) && decide (ds.length ≤ sizeLine) then compF vs g T E (wipeE env vs) ds else .bad
abbrev Bk (X : Cx) (scope : Scope) (s : Shared) (H : Hp) (C : Addr) (cl : List (Str × Addr)) (fp : List Addr) : Cx := X.blk s H scope (compEnvC scope cl C X.env) fp
theorem immL_get : ∀ {ds : List D} {i : Nat} {d : D}, immL ds = true → ds[i]? = some d → imm d = true
  | [], _, _, _, h => by simp at h
  | _ :: _, 0, _, h, e => by simp at e; subst e; simp only [immL, Bool.and_eq_true] at h; exact h.1
  | _ :: ds, i + 1, _, h, e => by simp only [immL, Bool.and_eq_true] at h; exact immL_get h.2 (by simpa using e)
section
variable {X : Cx} {M : List Nat} {W : WX} {b : Bool} {own : List (Str × Nat)} {tg iter elt : Expr} {ifs : List Expr} {scope : Scope} {I : Env → O (List D)} {g : D → Env → Option Env} {T : Env → O Bool} {E : Env → O D}
theorem lc_pure {wi : TI} {gt : TG} {tt : TT} {te : TE}
    (hi : ∀ σ H env U S, Rel X.K M U S H σ env → ∀ Q, Po X.K W (zb b U S) H σ (itZ X.K (zb b U S)) Q (I env) → wi σ H Q)
    (hg : ∀ σ H env U S v d env1, Rel X.K M U S H σ env → Rp X.K (vis H (zo U S)) v d → g d env = some env1 → ∀ Q : L2.St → Hp → Prop, (∀ σ1, Rel X.K M U S H σ1 env1 → wipe σ1 (own.map (·.2)) = wipe σ (own.map (·.2)) → Q σ1 H) → gt v σ H Q)
    (ht : ∀ σ H env U S, Rel X.K M U S H σ env → ∀ Q, Po X.K W0 (zb b U S) H σ eqZ Q (T env) → tt σ H Q)
    (he : ∀ σ H env U S, Rel X.K M U S H σ env → ∀ Q, Po X.K W0 (zb b U S) H σ (rpZ X.K (zb b U S)) Q (E env) → te σ H Q)
    (σ : L2.St) (H : Hp) (env : Env) (U : AS) (S : Nat → AS) (r : Rel X.K M U S H σ env) (Q : VK) (hp : Po X.K W (zb b U S) H σ (nlZ X.K (zb b U S) H) Q (eComp b (own.map (·.2)) I g T E env)) :
    tLc wi gt tt te (own.map (·.2)) σ H Q := by
  have hp' : Po X.K W (zb b U S) H σ (nlZ X.K (zb b U S) H) Q ((I env).bind fun ds => if (b || immL ds) && decide (ds.length ≤ sizeLine) then compF (own.map (·.2)) g T E (wipeE env (own.map (·.2))) ds else .bad) := hp
  refine hi σ H env U S r _ (Po.step hp' fun ds J H1 hI e1 it h1 => ?_)
  intro L hL
  generalize hvs : own.map (·.2) = vs at *
  have hcond : (b || immL ds) = true ∧ ds.length ≤ sizeLine := by
    by_cases hc : ((b || immL ds) && decide (ds.length ≤ sizeLine)) = true
    · simpa using hc
    · rw [if_neg hc] at h1; exact h1.elim
  have h2 : Po X.K W (zb b U S) H1 σ (nlZ X.K (zb b U S) H) Q (compF vs g T E (wipeE env vs) ds) := by
    have hc : ((b || immL ds) && decide (ds.length ≤ sizeLine)) = true := by simpa using hcond
    rw [if_pos hc] at h1; exact h1
  obtain ⟨yss, hys⟩ : ∃ ys, compF vs g T E (wipeE env vs) ds = .ok ys := by
    cases hq : compF vs g T E (wipeE env vs) ds with
    | ok ys => exact ⟨ys, rfl⟩
    | bad => rw [hq] at h2; exact h2.elim
    | exc c d =>
      exfalso
      have : ∀ ds c d, compF vs g T E (wipeE env vs) ds ≠ .exc c d := by
        intro ds
        induction ds with
        | nil => intro c d h; cases h
        | cons x xs ih =>
          intro c d h
          unfold compF at h
          split at h
          · cases h
          · rename_i e1 _
            cases hT : T e1 with
            | ok k =>
              rw [hT] at h
              simp only [noX, O.bind] at h
              cases k with
              | false => exact ih c d h
              | true =>
                simp only at h
                cases hE : E e1 with
                | ok y =>
                  rw [hE] at h
                  simp only [noX] at h
                  cases hr : compF vs g T E (wipeE env vs) xs with
                  | ok ys => rw [hr] at h; cases h
                  | exc c' d' => exact ih c' d' hr
                  | bad => rw [hr] at h; cases h
                | exc _ _ => rw [hE] at h; cases h
                | bad => rw [hE] at h; cases h
            | exc _ _ => rw [hT] at h; cases h
            | bad => rw [hT] at h; cases h
      exact this ds c d hq
  rw [hys] at h2
  obtain ⟨G, Y, wk, hG, hY⟩ := it
  let TL : AS := fun a => a = L
  have hLH : H L = none := fresh_back e1 hL
  refine lc_it wk (Pv := fun i H' => i ≤ ds.length ∧ Ex H1 H' ∧ ∃ acc ys zs, H' L = some (.lst acc) ∧ RpL X.K (vis H' (un (zb b U S) TL)) acc ys ∧ acc.length ≤ i ∧ compF vs g T E (wipeE env vs) (ds.drop i) = .ok zs ∧ ys ++ zs = yss) ?_ ?_ ?_ ?_
  · exact ⟨Nat.zero_le _, Ex.new hL, [], [], yss, upd_same, .nil, Nat.le_refl _, by simpa using hys, rfl⟩
  · rintro i H' hi ⟨_, ex, _⟩
    exact hG H' fun a o t h => ex.at (of_vis h).1 t
  · rintro i x H' H'' hi ⟨_, ex, acc, ys, zs, hl, ra, hal, hc, heq⟩ y
    have rel1 : Rel X.K M (un U TL) S H' (wipe σ vs) (wipeE env vs) := by
      have q : Rel X.K M (un U TL) S H' σ env := (r.mono e1).hide ex (fun a e => by cases e; exact hL) fun a e => by
        cases e
        exact (nt_of hl rfl)
      exact q.wipe vs
    have nt' : Nt X.K H' (zb b (un U TL) S) := rel1.ntb b
    have hvv : Exo (vis H1 (zb b U S)) (vis H' (zb b (un U TL) S)) := fun a o t h => by
      obtain ⟨h3, h4⟩ := of_vis h
      refine vis_in (ex.at h3 t) fun z => ?_
      rcases z with (z | z) | z
      · exact h4 (.inl z)
      · cases z; rw [hL] at h3; cases h3
      · exact h4 (.inr z)
    obtain ⟨ey, d, hd, rx⟩ := hY i H' x H'' _ nt' hvv y
    have rel2 := rel1.mono ey
    have rx2 : Rp X.K (vis H'' (zo (un U TL) S)) x d := by
      cases b with
      | true => rw [zb_true] at rx; exact rx
      | false =>
        have him : immL ds = true := by simpa using hcond.1
        exact imm_up rel2.nt (immL_get him hd) rx
    have hdrop : ds.drop i = d :: ds.drop (i + 1) := by
      obtain ⟨hlt, he⟩ := List.getElem?_eq_some_iff.mp hd
      rw [List.drop_eq_getElem_cons hlt, he]
    rw [hdrop] at hc
    unfold compF at hc
    cases hgd : g d (wipeE env vs) with
    | none => rw [hgd] at hc; cases hc
    | some e2 =>
      rw [hgd] at hc
      simp only at hc
      refine hg (wipe σ vs) H'' (wipeE env vs) (un U TL) S x d e2 rel2 rx2 hgd _ fun σ2 rel3 hw => ?_
      have hww : wipe σ2 vs = wipe σ vs := by
        rw [hw]
        have : ∀ (vs : List Nat) (σ : L2.St), wipe (wipe σ vs) vs = wipe σ vs := by
          intro vs σ
          apply List.ext_getElem?
          intro j
          by_cases hj : j ∈ vs
          · have h1 : ∀ τ : L2.St, τ.length = σ.length → (wipe τ vs)[j]? = if j < σ.length then some none else none := by
              intro τ hτ
              have hlen : (wipe τ vs).length = σ.length := by rw [wipe_length]; exact hτ
              by_cases hjl : j < σ.length
              · rw [if_pos hjl]
                cases hz : (wipe τ vs)[j]? with
                | none => rw [List.getElem?_eq_none_iff] at hz; omega
                | some o =>
                  cases o with
                  | none => rfl
                  | some v => exact absurd hj (wipe_some hz).2
              · rw [if_neg hjl]
                exact List.getElem?_eq_none (by omega)
            rw [h1 _ (wipe_length σ vs), h1 σ rfl]
          · rw [wipe_out hj]
        exact this vs σ
      refine ⟨hww, ?_⟩
      cases hT : T e2 with
      | exc _ _ => rw [hT] at hc; cases hc
      | bad => rw [hT] at hc; cases hc
      | ok k =>
        rw [hT] at hc
        simp only [noX, O.bind] at hc
        refine ht σ2 H'' e2 (un U TL) S rel3 _ ?_
        rw [hT]
        rintro k' H3 e3 rfl
        cases k' with
        | false =>
          simp only at hc
          refine ⟨hi, fun a o h => e3 a o (ey a o (ex a o h)), acc, ys, zs, e3.at (ey.at hl), ra.mono ?_, by omega, hc, heq⟩
          exact vis_mono (ey.trans e3)
        | true =>
          simp only at hc
          cases hE : E e2 with
          | exc _ _ => rw [hE] at hc; cases hc
          | bad => rw [hE] at hc; cases hc
          | ok y1 =>
            rw [hE] at hc
            simp only [noX] at hc
            refine he σ2 H3 e2 (un U TL) S (rel3.mono e3) _ ?_
            rw [hE]
            intro v1 H4 e4 rv1
            cases hrec : compF vs g T E (wipeE env vs) (ds.drop (i + 1)) with
            | exc _ _ => rw [hrec] at hc; cases hc
            | bad => rw [hrec] at hc; cases hc
            | ok zs1 =>
              rw [hrec] at hc
              have hz : y1 :: zs1 = zs := by
                have := hc
                simp only [O.ok.injEq] at this
                exact this
              have e14 : Ex H' H4 := (ey.trans e3).trans e4
              have hl4 := e14.at hl
              refine ⟨acc, hl4, by omega, hi, ?_, acc ++ [v1], ys ++ [y1], zs1, upd_same, ?_, by simp; omega, rfl, by rw [← heq, ← hz]; simp⟩
              · intro a o h
                have ne : a ≠ L := fun e => by subst e; exact h.ne hL
                exact (e14 a o (ex a o h)).upd ne (oth_at (by assumption))
              · have hsame : Exo (vis H4 (un (zb b U S) TL)) (vis (upd H4 L (.lst (acc ++ [v1]))) (un (zb b U S) TL)) := fun a o t h => by
                  obtain ⟨h5, h6⟩ := of_vis h
                  have ne : a ≠ L := fun e => h6 (.inr e)
                  exact vis_in (by rw [upd_ne ne]; exact h5) h6
                refine RpL.append ((ra.mono (vis_mono e14)).mono hsame) (.cons ?_ .nil)
                have rv2 : Rp X.K (vis H4 (un (zb b U S) TL)) v1 y1 := by
                  have : zb b (un U TL) S = un (zb b U S) TL := by
                    funext a
                    apply propext
                    constructor
                    · rintro ((z | z) | z)
                      · exact .inl (.inl z)
                      · exact .inr z
                      · exact .inl (.inr z)
                    · rintro ((z | z) | z)
                      · exact .inl (.inl z)
                      · exact .inr z
                      · exact .inl (.inr z)
                  rw [← this]
                  exact rv1
                exact rv2.mono hsame
  · rintro H' ⟨_, ex, acc, ys, zs, hl, ra, hal, hc, heq⟩
    rw [List.drop_length] at hc
    cases hc
    rw [List.append_nil] at heq
    subst heq
    exact h2 _ H' ex ⟨L, acc, rfl, hLH, hl, ra.mono (vis_sub fun a z => .inl z)⟩
end
end Rf
namespace Rf
open PySem PySem.Spec PyProof.Rows L2
def cP (K : PySem.W.Frag) (M : List Nat) (W : WX) (b : Bool) (F : Env → O D) : TE := fun σ H Q => ∃ env U S, Rel K M U S H σ env ∧ Po K W (zb b U S) H σ (rpZ K (zb b U S)) Q (F env)
def cT (K : PySem.W.Frag) (M : List Nat) (W : WX) (b : Bool) (F : Env → O Bool) : TT := fun σ H Q => ∃ env U S, Rel K M U S H σ env ∧ Po K W (zb b U S) H σ eqZ Q (F env)
def cG (K : PySem.W.Frag) (M : List Nat) (vs : List Nat) (g : D → Env → Option Env) : TG := fun v σ H Q => ∃ env U S d env1, Rel K M U S H σ env ∧ Rp K (vis H (zo U S)) v d ∧ g d env = some env1 ∧ ∀ σ1, Rel K M U S H σ1 env1 → wipe σ1 vs = wipe σ vs → (∀ j, j ∉ vs → σ1[j]? = σ[j]?) → Q σ1 H
section
variable {X : Cx} {M : List Nat} {W : WX} {b : Bool} {own : List (Str × Nat)} {tg iter elt c e : Expr} {ifs : List Expr} {scope : Scope} {I : Env → O (List D)} {g : D → Env → Option Env} {T : Env → O Bool} {E : Env → O D} {vs : List Nat}
theorem SP.pe {F : Env → O D} (h : SP X M W b e F) : PE X e (cP X.K M W b F) := by
  obtain ⟨t, p, q⟩ := h
  refine ⟨fun pins s σ H Q I hw => p.run pins s σ H Q I ?_⟩
  obtain ⟨env, U, S, r, hp⟩ := hw
  exact q σ H env U S r Q hp
theorem STp.pt {F : Env → O Bool} (h : STp X M W b e F) : PT X e (cT X.K M W b F) := by
  obtain ⟨t, p, q⟩ := h
  refine ⟨fun pins s σ H Q I hw => p.run pins s σ H Q I ?_⟩
  obtain ⟨env, U, S, r, hp⟩ := hw
  exact q σ H env U S r Q hp
theorem SG.pg (h : SG X M vs tg g) : PG X tg (cG X.K M vs g) := by
  obtain ⟨t, p, q⟩ := h
  refine ⟨fun pins s σ H v u Q I rv hw => p.run pins s σ H v u Q I rv ?_⟩
  obtain ⟨env, U, S, d, env1, r, rp, hg, k⟩ := hw
  exact q σ H env U S v d env1 r rp hg Q k
inductive Tst where
  | no
  | one (F : Env → O Bool)
def Tst.f : Tst → Env → O Bool
  | .no => fun _ => .ok true
  | .one F => F
def tTst (K : PySem.W.Frag) (M : List Nat) (W : WX) (b : Bool) : Tst → TT
  | .no => tYes
  | .one F => cT K M W b F
def STs (X : Cx) (M : List Nat) (W : WX) (b : Bool) : List Expr → Tst → Prop
  | [], .no => True
  | [c], .one F => STp X M W b c F
  | _, _ => False
theorem STs.pts {t : Tst} (h : STs X M W b ifs t) : PTs X ifs (tTst X.K M W b t) := by
  match ifs, t, h with
  | [], .no, _ => exact pts_nil
  | [c], .one F, h => exact pts_one (STp.pt h)
structure Lc (X : Cx) (M : List Nat) (W : WX) (b : Bool) (own : List (Str × Nat)) (tg iter elt : Expr) (ifs : List Expr) (scope : Scope) (I : Env → O (List D)) (g : D → Env → Option Env) (T : Tst) (E : Env → O D) : Prop where
  it : SI X M W b tg iter I
  ok : BlkOk X.N X.env.scope scope own
  tg : ∀ (s : Shared) (H : Hp) (C : Addr) (cl : List (Str × Addr)) (fp : List Addr), SG (Bk X scope s H C cl fp) M (own.map (·.2)) tg g
  ts : ∀ (s : Shared) (H : Hp) (C : Addr) (cl : List (Str × Addr)) (fp : List Addr), STs (Bk X scope s H C cl fp) M W0 b ifs T
  el : ∀ (s : Shared) (H : Hp) (C : Addr) (cl : List (Str × Addr)) (fp : List Addr), SP (Bk X scope s H C cl fp) M W0 b elt E
theorem Lc.run {T : Tst} (h : Lc X M W b own tg iter elt ifs scope I g T E) : ∃ wi : TI, PI X tg iter wi ∧ ∀ σ H env U S, Rel X.K M U S H σ env → ∀ Q, Po X.K W (zb b U S) H σ (nlZ X.K (zb b U S) H) Q (eComp b (own.map (·.2)) I g T.f E env) →
    tLc wi (cG X.K M (own.map (·.2)) g) (tTst X.K M W0 b T) (cP X.K M W0 b E) (own.map (·.2)) σ H Q := by
  obtain ⟨wi, pi, qi⟩ := h.it
  refine ⟨wi, pi, fun σ H env U S r Q hp => lc_pure (M := M) (W := W) (b := b) qi ?_ ?_ ?_ σ H env U S r Q hp⟩
  · exact fun σ H env U S v d env1 r rp hg Q k => ⟨env, U, S, d, env1, r, rp, hg, fun σ1 a b _ => k σ1 a b⟩
  · intro σ H env U S r Q hp
    cases T with
    | no => exact hp true H (Ex.refl H) rfl
    | one F => exact ⟨env, U, S, r, hp⟩
  · exact fun σ H env U S r Q hp => ⟨env, U, S, r, hp⟩
theorem spl_comp {k : Nat} {T : Tst} {pos : Pos} (G : Gd X W k) (h : Lc X M W b own tg iter elt ifs scope I g T E) (hs : ∀ x, foldedSetIterable iter X.env x = pure x := by intro _; rfl) :
    SPL X M W b (.ListComp elt [⟨tg, iter, ifs, 0⟩] scope pos) (eComp b (own.map (·.2)) I g T.f E) := by
  obtain ⟨wi, pi, q⟩ := h.run
  exact ⟨_, pe_lc G.calm G.nd pi h.ok (fun s H C cl fp => (h.tg s H C cl fp).pg) (fun s H C cl fp => (h.ts s H C cl fp).pts) (fun s H C cl fp => (h.el s H C cl fp).pe) hs, q⟩
def AsgL (X : Cx) (M : List Nat) (W : WX) (b : Bool) (i : Nat) (st : Stmt) (F : Env → O (List D)) : Prop :=
  ∃ t : TE, PS X st (tAsg t (gName i)) ∧ ∀ σ H env U S, Rel X.K M U S H σ env → ∀ Q, Po X.K W (zb b U S) H σ (nlZ X.K (zb b U S) H) Q (F env) → t σ H Q
theorem asgL_comp {k i : Nat} {y : Str} {T : Tst} {py pos spos : Pos} (G : Gd X W k) (hy : X.N[i]? = some y) (hyl : X.env.scope.names.lookup y = some .local) (h : Lc X M W b own tg iter elt ifs scope I g T E)
    (hsw : swapsWith (.ListComp elt [⟨tg, iter, ifs, 0⟩] scope pos) (some (.Name y py)) spos.line X.env = pure true) (hs : ∀ x, foldedSetIterable iter X.env x = pure x := by intro _; rfl) :
    AsgL X M W b i (.Assign [.Name y py] (.ListComp elt [⟨tg, iter, ifs, 0⟩] scope pos) spos) (eComp b (own.map (·.2)) I g T.f E) := by
  obtain ⟨wi, pi, q⟩ := h.run
  exact ⟨_, ps_setLc G.calm G.nd hy hyl hsw pi h.ok (fun s H C cl fp => (h.tg s H C cl fp).pg) (fun s H C cl fp => (h.ts s H C cl fp).pts) (fun s H C cl fp => (h.el s H C cl fp).pe) hs, q⟩
theorem AsgL.toE {i : Nat} {st : Stmt} {F : Env → O (List D)} (h : AsgL X M W true i st F) : AsgE X M W i st (lift fun env => mkL (F env)) := by
  obtain ⟨t, p, q⟩ := h
  refine ⟨t, p, fun σ H env U S r Q hp => q σ H env U S r Q ?_⟩
  rw [zb_true]
  have h0 : Po X.K W (zo U S) H σ (rpZ X.K (zo U S)) Q (mkL (F env)) := PoE.pure r hp fun _ _ _ _ h => h
  cases hF : F env with
  | ok ds =>
    rw [hF] at h0
    rintro v H' ex ⟨p, vs, rfl, hn, hl, rp⟩
    exact h0 _ H' ex (.lst (vis_in hl fun z => absurd hn (r.nt.hid p z).1) rp)
  | exc c d => rw [hF] at h0; exact h0
  | bad => rw [hF] at h0; exact h0.elim
end
end Rf
namespace Rf
open PySem PySem.Spec PyProof.Rows L2
section
variable {K : PySem.W.Frag} {G : Pl} {U : AS} {S S' : Nat → AS} {H H' : Hp} {σ σ' : L2.St} {env : Env}
theorem PostS.vis (p : PostS K G U S H σ S' H' σ' env) : Exo (Rf.vis H (zo U S)) (Rf.vis H' (zo U S')) := fun a o t h => by
  obtain ⟨h1, h2⟩ := of_vis h
  refine vis_in (p.at h1 (fun i z => h2 (.inr ⟨i, z⟩)) t) fun z => ?_
  rcases z with z | ⟨i, z⟩
  · exact h2 (.inl z)
  · rcases p.grow i a z with ⟨j, q⟩ | q
    · exact h2 (.inr ⟨j, q⟩)
    · rw [q] at h1; cases h1
end
abbrev itE (K : PySem.W.Frag) (U : AS) : (Nat → AS) → Hp → It → List D → Prop := fun S' H' J ds => ItOk K J (vis H' (zo U S')) ds
def SIe (X : Cx) (M : List Nat) (W : WX) (tg iter : Expr) (F : Env → R (List D)) : Prop :=
  ∃ wi : TI, PI X tg iter wi ∧ ∀ σ H env U S, Rel X.K M U S H σ env → ∀ Q, PoE X.K M W U S H σ (itE X.K U) Q (F env) → wi σ H Q
section
variable {X : Cx} {G : Pl} {M : List Nat} {W : WX} {tg iter e : Expr}
theorem SI.sie {F : Env → O (List D)} (h : SI X M W true tg iter F) : SIe X M W tg iter (fun env => (F env).at env) := by
  obtain ⟨t, p, q⟩ := h
  refine ⟨t, p, fun σ H env U S r Q hp => q σ H env U S r Q ?_⟩
  rw [zb_true]
  exact PoE.pure r hp fun _ _ _ _ h => h
def forL (g : D → Env → Option Env) (B : Env → Fl) : List D → Env → Fl
  | [], env => .nx env
  | d :: ds, env => match g d env with
    | none => .bad
    | some e1 => match B e1 with
      | .nx e2 => forL g B ds e2
      | .rt d e => .rt d e
      | .exc c d e => .exc c d e
      | .bad => .bad
def sFor (I : Env → R (List D)) (g : D → Env → Option Env) (B : Env → Fl) : Env → Fl := fun env => match I env with
  | .ok ds e => forL g B ds e
  | .exc c d e => .exc c d e
  | .bad => .bad
theorem s_for {k : Nat} {I : Env → R (List D)} {g : D → Env → Option Env} {B : Env → Fl} {body : List Stmt} {vs : List Nat} {pos : Pos} (gd : Gd X W k) (hi : SIe X G.M W tg iter I) (hg : SG X G.M vs tg g) (hv : vs.all (fun i => !G.Pm.contains i) = true) (hb : SSs X G W body B)
    (hs : ∀ x, foldedSetIterable iter X.env x = pure x := by intro _; rfl) : SS X G W (.For tg iter body [] pos) (sFor I g B) := by
  obtain ⟨wi, pi, qi⟩ := hi
  obtain ⟨tg', pg, qg⟩ := hg
  obtain ⟨tb, pb, qb⟩ := hb
  have hv' : ∀ i, i ∈ G.Pm → i ∉ vs := by
    intro i hi hm
    have := List.all_eq_true.mp hv i hm
    simp at this
    exact this hi
  refine ⟨_, ps_for gd.pass gd.calm pi pg pb hs, fun σ H env U S r E h => qi σ H env U S r _ ?_⟩
  unfold sFor at h
  cases hI : I env with
  | exc c d e => rw [hI] at h; exact fun dx v H' S' po x z rp => h dx v σ H' S' (.of po) x z rp
  | bad => rw [hI] at h; exact h
  | ok ds e0 =>
    rw [hI] at h
    intro J H1 S1 po it
    obtain ⟨Gi, Y, wk, hG, hY⟩ := it
    have h1 : PoS X.K G W U S1 H1 σ E (forL g B ds e0) := PoS.up (.of po) h
    refine for_it wk (Pv := fun i σ' H' => i ≤ ds.length ∧ ∃ e S', PostS X.K G U S1 H1 σ S' H' σ' e ∧ PoS X.K G W U S' H' σ' E (forL g B (ds.drop i) e)) ?_ ?_ ?_ ?_
    · exact ⟨Nat.zero_le _, e0, S1, PostS.refl po.rel, by simpa using h1⟩
    · rintro i σ' H' hi ⟨_, e, S', ps, _⟩
      exact hG H' fun a o t hh => (of_vis (ps.vis a o t hh)).1
    · rintro i x σ' H' H'' hi ⟨_, e, S', ps, hf⟩ y
      obtain ⟨ey, d, hd, rx⟩ := hY i H' x H'' _ ps.rel.nt ps.vis y
      have hdrop : ds.drop i = d :: ds.drop (i + 1) := by
        obtain ⟨hlt, he⟩ := List.getElem?_eq_some_iff.mp hd
        rw [List.drop_eq_getElem_cons hlt, he]
      rw [hdrop] at hf
      unfold forL at hf
      cases hgd : g d e with
      | none => rw [hgd] at hf; exact hf.elim
      | some e1 =>
        rw [hgd] at hf
        simp only at hf
        have rel2 := ps.rel.mono ey
        refine qg σ' H'' e U S' x d e1 rel2 rx hgd _ fun σ1 rel3 _ hk => ?_
        have ps1 : PostS X.K G U S' H' σ' S' H'' σ1 e1 := ⟨rel3, fun a o hh _ => ey a o hh, fun j a z => .inl ⟨j, z⟩, fun j hj => hk j (hv' j hj)⟩
        have ps2 := ps.trans ps1
        refine qb σ1 H'' e1 U S' rel3 _ ?_
        cases hB : B e1 with
        | nx e2 =>
          rw [hB] at hf
          intro σ2 H2 S2 ps3
          exact ⟨hi, e2, S2, ps2.trans ps3, PoS.up (ps1.trans ps3) hf⟩
        | rt d' e2 =>
          rw [hB] at hf
          exact PoS.up (E := E) (f := .rt d' e2) ps1 hf
        | exc c' d' e2 =>
          rw [hB] at hf
          exact PoS.up (E := E) (f := .exc c' d' e2) ps1 hf
        | bad => rw [hB] at hf; exact hf.elim
    · rintro σ' H' ⟨_, e, S', ps, hf⟩
      rw [List.drop_length] at hf
      exact hf σ' H' S' (PostS.refl ps.rel)
def sBad : Env → Fl := fun _ => .bad
open Classical in
theorem Rel.drop {K : PySem.W.Frag} {U : AS} {S : Nat → AS} {H : Hp} {σ : L2.St} {env : Env} {i : Nat} (r : Rel K M U S H σ env) : Rel K M (un U (S i)) (fun j => if j = i then fun _ => False else S j) H σ (env.set i none) where
  own := fun j d hj he => by
    rcases set_get he with ⟨rfl, h, _⟩ | ⟨ne, he⟩
    · cases h
    · obtain ⟨v, h1, h2⟩ := r.own j d hj he
      exact ⟨v, h1, by simpa [ne] using h2⟩
  frz := fun j d hj he => by
    rcases set_get he with ⟨rfl, h, _⟩ | ⟨ne, he⟩
    · cases h
    · obtain ⟨v, h1, h2⟩ := r.frz j d hj he
      refine ⟨v, h1, h2.mono (vis_sub fun a z => ?_)⟩
      rcases z with (z | z) | ⟨k, z⟩
      · exact .inl z
      · exact .inr ⟨i, z⟩
      · by_cases hk : k = i
        · rw [if_pos hk] at z; exact z.elim
        · rw [if_neg hk] at z; exact .inr ⟨k, z⟩
  dis := fun j k a ne h1 h2 => by
    by_cases hj : j = i
    · rw [if_pos hj] at h1; exact h1
    · rw [if_neg hj] at h1
      by_cases hk : k = i
      · rw [if_pos hk] at h2; exact h2
      · rw [if_neg hk] at h2; exact r.dis j k a ne h1 h2
  out := fun j a h u => by
    by_cases hj : j = i
    · rw [if_pos hj] at h; exact h
    · rw [if_neg hj] at h
      rcases u with u | u
      · exact r.out j a h u
      · exact r.dis j i a hj h u
  nt := Nt.of r.nt.tab fun a z => by
    rcases z with (z | z) | ⟨k, z⟩
    · exact r.nt.hid a (.inl z)
    · exact r.nt.hid a (.inr ⟨i, z⟩)
    · by_cases hk : k = i
      · rw [if_pos hk] at z; exact z.elim
      · rw [if_neg hk] at z; exact r.nt.hid a (.inr ⟨k, z⟩)
  len := by simpa using r.len
def eMove (i : Nat) : Env → R D := fun env => match env[i]? with
  | some (some d) => .ok d (env.set i none)
  | _ => .bad
open Classical in
theorem so_move {i : Nat} {x : Str} {pos : Pos} (hM : M.contains i = true) (hN : X.N[i]? = some x) (hv : Vis X.env.scope x) (hd : (x == ("__debug__" : Str)) = false := by decide) (hcd : (x == ("__classdict__" : Str)) = false := by decide) : SO X M W (.Name x pos) (eMove i) := by
  refine ⟨_, pe_var hN hv hd hcd, fun σ H env U S r Q hp => ?_⟩
  have hM' : i ∈ M := by simpa using hM
  unfold eMove at hp
  split at hp
  · rename_i d he
    obtain ⟨v, h1, h2⟩ := r.own i d hM' he
    refine ⟨v, h1, hp v H (fun j => if j = i then fun _ => False else S j) (S i) ⟨?_, fun a o hh _ => hh, fun j a z => ?_⟩ r.drop h2 (fun a z u => r.out i a z u) fun a z => .inl ⟨i, z⟩⟩
    · have q := r.drop (i := i)
      refine ⟨q.own, fun j d' hj he' => ?_, q.dis, fun j a z u => q.out j a z (.inl u), Nt.of q.nt.tab fun a z => q.nt.hid a (z.elim (fun z => .inl (.inl z)) .inr), q.len⟩
      obtain ⟨w, h3, h4⟩ := q.frz j d' hj he'
      exact ⟨w, h3, h4.mono (vis_sub fun a z => z.elim (fun z => .inl (.inl z)) .inr)⟩
    · by_cases hj : j = i
      · rw [if_pos hj] at z; exact z.elim
      · rw [if_neg hj] at z; exact .inl ⟨j, z⟩
  · exact hp.elim
end
end Rf
namespace Rf
open PySem PySem.Spec PyProof.Rows L2
section
variable {K : PySem.W.Frag} {M : List Nat} {U T S1 : AS} {S : Nat → AS} {H H' : Hp} {σ : L2.St} {env : Env} {i : Nat} {v : V} {d d' : D}
open Classical in
theorem Rel.mut (r : Rel K M (un U T) S H σ env) (hi : i ∈ M) (hv : σ[i]? = some (some v)) (chg : Chg (S i) H H') (ow : Ow K H' v d' S1) (s1 : ∀ b, S1 b → S i b ∨ T b ∨ H b = none) (nu : ∀ a, T a → ¬ U a) :
    Rel K M U (fun j => if j = i then S1 else S j) H' σ (env.set i (some d')) := by
  have st : Stay H H' := fun a o k h => chg.at h (fun z => nt_not r.nt k h (.inr ⟨i, z⟩)) (imc_nb k)
  refine ⟨fun j d2 hj he => ?_, fun j d2 hj he => ?_, fun j k a ne h1 h2 => ?_, fun j a h u => ?_, Nt.of (fun t ht => chg _ (.tb "") (r.nt.tab t ht) fun z => ?_) fun a z => ?_, by simpa using r.len⟩
  · rcases set_get he with ⟨rfl, hd, hl⟩ | ⟨ne, he⟩
    · cases hd
      exact ⟨v, hv, by simpa using ow⟩
    · obtain ⟨w, h1, h2⟩ := r.own j d2 hj he
      refine ⟨w, h1, ?_⟩
      simp only [ne, if_false]
      exact h2.carry st fun a o hs ho => chg a o ho fun z => r.dis j i a ne hs z
  · rcases set_get he with ⟨rfl, _, _⟩ | ⟨ne, he⟩
    · exact absurd hi hj
    · obtain ⟨w, h1, h2⟩ := r.frz j d2 hj he
      refine ⟨w, h1, h2.mono fun a o t h => ?_⟩
      obtain ⟨h3, h4⟩ := of_vis h
      refine vis_in (chg.at h3 (fun z => h4 (.inr ⟨i, z⟩)) t) fun z => ?_
      rcases z with z | ⟨k, z⟩
      · exact h4 (.inl (.inl z))
      · by_cases hk : k = i
        · rw [if_pos hk] at z
          rcases s1 a z with q | q | q
          · exact h4 (.inr ⟨i, q⟩)
          · exact h4 (.inl (.inr q))
          · rw [q] at h3; cases h3
        · rw [if_neg hk] at z; exact h4 (.inr ⟨k, z⟩)
  · have key : ∀ k, k ≠ i → S1 a → S k a → False := fun k hk q1 q2 => by
      rcases s1 a q1 with q | q | q
      · exact r.dis k i a hk q2 q
      · exact r.out k a q2 (.inr q)
      · exact (r.nt.hid a (.inr ⟨k, q2⟩)).1 q
    by_cases hj : j = i
    · rw [if_pos hj] at h1
      have hk : k ≠ i := fun e => ne (hj.trans e.symm)
      rw [if_neg hk] at h2
      exact key k hk h1 h2
    · rw [if_neg hj] at h1
      by_cases hk : k = i
      · rw [if_pos hk] at h2; exact key j hj h2 h1
      · rw [if_neg hk] at h2; exact r.dis j k a ne h1 h2
  · by_cases hj : j = i
    · rw [if_pos hj] at h
      rcases s1 a h with q | q | q
      · exact r.out i a q (.inl u)
      · exact nu a q u
      · exact (r.nt.hid a (.inl (.inl u))).1 q
    · rw [if_neg hj] at h; exact r.out j a h (.inl u)
  · obtain ⟨ps, e, _⟩ := r.nt.tab t ht
    have := (r.nt.hid _ (.inr ⟨i, z⟩)).2 _ e
    cases this
  · have keep : ¬ S i a → zo (un U T) S a → H' a ≠ none ∧ Oth (H' a) := fun ns hz => by
      obtain ⟨h1, h2⟩ := r.nt.hid a hz
      cases hh : H a with
      | none => exact absurd hh h1
      | some o =>
        exact nt_of (chg.at hh ns (hdb_nb (h2 o hh))) (h2 o hh)
    rcases z with z | ⟨k, z⟩
    · exact keep (fun q => r.out i a q (.inl z)) (.inl (.inl z))
    · by_cases hk : k = i
      · rw [if_pos hk] at z; exact ow.nt a z
      · rw [if_neg hk] at z; exact keep (fun q => r.dis k i a hk z q) (.inr ⟨k, z⟩)
theorem OwL.append {vs ws : List V} {ds es : List D} {S1 S2 S3 : AS} (a : OwL K H vs ds S1) (b : OwL K H ws es S2) (dj : ∀ x, S1 x → S2 x → False) (e : ∀ x, S3 x ↔ S1 x ∨ S2 x) : OwL K H (vs ++ ws) (ds ++ es) S3 := by
  match a with
  | .nil n =>
    have : S3 = S2 := funext fun x => propext ((e x).trans ⟨fun z => z.elim (fun q => absurd q (n x)) id, .inr⟩)
    rw [this]
    exact b
  | .cons (T := T1) (R := R1) o t dd ee =>
    refine .cons (T := T1) (R := fun x => R1 x ∨ S2 x) o (OwL.append t b (fun x h1 h2 => dj x ((ee x).mpr (.inr h1)) h2) fun x => Iff.rfl) (fun x h1 h2 => ?_) fun x => ?_
    · rcases h2 with h2 | h2
      · exact dd x h1 h2
      · exact dj x ((ee x).mpr (.inl h1)) h2
    · rw [e x, ee x]
      constructor
      · rintro ((h | h) | h)
        · exact .inl h
        · exact .inr (.inl h)
        · exact .inr (.inr h)
      · rintro (h | h | h)
        · exact .inl (.inl h)
        · exact .inl (.inr h)
        · exact .inr h
theorem OwL.length {S3 : AS} : ∀ {vs : List V} {ds : List D}, OwL K H vs ds S3 → vs.length = ds.length := fun h => h.rp.length
end
section
variable {X : Cx} {G : Pl} {M : List Nat} {W : WX} {i : Nat} {x : Str} {e : Expr} {F : Env → R D} {p1 apos cpos pos : Pos}
theorem lst_ow {K : PySem.W.Frag} {H : Hp} {v : V} {ds : List D} {S : AS} (h : Ow K H v (.lst ds) S) : ∃ a vs T, v = .ref a ∧ H a = some (.lst vs) ∧ OwL K H vs ds T ∧ ¬ T a ∧ ∀ b, S b ↔ b = a ∨ T b := by
  cases h with
  | leaf i _ _ => simp [imm] at i
  | lst h1 h2 h3 h4 => exact ⟨_, _, _, rfl, h1, h2, h3, h4⟩
theorem lst_put {K : PySem.W.Frag} {M : List Nat} {U T : AS} {S : Nat → AS} {H : Hp} {σ : L2.St} {env : Env} {i : Nat} {a : Addr} {vs' : List V} {ds' : List D} {T' : AS} (r : Rel K M (un U T) S H σ env) (hi : i ∈ M) (hv : σ[i]? = some (some (.ref a))) (ha : S i a) {ws : List V} (hl : H a = some (.lst ws))
    (ol : OwL K (upd H a (.lst vs')) vs' ds' T') (na : ¬ T' a) (s1 : ∀ b, T' b → S i b ∨ T b ∨ H b = none) (nu : ∀ a, T a → ¬ U a) :
    ∃ S', Rel K M U S' (upd H a (.lst vs')) σ (env.set i (some (.lst ds'))) ∧ (∀ b f, Hs H b f → (∀ j, ¬ S j b) → Hs (upd H a (.lst vs')) b f) ∧ (∀ j b, S' j b → (∃ k, S k b) ∨ T b ∨ H b = none) := by
  have chg : Chg (S i) H (upd H a (.lst vs')) := Chg.upd ha hl
  refine ⟨_, r.mut hi hv chg (S1 := fun b => b = a ∨ T' b) (.lst upd_same ol na fun b => Iff.rfl) (fun b z => ?_) nu, fun b o h n => chg b o h (n i), fun j b z => ?_⟩
  · rcases z with rfl | z
    · exact .inl ha
    · exact s1 b z
  · by_cases hj : j = i
    · simp only [hj, if_true] at z
      rcases z with rfl | z
      · exact .inl ⟨i, ha⟩
      · rcases s1 b z with q | q | q
        · exact .inl ⟨i, q⟩
        · exact .inr (.inl q)
        · exact .inr (.inr q)
    · simp only [hj, if_false] at z
      exact .inl ⟨j, z⟩
def isL : Option (Option D) → Bool
  | some (some (.lst _)) => true
  | _ => false
def sMut (i : Nat) (F : Env → R D) (f : List D → D → Option (List D)) : Env → Fl := fun env => if isL env[i]? then match F env with
  | .ok d e => match e[i]? with
    | some (some (.lst ds)) => match f ds d with
      | some ds' => .nx (e.set i (some (.lst ds')))
      | none => .bad
    | _ => .bad
  | .exc c d e => .exc c d e
  | .bad => .bad else .bad
theorem ow_tup {K : PySem.W.Frag} {H : Hp} {a : Addr} {o : HO} (h : Oth (H a)) : Stay H (upd H a o) := by
  intro b u i q
  rw [upd_ne fun e => ?_]
  · exact q
  · rw [e] at q
    have := hdb_imc (h u q)
    rw [i] at this
    cases this
theorem isL_ow {K : PySem.W.Frag} {U : AS} {S : Nat → AS} {H : Hp} {σ : L2.St} {env : Env} (r : Rel K M U S H σ env) (hM : i ∈ M) (h : isL env[i]? = true) : ∃ a vs, σ[i]? = some (some (.ref a)) ∧ H a = some (.lst vs) := by
  unfold isL at h
  split at h
  · rename_i ds he
    obtain ⟨v, h1, h2⟩ := r.own i _ hM he
    obtain ⟨a, vs, T, rfl, h3, _⟩ := lst_ow h2
    exact ⟨a, vs, h1, h3⟩
  · cases h
end
end Rf
namespace PySem.AutoSeq1
theorem ext_tup (l : Addr) (items : Array Value) (n : Nat) (b : Addr) (items2 : Array Value) (n2 : Nat) (dd : Option Addr) (sl : Array (Option Value)) (hs0 : ¬(!items.isEmpty && Builtin.List.listTooLong (items.size + items2.size)) = true) (hs1 : items.size ≤ sizeLine) (hs2 : items.size + items2.size ≤ sizeLine + 1 := by seq_fits) :
    Meets (Builtin.«list.extend» ⟨[.ref l, .ref b], []⟩) (fun _ R s => s.heap.get? l = some { cls := .type "list", dict := none, data := .seq items n, slots := #[] } ∧ s.heap.get? b = some { cls := .type "tuple", dict := dd, data := .seq items2 n2, slots := sl } ∧ R (.ok (.ret Value.none)) { s with heap := s.heap.update l (Obj.mapSeq fun x => x ++ items2), toks := s.toks }) :=
  .of_wp fun prog w A R s h => by
    obtain ⟨hp, g, d, tk, os⟩ := s; obtain ⟨hl, hb, h⟩ := h; have f1 := idx_int; have f2 := sub_tuple_tuple; have f3 := sub_list_list; have f4 := sub_tuple_list; have f5 := sub_list_tuple;
    have hz' : (items ++ items2).size ≤ sizeLine + 1 := by rw [Array.size_append]; exact hs2
    wp_walk using (wpAny_updateSeq hl rfl (hz := hs1) (_hz' := hz')), wpAny_loadPart' hl, wpAny_loadPart' hb; exact ⟨_, rfl, h⟩
end PySem.AutoSeq1
namespace Rf
open PySem PySem.Spec PyProof.Rows L2
section
variable {X : Cx} {G : Pl} {M : List Nat} {W : WX} {i : Nat} {x : Str} {e : Expr} {F : Env → R D} {p1 apos cpos pos : Pos}
def rExtendT (K : PySem.W.Frag) : V → List V → Hp → VK → Prop := fun x vs H Q => ∃ l b xs zs, x = .ref l ∧ vs = [.ref b] ∧ H l = some (.lst xs) ∧ SqT K H b zs ∧ xs.length + zs.length ≤ sizeLine ∧ Q .non (upd H l (.lst (xs ++ zs)))
theorem mt_extendT : MtM X "list.extend" (rExtendT X.K) := by
  intro pins s σ H x vs v us Q I rx rv h
  obtain ⟨l, b, xs, zs, rfl, rfl, hH, hB, hz, q⟩ := h
  cases rx
  obtain ⟨u, rfl, ru⟩ := rv.one
  cases ru
  obtain ⟨z, its, n, r, hl, e⟩ := I.lstM hH
  obtain ⟨its2, r2, ⟨⟨cls, dd, dat, sl⟩, e2, hc, n2, hd2⟩, hl2⟩ := I.tuple hB
  simp only at hc hd2
  subst hc hd2
  have hll := r2.length
  have hsz : its.toArray.size + its2.toArray.size ≤ sizeLine := by rw [List.size_toArray, List.size_toArray]; omega
  have hlong : ¬ (!its.toArray.isEmpty && Builtin.List.listTooLong (its.toArray.size + its2.toArray.size)) = true := by
    rw [notLongL hsz, Bool.and_false]
    exact Bool.false_ne_true
  refine call_meets F.slot_list_extend ⟨_, e, rfl⟩ F.entry_list_extend (F.args_list_extend_2 _ _)
    (PySem.AutoSeq1.ext_tup l its.toArray n b its2.toArray n2 dd sl hlong (by rw [List.size_toArray]; omega) (by omega)) ⟨e, e2, ?_⟩
  refine ⟨.non, _, I.lset (its' := its ++ its2) hH e (by simp) (r.append r2) ?_, rfl, q⟩
  rw [List.length_append]
  omega
def MutE (K : PySem.W.Frag) (r : V → List V → Hp → VK → Prop) (f : List D → D → Option (List D)) : Prop :=
  ∀ (H : Hp) (a : Addr) (vs : List V) (v : V) (ds : List D) (d : D) (ds' : List D) (T1 : AS) (Q : VK), H a = some (.lst vs) → OwL K H vs ds T1 → Rp K H v d → f ds d = some ds' →
    (∀ vs', OwL K H vs' ds' T1 → Q .non (upd H a (.lst vs'))) → r (.ref a) [v] H Q
theorem s_mutE {m : Str} {id : String} {r : V → List V → Hp → VK → Prop} {f : List D → D → Option (List D)} (mo : MutE X.K r f) (slot : Slot "list" m id) (hty : typeOf (.builtin id) = pure (.type "method_descriptor")) (hm : MtR X id r) (hM : G.M.contains i = true) (hN : X.N[i]? = some x) (hv : Vis X.env.scope x) (h : SE X G.M W e F) (hns : noStar [e] = true := by rfl) (hd : (x == ("__debug__" : Str)) = false := by decide) (hcd : (x == ("__classdict__" : Str)) = false := by decide)
    (hline : (apos.endLine == cpos.line) = true := by rfl) :
    SS X G W (.Expr (.Call (.Attribute (.Name x p1) m apos) [e] [] cpos) pos) (sMut i F f) := by
  obtain ⟨t, p, q⟩ := h
  obtain ⟨n1, n2⟩ := noStar_head hns X.env
  have hM' : i ∈ G.M := by simpa using hM
  refine ⟨_, ps_expr (pe_bm PySem.F.plainAttrs_list slot hty hm (pe_var hN hv hd hcd) (pa_cons p pa_nil n1) rfl (by rw [n1]; rfl) hline n1 rfl), fun σ H env U S r E h => ?_⟩
  unfold sMut at h
  cases hL : isL env[i]? with
  | false => rw [hL] at h; exact (show False by simpa [PoS] using h).elim
  | true =>
    rw [hL] at h
    simp only [if_true] at h
    obtain ⟨a, vs0, hs0, ha0⟩ := isL_ow r hM' hL
    refine ⟨.ref a, hs0, .inl ⟨rfl, vs0, SqL.of ha0⟩, q σ H env U S r _ ?_⟩
    cases hF : F env with
    | bad => rw [hF] at h; exact h.elim
    | exc c d e => rw [hF] at h; exact fun dx v H' S' po x z rp => h dx v σ H' S' (.of po) x z rp
    | ok d e1 =>
      rw [hF] at h
      simp only at h
      intro v H1 S1 po rp
      cases he : e1[i]? with
      | none => rw [he] at h; exact h.elim
      | some o =>
        cases o with
        | none => rw [he] at h; exact h.elim
        | some di =>
          cases di with
          | lst ds =>
            rw [he] at h
            simp only at h
            cases hf : f ds d with
            | none => rw [hf] at h; exact h.elim
            | some ds' =>
              rw [hf] at h
              obtain ⟨v', h1, h2⟩ := po.rel.own i _ hM' he
              have : v' = .ref a := by rw [hs0] at h1; cases h1; rfl
              subst this
              obtain ⟨a', vs, T1, e', h3, h4, h5, h6⟩ := lst_ow h2
              cases e'
              refine mo H1 a vs v ds d ds' T1 _ h3 h4 (rp.mono vis_ex) hf fun vs' ol => ?_
              have hup := ow_tup (K := X.K) (H := H1) (a := a) (o := .lst vs') (oth_at (by assumption))
              have ol' : OwL X.K (upd H1 a (.lst vs')) vs' ds' T1 := ol.carry hup fun b f hb ho => ho.upd (fun e => h5 (by rw [← e]; exact hb)) (oth_at (by assumption))
              obtain ⟨S', r', k1, k2⟩ := lst_put (U := U) (T := fun _ => False) (po.rel.out_eq (U' := un U fun _ => False) fun a => by simp [un]) hM' hs0 ((h6 a).mpr (.inl rfl)) h3 ol' h5 (fun b z => .inl ((h6 b).mpr (.inr z))) (fun _ h => h.elim)
              refine h σ _ S' ⟨r', fun b o hb n => ?_, fun j b z => ?_, fun _ _ => rfl⟩
              · refine k1 b o (po.keep b o hb n) fun j z => ?_
                rcases po.grow j b z with ⟨k, w⟩ | w
                · exact n k w
                · exact hb.ne w
              · rcases k2 j b z with ⟨k, w⟩ | w | w
                · exact po.grow k b w
                · exact w.elim
                · cases hb : H b with
                  | none => exact .inr rfl
                  | some o =>
                    left
                    refine Classical.byContradiction fun n => ?_
                    exact po.ne hb (fun k q => n ⟨k, q⟩) w
          | _ => rw [he] at h; exact h.elim
def fExt (ds : List D) : D → Option (List D)
  | .lst es => if immL es && decide (ds.length + es.length ≤ sizeLine) then some (ds ++ es) else none
  | .tup es => if immL es && decide (ds.length + es.length ≤ sizeLine) then some (ds ++ es) else none
  | _ => none
def rExtAll (K : PySem.W.Frag) : V → List V → Hp → VK → Prop := fun x vs H Q => rExtend x vs H Q ∨ rExtendT K x vs H Q
theorem mt_extAll : MtR X "list.extend" (rExtAll X.K) := MtR.or mt_extend mt_extendT
theorem me_extend {K : PySem.W.Frag} : MutE K (rExtAll K) fExt := by
  intro H a vs v ds d ds' T1 Q h1 h2 h3 h4 h5
  have l1 := h2.length
  cases h3 <;> try (simp [fExt] at h4; done)
  · rename_i b ws es hb rb
    have l2 := rb.length
    simp only [fExt] at h4
    split at h4
    · rename_i hl
      simp only [Bool.and_eq_true, decide_eq_true_eq] at hl
      cases h4
      exact .inr ⟨a, b, vs, ws, rfl, rfl, h1, hb, by omega, h5 _ (h2.append (immL_ow hl.1 rb) (fun _ _ h => h) fun b => by simp)⟩
    · cases h4
  · rename_i b ws es hb rb
    have l2 := rb.length
    simp only [fExt] at h4
    split at h4
    · rename_i hl
      simp only [Bool.and_eq_true, decide_eq_true_eq] at hl
      cases h4
      exact .inl ⟨a, b, vs, ws, rfl, rfl, h1, hb, by omega, h5 _ (h2.append (immL_ow hl.1 rb) (fun _ _ h => h) fun b => by simp)⟩
    · cases h4
theorem s_extend (hM : G.M.contains i = true) (hN : X.N[i]? = some x) (hv : Vis X.env.scope x) (h : SE X G.M W e F) (hns : noStar [e] = true := by rfl) (hd : (x == ("__debug__" : Str)) = false := by decide) (hcd : (x == ("__classdict__" : Str)) = false := by decide)
    (hline : (apos.endLine == cpos.line) = true := by rfl) :
    SS X G W (.Expr (.Call (.Attribute (.Name x p1) "extend" apos) [e] [] cpos) pos) (sMut i F fExt) := s_mutE me_extend PySem.F.slot_list_extend PySem.F.type_list_extend mt_extAll hM hN hv h hns hd hcd hline
end
end Rf
namespace Rf
open PySem PySem.Spec PyProof.Rows L2
section
variable {K : PySem.W.Frag} {M : List Nat} {U : AS} {S : Nat → AS} {H : Hp} {σ : L2.St} {env : Env} {i : Nat}
theorem own_put {a : Addr} {vs vs' : List V} {ds' : List D} {T1 T' : AS} (r : Rel K M U S H σ env) (hi : i ∈ M) (hv : σ[i]? = some (some (.ref a))) (ha : H a = some (.lst vs)) (h6 : ∀ b, S i b ↔ b = a ∨ T1 b) (h5 : ¬ T1 a) (hT : ∀ b, T' b → T1 b) (ol : OwL K H vs' ds' T') :
    ∃ S', Post K M U S H σ S' (upd H a (.lst vs')) (env.set i (some (.lst ds'))) := by
  have hup := ow_tup (K := K) (H := H) (a := a) (o := .lst vs') (oth_at (by assumption))
  have na : ¬ T' a := fun z => h5 (hT a z)
  have ol' : OwL K (upd H a (.lst vs')) vs' ds' T' := ol.carry hup fun b f hb ho => ho.upd (fun e => na (by rw [← e]; exact hb)) (oth_at (by assumption))
  obtain ⟨S', r', k1, k2⟩ := lst_put (U := U) (T := fun _ => False) (r.out_eq (U' := un U fun _ => False) fun a => by simp [un]) hi hv ((h6 a).mpr (.inl rfl)) ha ol' na (fun b z => .inl ((h6 b).mpr (.inr (hT b z)))) (fun _ h => h.elim)
  exact ⟨S', r', k1, fun j b z => (k2 j b z).elim .inl fun w => w.elim (fun f => f.elim) .inr⟩
theorem OwL.setI {K : PySem.W.Frag} {H : Hp} {v : V} {d : D} (hi : imm d = true) (hr : Rp K H v d) : ∀ {vs : List V} {ds : List D} {S : AS} (k : Nat), OwL K H vs ds S → ∃ S', OwL K H (vs.set k v) (ds.set k d) S' ∧ ∀ b, S' b → S b
  | _, _, S, _, .nil n => ⟨S, by simp; exact .nil n, fun _ h => h⟩
  | _, _, _, 0, .cons (R := R1) _ t _ e => ⟨R1, .cons (T := fun _ => False) (R := R1) (.leaf hi hr fun _ h => h) t (fun _ h => h.elim) fun b => by simp, fun b h => (e b).mpr (.inr h)⟩
  | _, _, _, k + 1, .cons (T := T1) (R := R1) o t d' e => by
    obtain ⟨S', h1, h2⟩ := OwL.setI hi hr k t
    exact ⟨fun b => T1 b ∨ S' b, .cons o h1 (fun b q1 q2 => d' b q1 (h2 b q2)) fun b => Iff.rfl, fun b h => (e b).mpr (h.imp id (h2 b))⟩
end
section
variable {X : Cx} {G : Pl} {M : List Nat} {W : WX} {i : Nat} {x : Str} {e ie : Expr} {F : Env → R D} {p1 apos cpos pos : Pos}
def sSetIx (i : Nat) (F : Env → R D) (I : Env → O D) : Env → Fl := fun env => match F env with
  | .ok d e => match e[i]?, I e with
    | some (some (.lst ds)), .ok (.int k) => match ixN ds.length k with
      | some j => if imm d then .nx (e.set i (some (.lst (ds.set j d)))) else .bad
      | none => .bad
    | _, _ => .bad
  | .exc c d e => .exc c d e
  | .bad => .bad
theorem s_setIx {I : Env → O D} (hM : G.M.contains i = true) (hN : X.N[i]? = some x) (hv : Vis X.env.scope x) (h : SE X G.M W e F) (hI : SP X G.M W false ie I) (hs : swapsWithSole [.Subscript (.Name x p1) ie apos] e pos.line X.env = pure false := by rfl) (hw : swappedStores [.Subscript (.Name x p1) ie apos] e X.env = pure none := by rfl)
    (pgs : ∀ to ti t, PE X (.Name x p1) to → PE X ie ti → PSet X t → PG X (.Subscript (.Name x p1) ie apos) (gSub to ti t) := by intro to ti t h1 h2 h3; exact pg_sub h1 h2 h3)
    (hd : (x == ("__debug__" : Str)) = false := by decide) (hcd : (x == ("__classdict__" : Str)) = false := by decide) :
    SS X G W (.Assign [.Subscript (.Name x p1) ie apos] e pos) (sSetIx i F I) := by
  obtain ⟨t, p, q⟩ := h
  obtain ⟨ti, pi, qi⟩ := hI
  have hM' : i ∈ G.M := by simpa using hM
  refine ⟨_, ps_asg p (pgs _ _ _ (pe_var hN hv hd hcd) pi set_list) hs hw, fun σ H env U S r E h => q σ H env U S r _ ?_⟩
  unfold sSetIx at h
  cases hF : F env with
  | bad => rw [hF] at h; exact h.elim
  | exc c d e => rw [hF] at h; exact fun dx v H' S' po x z rp => h dx v σ H' S' (.of po) x z rp
  | ok d e1 =>
    rw [hF] at h
    simp only at h
    intro v H1 S1 po rp
    cases he : e1[i]? with
    | none => rw [he] at h; exact h.elim
    | some o =>
      cases o with
      | none => rw [he] at h; exact h.elim
      | some di =>
        cases di with
        | lst ds =>
          rw [he] at h
          obtain ⟨v', h1, h2⟩ := po.rel.own i _ hM' he
          refine ⟨v', h1, qi σ H1 e1 U S1 po.rel _ ?_⟩
          cases hI : I e1 with
          | bad => rw [hI] at h; exact h.elim
          | exc c d => rw [hI] at h; exact h.elim
          | ok dk =>
            rw [hI] at h
            intro vk H2 ex rk
            cases rk <;> try exact h.elim
            rename_i k
            simp only at h
            cases hj : ixN ds.length k with
            | none => rw [hj] at h; exact h.elim
            | some j =>
              rw [hj] at h
              simp only at h
              cases hi : imm d with
              | false => rw [hi] at h; exact (show False by simpa [PoS] using h).elim
              | true =>
                rw [hi] at h
                simp only [if_true] at h
                have po2 := po.trans (po.rel.post ex)
                obtain ⟨v2, h1', h2'⟩ := po2.rel.own i _ hM' he
                have : v2 = v' := by rw [h1] at h1'; cases h1'; rfl
                subst this
                obtain ⟨a, vs, T1, e', h3, h4, h5, h6⟩ := lst_ow h2'
                subst e'
                have rp2 : Rp X.K H2 v d := (rp.mono vis_ex).mono ex
                obtain ⟨T', o1, o2⟩ := h4.setI hi rp2 j
                obtain ⟨S', po'⟩ := own_put po2.rel hM' h1 h3 h6 h5 o2 o1
                exact ⟨a, vs, k, j, rfl, rfl, h3, by rw [h4.length]; exact hj, h σ _ S' (.of (po2.trans po'))⟩
        | _ => rw [he] at h; exact h.elim
end
end Rf
namespace Rf
open PySem PySem.Spec PyProof.Rows L2
inductive Arg where
  | io (i : Nat)
  | ex (F : Env → R D)
def slotOf : List Arg → Nat → Option Nat
  | [], _ => none
  | .io i :: _, 0 => some i
  | .ex _ :: _, 0 => none
  | _ :: as, p + 1 => slotOf as p
def paramOf : List Arg → Nat → Option Nat
  | [], _ => none
  | .io i :: as, j => if i = j then some 0 else (paramOf as j).map (· + 1)
  | .ex _ :: as, j => (paramOf as j).map (· + 1)
theorem paramOf_slot : ∀ {as : List Arg} {j p : Nat}, paramOf as j = some p → slotOf as p = some j
  | [], _, _, h => by simp [paramOf] at h
  | .io i :: as, j, p, h => by
    unfold paramOf at h
    split at h
    · rename_i e; cases h; simp [slotOf, e]
    · cases hq : paramOf as j with
      | none => rw [hq] at h; simp at h
      | some q => rw [hq] at h; simp at h; subst h; simp [slotOf, paramOf_slot hq]
  | .ex F :: as, j, p, h => by
    unfold paramOf at h
    cases hq : paramOf as j with
    | none => rw [hq] at h; simp at h
    | some q => rw [hq] at h; simp at h; subst h; simp [slotOf, paramOf_slot hq]
theorem paramOf_none : ∀ {as : List Arg} {j p : Nat}, paramOf as j = none → slotOf as p ≠ some j
  | [], _, _, _ => by simp [slotOf]
  | .io i :: as, j, p, h => by
    unfold paramOf at h
    split at h
    · cases h
    · rename_i ne
      cases p with
      | zero => simp [slotOf]; exact ne
      | succ p => simp only [slotOf]; exact paramOf_none (by simpa using h)
  | .ex F :: as, j, p, h => by
    unfold paramOf at h
    cases p with
    | zero => simp [slotOf]
    | succ p => simp only [slotOf]; exact paramOf_none (by simpa using h)
def ndA : List Arg → Bool
  | [] => true
  | .io i :: as => (paramOf as i).isNone && ndA as
  | .ex _ :: as => ndA as
theorem slotOf_param : ∀ {as : List Arg} {j p : Nat}, ndA as = true → slotOf as p = some j → paramOf as j = some p
  | [], _, _, _, h => by simp [slotOf] at h
  | .io i :: as, j, 0, n, h => by simp [slotOf] at h; subst h; simp [paramOf]
  | .io i :: as, j, p + 1, n, h => by
    simp only [slotOf] at h
    simp only [ndA, Bool.and_eq_true, Option.isNone_iff_eq_none] at n
    have := slotOf_param n.2 h
    unfold paramOf
    have ne : i ≠ j := fun e => by subst e; rw [n.1] at this; cases this
    rw [if_neg ne, this]; rfl
  | .ex F :: as, j, 0, n, h => by simp [slotOf] at h
  | .ex F :: as, j, p + 1, n, h => by
    simp only [slotOf] at h
    simp only [ndA] at n
    unfold paramOf
    rw [slotOf_param n h]; rfl
def updO : List Arg → Env → Env → Env
  | .io i :: as, o :: os, env => updO as os (env.set i o)
  | .ex _ :: as, _ :: os, env => updO as os env
  | _, _, env => env
theorem updO_length : ∀ (as : List Arg) (o env : Env), (updO as o env).length = env.length
  | [], _, _ => by simp [updO]
  | .io i :: as, [], env => by simp [updO]
  | .io i :: as, o :: os, env => by simp [updO, updO_length as os]
  | .ex F :: as, [], env => by simp [updO]
  | .ex F :: as, o :: os, env => by simp [updO, updO_length as os]
theorem updO_get : ∀ {as : List Arg} {o env : Env} {j : Nat} {d : D}, ndA as = true → o.length = as.length → (updO as o env)[j]? = some (some d) → (∃ p, paramOf as j = some p ∧ o[p]? = some (some d)) ∨ (paramOf as j = none ∧ env[j]? = some (some d))
  | [], _, _, _, _, _, _, h => .inr ⟨rfl, by simpa [updO] using h⟩
  | .io i :: as, [], _, _, _, _, hl, _ => by simp at hl
  | .ex F :: as, [], _, _, _, _, hl, _ => by simp at hl
  | .io i :: as, o :: os, env, j, d, n, hl, h => by
    simp only [ndA, Bool.and_eq_true, Option.isNone_iff_eq_none] at n
    simp only [updO] at h
    rcases updO_get n.2 (by simpa using hl) h with ⟨p, h1, h2⟩ | ⟨h1, h2⟩
    · left
      have ne : i ≠ j := fun e => by subst e; rw [n.1] at h1; cases h1
      exact ⟨p + 1, by unfold paramOf; rw [if_neg ne, h1]; rfl, by simpa using h2⟩
    · rcases set_get h2 with ⟨rfl, h3, _⟩ | ⟨h3, h4⟩
      · left; exact ⟨0, by unfold paramOf; rw [if_pos rfl], by simp [h3]⟩
      · right; exact ⟨by unfold paramOf; rw [if_neg (Ne.symm h3), h1]; rfl, h4⟩
  | .ex F :: as, o :: os, env, j, d, n, hl, h => by
    simp only [ndA] at n
    simp only [updO] at h
    rcases updO_get n (by simpa using hl) h with ⟨p, h1, h2⟩ | ⟨h1, h2⟩
    · left; exact ⟨p + 1, by unfold paramOf; rw [h1]; rfl, by simpa using h2⟩
    · right; exact ⟨by unfold paramOf; rw [h1]; rfl, h2⟩
def argsR : List Arg → Env → R (List (Nat ⊕ D))
  | [], env => .ok [] env
  | .io i :: as, env => match env[i]? with
    | some (some _) => (argsR as env).bind fun xs env => .ok (.inl i :: xs) env
    | _ => .bad
  | .ex F :: as, env => (F env).bind fun d env => (argsR as env).bind fun xs env => .ok (.inr d :: xs) env
def argD (env : Env) : List (Nat ⊕ D) → Option (List D)
  | [] => some []
  | .inl i :: r => match env[i]? with
    | some (some d) => (argD env r).map (d :: ·)
    | _ => none
  | .inr d :: r => (argD env r).map (d :: ·)
inductive RA (K : PySem.W.Frag) (σ : L2.St) (H : Hp) : List V → List Arg → List (Nat ⊕ D) → Prop
  | nil : RA K σ H [] [] []
  | io {i : Nat} {v : V} {vs : List V} {as : List Arg} {xs : List (Nat ⊕ D)} : σ[i]? = some (some v) → RA K σ H vs as xs → RA K σ H (v :: vs) (.io i :: as) (.inl i :: xs)
  | ex {F : Env → R D} {d : D} {v : V} {vs : List V} {as : List Arg} {xs : List (Nat ⊕ D)} : Rp K H v d → RA K σ H vs as xs → RA K σ H (v :: vs) (.ex F :: as) (.inr d :: xs)
theorem RA.len {K : PySem.W.Frag} {σ : L2.St} {H : Hp} {vs : List V} {as : List Arg} {xs : List (Nat ⊕ D)} (h : RA K σ H vs as xs) : vs.length = as.length := by
  induction h with
  | nil => rfl
  | io _ _ ih => simp [ih]
  | ex _ _ ih => simp [ih]
inductive SAs (X : Cx) (M : List Nat) (W : WX) : List Expr → List Arg → Prop
  | nil : SAs X M W [] []
  | io {i : Nat} {x : Str} {p : Pos} {es : List Expr} {as : List Arg} : X.N[i]? = some x → Vis X.env.scope x → (x == ("__debug__" : Str)) = false → (x == ("__classdict__" : Str)) = false → M.contains i = true → SAs X M W es as → SAs X M W (.Name x p :: es) (.io i :: as)
  | ex {e : Expr} {es : List Expr} {F : Env → R D} {as : List Arg} : SE X M W e F → SAs X M W es as → SAs X M W (e :: es) (.ex F :: as)
section
variable {X : Cx} {M : List Nat} {W : WX}
theorem sas_run {es : List Expr} {as : List Arg} (h : SAs X M W es as) : ∃ ts, PEs X es ts ∧ ∀ σ H env U S, Rel X.K M U S H σ env → ∀ (k : List V → Hp → Prop),
    PoE X.K M W U S H σ (fun S' H' vs xs => RA X.K σ (vis H' (zo U S')) vs as xs) k (argsR as env) → sq ts σ H k := by
  induction h with
  | nil => exact ⟨[], .nil, fun σ H env U S r k h => h [] H S (r.post (Ex.refl H)) .nil⟩
  | @io i x p es as hN hv hd hcd hM _ ih =>
    obtain ⟨ts, ps, qs⟩ := ih
    refine ⟨tVar i :: ts, .cons (pe_var hN hv hd hcd) ps, fun σ H env U S r k h => ?_⟩
    unfold argsR at h
    cases he : env[i]? with
    | none => rw [he] at h; exact h.elim
    | some o =>
      cases o with
      | none => rw [he] at h; exact h.elim
      | some d =>
        rw [he] at h
        simp only at h
        obtain ⟨v, h1, _⟩ := r.own i d (by simpa using hM) he
        refine ⟨v, h1, qs σ H env U S r _ (PoE.step h fun xs env2 vs H2 S2 hF p2 r2 h2 => ?_)⟩
        exact h2 (v :: vs) H2 S2 (p2.rel.post (Ex.refl H2)) (.io h1 r2)
  | @ex e es F as h1 _ ih =>
    obtain ⟨t, p, q⟩ := h1
    obtain ⟨ts, ps, qs⟩ := ih
    refine ⟨t :: ts, .cons p ps, fun σ H env U S r k h => ?_⟩
    unfold argsR at h
    refine q σ H env U S r _ (PoE.step h fun d env1 v H1 S1 hF p1 r1 h1 => ?_)
    refine qs σ H1 env1 U S1 p1.rel _ (PoE.step h1 fun xs env2 vs H2 S2 hFs p2 r2 h2 => ?_)
    exact h2 (v :: vs) H2 S2 (p2.rel.post (Ex.refl H2)) (.ex (r1.mono p2.vis) r2)
end
section
variable {K : PySem.W.Frag} {M : List Nat} {U : AS} {S : Nat → AS} {H : Hp} {σ : L2.St} {env : Env} {as : List Arg} {vs : List V} {xs : List (Nat ⊕ D)} {ds : List D}
def uC (as : List Arg) (U : AS) (S : Nat → AS) : AS := fun a => U a ∨ ∃ j, paramOf as j = none ∧ S j a
def sC (as : List Arg) (S : Nat → AS) : Nat → AS := fun p a => ∃ i, slotOf as p = some i ∧ S i a
theorem sC_eq {as : List Arg} {S : Nat → AS} {p i : Nat} (h : slotOf as p = some i) : sC as S p = S i := by
  funext a
  apply propext
  constructor
  · rintro ⟨j, h1, h2⟩
    rw [h] at h1; cases h1; exact h2
  · exact fun z => ⟨i, h, z⟩
theorem zo_C (n : ndA as = true) : zo (uC as U S) (sC as S) = zo U S := by
  funext a
  apply propext
  constructor
  · rintro ((z | ⟨j, _, z⟩) | ⟨p, z⟩)
    · exact .inl z
    · exact .inr ⟨j, z⟩
    · obtain ⟨i, _, z⟩ := z
      exact .inr ⟨i, z⟩
  · rintro (z | ⟨j, z⟩)
    · exact .inl (.inl z)
    · cases hp : paramOf as j with
      | none => exact .inl (.inr ⟨j, hp, z⟩)
      | some p => exact .inr ⟨p, j, paramOf_slot hp, z⟩
theorem ra_get : ∀ {H : Hp} {vs : List V} {as : List Arg} {xs : List (Nat ⊕ D)} {ds : List D}, RA K σ H vs as xs → argD env xs = some ds → ∀ p d, ds[p]? = some d →
    (∃ i v, slotOf as p = some i ∧ vs[p]? = some v ∧ σ[i]? = some (some v) ∧ env[i]? = some (some d)) ∨ (∃ v, slotOf as p = none ∧ vs[p]? = some v ∧ Rp K H v d)
  | _, _, _, _, _, .nil, h, p, d, e => by simp [argD] at h; subst h; simp at e
  | _, _, _, _, _, .io (i := i) (v := v) h1 t, h, p, d, e => by
    simp only [argD] at h
    split at h
    · rename_i d0 he
      cases hq : argD env _ with
      | none => rw [hq] at h; simp at h
      | some ds0 =>
        rw [hq] at h
        simp at h
        subst h
        cases p with
        | zero => simp at e; subst e; exact .inl ⟨i, v, rfl, rfl, h1, he⟩
        | succ p =>
          rcases ra_get t hq p d (by simpa using e) with ⟨i', v', a, b, c, f⟩ | ⟨v', a, b, c⟩
          · exact .inl ⟨i', v', by simpa [slotOf] using a, by simpa using b, c, f⟩
          · exact .inr ⟨v', by simpa [slotOf] using a, by simpa using b, c⟩
    · cases h
  | _, _, _, _, _, .ex (v := v) h1 t, h, p, d, e => by
    simp only [argD] at h
    cases hq : argD env _ with
    | none => rw [hq] at h; simp at h
    | some ds0 =>
      rw [hq] at h
      simp at h
      subst h
      cases p with
      | zero => simp at e; subst e; exact .inr ⟨v, rfl, rfl, h1⟩
      | succ p =>
        rcases ra_get t hq p d (by simpa using e) with ⟨i', v', a, b, c, f⟩ | ⟨v', a, b, c⟩
        · exact .inl ⟨i', v', by simpa [slotOf] using a, by simpa using b, c, f⟩
        · exact .inr ⟨v', by simpa [slotOf] using a, by simpa using b, c⟩
theorem argD_len : ∀ {xs : List (Nat ⊕ D)} {ds : List D}, argD env xs = some ds → ds.length = xs.length
  | [], _, h => by simp [argD] at h; subst h; rfl
  | .inl i :: r, _, h => by
    simp only [argD] at h
    split at h
    · cases hq : argD env r with
      | none => rw [hq] at h; simp at h
      | some ds0 => rw [hq] at h; simp at h; subst h; simp [argD_len hq]
    · cases h
  | .inr d :: r, _, h => by
    simp only [argD] at h
    cases hq : argD env r with
    | none => rw [hq] at h; simp at h
    | some ds0 => rw [hq] at h; simp at h; subst h; simp [argD_len hq]
theorem RA.len2 {σ : L2.St} {H : Hp} {vs : List V} {as : List Arg} {xs : List (Nat ⊕ D)} (h : RA K σ H vs as xs) : xs.length = as.length := by
  induction h with
  | nil => rfl
  | io _ _ ih => simp [ih]
  | ex _ _ ih => simp [ih]
def ioOk (as : List Arg) (io : List Nat) : Bool := (List.range as.length).all fun p => (slotOf as p).isSome == io.contains p
theorem rel_C {io : List Nat} (r : Rel K M U S H σ env) (n : ndA as = true) (ho : ioOk as io = true) (hM : ∀ p i, slotOf as p = some i → i ∈ M) (ra : RA K σ (vis H (zo U S)) vs as xs) (ha : argD env xs = some ds) :
    Rel K io (uC as U S) (sC as S) H (vs.map some) (ds.map some) := by
  have hlen : ds.length = as.length := by rw [argD_len ha, ra.len2]
  have hio : ∀ p, p < as.length → ((slotOf as p).isSome = true ↔ p ∈ io) := fun p hp => by
    have := List.all_eq_true.mp ho p (List.mem_range.mpr hp)
    have h2 : (slotOf as p).isSome = io.contains p := by simpa using this
    rw [h2]; simp
  have get : ∀ p d, (ds.map some)[p]? = some (some d) → ds[p]? = some d := fun p d h => by
    rw [List.getElem?_map] at h
    cases hq : ds[p]? with
    | none => rw [hq] at h; simp at h
    | some d' => rw [hq] at h; simp at h; rw [h]
  refine ⟨fun p d hp he => ?_, fun p d hp he => ?_, fun p q a ne h1 h2 => ?_, fun p a h u => ?_, by rw [zo_C n]; exact r.nt, by simp [ra.len, hlen]⟩
  · have hd := get p d he
    have hlt : p < as.length := by rw [← hlen]; exact (List.getElem?_eq_some_iff.mp hd).1
    rcases ra_get ra ha p d hd with ⟨i, v, h1, h2, h3, h4⟩ | ⟨v, h1, h2, h3⟩
    · obtain ⟨v', h5, h6⟩ := r.own i d (hM p i h1) h4
      have : v' = v := by rw [h3] at h5; cases h5; rfl
      subst this
      refine ⟨v', by rw [List.getElem?_map, h2]; rfl, ?_⟩
      rw [sC_eq h1]
      exact h6
    · have := (hio p hlt).mpr hp
      rw [h1] at this
      cases this
  · have hd := get p d he
    have hlt : p < as.length := by rw [← hlen]; exact (List.getElem?_eq_some_iff.mp hd).1
    rcases ra_get ra ha p d hd with ⟨i, v, h1, h2, h3, h4⟩ | ⟨v, h1, h2, h3⟩
    · exact absurd ((hio p hlt).mp (by rw [h1]; rfl)) hp
    · refine ⟨v, by rw [List.getElem?_map, h2]; rfl, ?_⟩
      rw [zo_C n]
      exact h3
  · obtain ⟨i, hi, h1⟩ := h1
    obtain ⟨j, hj, h2⟩ := h2
    have : i ≠ j := fun e => by
      subst e
      have e1 := slotOf_param n hi
      have e2 := slotOf_param n hj
      rw [e1] at e2
      cases e2
      exact ne rfl
    exact r.dis i j a this h1 h2
  · obtain ⟨i, hi, h⟩ := h
    rcases u with u | ⟨j, hj, u⟩
    · exact r.out i a h u
    · have : i ≠ j := fun e => by subst e; exact paramOf_none hj hi
      exact r.dis i j a this h u
def sB (as : List Arg) (S S' : Nat → AS) : Nat → AS := fun j a => (∃ p, paramOf as j = some p ∧ S' p a) ∨ (paramOf as j = none ∧ S j a)
theorem sB_some {as : List Arg} {S S' : Nat → AS} {j p : Nat} (h : paramOf as j = some p) : sB as S S' j = S' p := by
  funext a
  apply propext
  constructor
  · rintro (⟨q, h1, h2⟩ | ⟨h1, _⟩)
    · rw [h] at h1; cases h1; exact h2
    · rw [h] at h1; cases h1
  · exact fun z => .inl ⟨p, h, z⟩
theorem sB_none {as : List Arg} {S S' : Nat → AS} {j : Nat} (h : paramOf as j = none) : sB as S S' j = S j := by
  funext a
  apply propext
  constructor
  · rintro (⟨q, h1, _⟩ | ⟨_, h2⟩)
    · rw [h] at h1; cases h1
    · exact h2
  · exact fun z => .inr ⟨h, z⟩
theorem post_C {io : List Nat} {S' : Nat → AS} {H' : Hp} {o : Env} (r : Rel K M U S H σ env) (n : ndA as = true) (ho : ioOk as io = true) (hM : ∀ p i, slotOf as p = some i → i ∈ M) (ra : RA K σ (vis H (zo U S)) vs as xs) (hol : o.length = as.length)
    (po : Post K io (uC as U S) (sC as S) H (vs.map some) S' H' o) : Post K M U S H σ (sB as S S') H' (updO as o env) ∧ ∀ a, zo U (sB as S S') a → zo (uC as U S) S' a := by
  have hio : ∀ p, p < as.length → ((slotOf as p).isSome = true → p ∈ io) := fun p hp h => by
    have := List.all_eq_true.mp ho p (List.mem_range.mpr hp)
    have h2 : (slotOf as p).isSome = io.contains p := by simpa using this
    rw [h2] at h; simpa using h
  have ncs : ∀ a, ¬ zo U S a → ∀ p, ¬ sC as S p a := fun a nz p z => nz (by rw [← zo_C n]; exact .inr ⟨p, z⟩)
  have sub : ∀ a, zo U (sB as S S') a → zo (uC as U S) S' a := by
    rintro a (z | ⟨j, z⟩)
    · exact .inl (.inl z)
    · rcases z with ⟨p, _, z⟩ | ⟨hj, z⟩
      · exact .inr ⟨p, z⟩
      · exact .inl (.inr ⟨j, hj, z⟩)
  have vv : Exo (vis H (zo U S)) (vis H' (zo U (sB as S S'))) := fun a ob t h => by
    obtain ⟨h1, h2⟩ := of_vis h
    refine vis_in (po.at h1 (ncs a h2) t) fun z => ?_
    rcases sub a z with z | ⟨p, z⟩
    · exact h2 (by rw [← zo_C (as := as) n]; exact .inl z)
    · rcases po.grow p a z with ⟨q, w⟩ | w
      · exact ncs a h2 q w
      · rw [w] at h1; cases h1
  have keepU : ∀ a ob, uC as U S a → Hs H a ob → Hs H' a ob := fun a ob hu h => po.keep a ob h fun p z => by
    obtain ⟨i, hi, z⟩ := z
    rcases hu with u | ⟨j, hj, u⟩
    · exact r.out i a z u
    · exact r.dis i j a (fun e => by subst e; exact paramOf_none hj hi) z u
  have st : Stay H H' := fun a o k h => po.at h (ncs a fun z => nt_not r.nt k h z) (imc_nb k)
  refine ⟨⟨⟨fun j d hj he => ?_, fun j d hj he => ?_, fun j k a ne h1 h2 => ?_, fun j a h u => ?_, Nt.of po.rel.nt.tab fun a z => po.rel.nt.hid a (sub a z), by rw [updO_length]; exact r.len⟩, fun a ob h nn => ?_, fun j a z => ?_⟩, sub⟩
  · rcases updO_get n hol he with ⟨p, h1, h2⟩ | ⟨h1, h2⟩
    · have hs := paramOf_slot h1
      have hlt : p < as.length := by rw [← hol]; exact (List.getElem?_eq_some_iff.mp h2).1
      obtain ⟨v, h3, h4⟩ := po.rel.own p d (hio p hlt (by rw [hs]; rfl)) h2
      have : σ[j]? = some (some v) := by
        have : ∀ {vs : List V} {as : List Arg} {xs : List (Nat ⊕ D)} {p : Nat} {v : V} {H : Hp}, RA K σ H vs as xs → slotOf as p = some j → (vs.map some)[p]? = some (some v) → σ[j]? = some (some v) := by
          intro vs as xs p v H ra
          induction ra generalizing p with
          | nil => intro h; simp [slotOf] at h
          | io a _ ih =>
            intro h e
            cases p with
            | zero => simp [slotOf] at h; subst h; simp at e; subst e; exact a
            | succ p => exact ih (by simpa [slotOf] using h) (by simpa using e)
          | ex _ _ ih =>
            intro h e
            cases p with
            | zero => simp [slotOf] at h
            | succ p => exact ih (by simpa [slotOf] using h) (by simpa using e)
        exact this ra hs h3
      exact ⟨v, this, by rw [sB_some h1]; exact h4⟩
    · obtain ⟨v, h3, h4⟩ := r.own j d hj h2
      refine ⟨v, h3, ?_⟩
      rw [sB_none h1]
      exact h4.carry st fun a ob hs hh => keepU a ob (.inr ⟨j, h1, hs⟩) hh
  · rcases updO_get n hol he with ⟨p, h1, h2⟩ | ⟨h1, h2⟩
    · exact absurd (hM p j (paramOf_slot h1)) hj
    · obtain ⟨v, h3, h4⟩ := r.frz j d hj h2
      exact ⟨v, h3, h4.mono vv⟩
  · rcases h1 with ⟨p, hp, h1⟩ | ⟨hj, h1⟩
    · rcases h2 with ⟨q, hq, h2⟩ | ⟨hk, h2⟩
      · have : p ≠ q := fun e => by
          subst e
          have e1 := paramOf_slot hp
          have e2 := paramOf_slot hq
          rw [e1] at e2
          cases e2
          exact ne rfl
        exact po.rel.dis p q a this h1 h2
      · exact po.rel.out p a h1 (.inr ⟨k, hk, h2⟩)
    · rcases h2 with ⟨q, hq, h2⟩ | ⟨hk, h2⟩
      · exact po.rel.out q a h2 (.inr ⟨j, hj, h1⟩)
      · exact r.dis j k a ne h1 h2
  · rcases h with ⟨p, hp, h⟩ | ⟨hj, h⟩
    · exact po.rel.out p a h (.inl u)
    · exact r.out j a h u
  · refine po.keep a ob h fun p z => ?_
    obtain ⟨i, _, z⟩ := z
    exact nn i z
  · rcases z with ⟨p, hp, z⟩ | ⟨hj, z⟩
    · rcases po.grow p a z with ⟨q, i, _, w⟩ | w
      · exact .inl ⟨i, w⟩
      · exact .inr w
    · exact .inl ⟨j, z⟩
end
def eCallR (as : List Arg) (g : List D → C) : Env → R D := fun env => (argsR as env).bind fun xs env => match argD env xs with
  | none => .bad
  | some ds => match g ds with
    | .ok d o => if o.length = as.length then .ok d (updO as o env) else .bad
    | .exc c d o => if o.length = as.length then .exc c d (updO as o env) else .bad
    | .bad => .bad
section
variable {X : Cx} {M : List Nat} {W : WX} {k m : Nat} {x : Str} {ro : Bool} {io : List Nat} {g : List D → C} {p pos : Pos} {e : Expr} {es : List Expr} {as : List Arg}
def slotsIn (as : List Arg) (M : List Nat) : Bool := (List.range as.length).all fun p => match slotOf as p with
  | some i => M.contains i
  | none => true
theorem slotOf_lt : ∀ {as : List Arg} {p i : Nat}, slotOf as p = some i → p < as.length
  | [], _, _, h => by simp [slotOf] at h
  | .io i :: as, 0, _, h => by simp
  | .ex F :: as, 0, _, h => by simp
  | .io i :: as, p + 1, _, h => by simp only [slotOf] at h; simp; exact slotOf_lt h
  | .ex F :: as, p + 1, _, h => by simp only [slotOf] at h; simp; exact slotOf_lt h
def ResO (K : PySem.W.Frag) (M : List Nat) (ro : Bool) (U : AS) (S : Nat → AS) (H : Hp) (σ : L2.St) (S' : Nat → AS) (H' : Hp) (env' : Env) (v : V) (d : D) : Prop := match ro with
  | true => ∃ T : AS, Ow K H' v d T ∧ Rel K M (un U T) S' H' σ env' ∧ (∀ a, T a → ¬ U a) ∧ ∀ a, T a → (∃ j, S j a) ∨ H a = none
  | false => Rp K (vis H' (zo U S')) v d
theorem callR_run (G : Gd X W k) (c : CalX X k x m io ro [] g) (hg : Gl X x) (h : SAs X M W (e :: es) as) (hs : noStar (e :: es) = true) (n : ndA as = true) (ho : ioOk as io = true) (hM : slotsIn as M = true) (hm : as.length = m) (hdb : (x == ("__debug__" : Str)) = false) :
    ∃ t, PE X (.Call (.Name x p) (e :: es) [] pos) t ∧ ∀ σ H env U S, Rel X.K M U S H σ env → ∀ Q : VK,
      (∀ d env' v H' S', eCallR as g env = .ok d env' → Post X.K M U S H σ S' H' env' → ResO X.K M ro U S H σ S' H' env' v d → Q v H') →
      (∀ c d env', eCallR as g env = .exc c d env' → ∀ dx v H' S', Post X.K M U S H σ S' H' env' → H' dx = some (.xd [("value", v)]) → ¬ zo U S' dx → Rp X.K (vis H' (zo U S')) v d → W (.ref (He.ga X.K c)) (some dx) σ H') →
      eCallR as g env ≠ .bad → t σ H Q := by
  obtain ⟨f, fd, ps, dvs, dsV, h1, h2, h3, h4, h5, h6, h7⟩ := c.ex
  obtain ⟨ts, pes, qs⟩ := sas_run h
  obtain ⟨t, pa, q⟩ := pa_of pes hs
  obtain ⟨n1, n2⟩ := noStar_head hs X.env
  have hdv : dvs = [] := by
    have := (h7 (fun _ => none)).length
    simpa using this
  subst hdv
  have hM' : ∀ p i, slotOf as p = some i → i ∈ M := fun p i hp => by
    have := List.all_eq_true.mp hM p (List.mem_range.mpr (slotOf_lt hp))
    rw [hp] at this
    simpa using this
  refine ⟨_, pe_callSD h4 G.room hg h1 h2 h5 h6 (fun σ => passAt G.takes σ) pa hdb n1 (noStar_plain n2 pos X.env), fun σ H env U S r Q hok hex hbad => ?_⟩
  refine q σ H _ (qs σ H env U S r _ ?_)
  unfold eCallR at hok hex hbad
  cases hA : argsR as env with
  | bad => rw [hA] at hbad; exact absurd rfl hbad
  | exc c d e' =>
    rw [hA] at hex
    exact fun dx v H' S' po a b c' => hex _ _ _ rfl dx v H' S' po a b c'
  | ok xs env1 =>
    rw [hA] at hok hex hbad
    intro vs H1 S1 po1 ra
    simp only [R.bind] at hok hex hbad
    cases hD : argD env1 xs with
    | none => rw [hD] at hbad; exact absurd rfl hbad
    | some ds =>
      rw [hD] at hok hex hbad
      simp only at hok hex hbad
      have hlen : ds.length = as.length := by rw [argD_len hD, ra.len2]
      rw [List.append_nil]
      refine ⟨by rw [ra.len, hm]; rfl, ds, uC as U S1, sC as S1, by rw [hlen, hm]; rfl, rel_C po1.rel n ho hM' ra hD, ?_⟩
      cases hG : g ds with
      | bad => rw [hG] at hbad; exact absurd rfl hbad
      | ok d o =>
        rw [hG] at hok hex hbad
        simp only at hok hex hbad
        by_cases hol : o.length = as.length
        · rw [if_pos hol] at hok
          intro v H' S' po res
          obtain ⟨pc, sub⟩ := post_C po1.rel n ho hM' ra hol po
          have pt := po1.trans pc
          refine hok d _ v H' _ rfl pt ?_
          unfold Res at res
          unfold ResO
          cases ro with
          | false => exact res.mono (vis_sub sub)
          | true =>
            obtain ⟨T, ow, nz, gr⟩ := res
            have base := pt.rel
            refine ⟨T, ow, ⟨base.own, fun j d' hj he => ?_, base.dis, fun j a hs u => ?_, Nt.of base.nt.tab fun a z => ?_, base.len⟩, fun a ta u => nz a ta (.inl (.inl u)), fun a ta => ?_⟩
            · have he1 : env1[j]? = some (some d') := by
                rcases updO_get n hol he with ⟨p', q1, q2⟩ | ⟨q1, q2⟩
                · exact absurd (hM' p' j (paramOf_slot q1)) hj
                · exact q2
              obtain ⟨v1, h10, h11⟩ := po1.rel.frz j d' hj he1
              refine ⟨v1, h10, h11.mono fun a ob t hh => ?_⟩
              obtain ⟨w1, w2⟩ := of_vis hh
              obtain ⟨w3, w4⟩ := of_vis (pc.vis a ob t hh)
              refine vis_in w3 fun z => ?_
              rcases z with (z | z) | z
              · exact w4 (.inl z)
              · rcases gr a z with ⟨p', i, _, w⟩ | w
                · exact w2 (.inr ⟨i, w⟩)
                · rw [w] at w1; cases w1
              · exact w4 (.inr z)
            · rcases u with u | u
              · exact base.out j a hs u
              · exact nz a u (sub a (.inr ⟨j, hs⟩))
            · rcases z with (z | z) | z
              · exact base.nt.hid a (.inl z)
              · exact ow.nt a z
              · exact base.nt.hid a (.inr z)
            · rcases gr a ta with ⟨p', i, _, w⟩ | w
              · exact po1.grow i a w
              · cases hh : H a with
                | none => exact .inr rfl
                | some ob =>
                  left
                  refine Classical.byContradiction fun nn => ?_
                  exact po1.ne hh (fun j w' => nn ⟨j, w'⟩) w
        · rw [if_neg hol] at hbad; exact absurd rfl hbad
      | exc c d o =>
        rw [hG] at hok hex hbad
        simp only at hok hex hbad
        by_cases hol : o.length = as.length
        · rw [if_pos hol] at hex
          intro dx v H' S' po a1 a2 a3
          obtain ⟨pc, sub⟩ := post_C po1.rel n ho hM' ra hol po
          exact hex c d _ rfl dx v H' _ (po1.trans pc) a1 (fun z => a2 (sub dx z)) (a3.mono (vis_sub sub))
        · rw [if_neg hol] at hbad; exact absurd rfl hbad
theorem se_callR (G : Gd X W k) (c : CalX X k x m io false [] g) (hg : Gl X x) (h : SAs X M W (e :: es) as) (n : ndA as = true := by rfl) (ho : ioOk as io = true := by rfl) (hM : slotsIn as M = true := by rfl) (hm : as.length = m := by rfl) (hs : noStar (e :: es) = true := by rfl) (hdb : (x == ("__debug__" : Str)) = false := by decide) :
    SE X M W (.Call (.Name x p) (e :: es) [] pos) (eCallR as g) := by
  obtain ⟨t, pp, q⟩ := callR_run (p := p) (pos := pos) G c hg h hs n ho hM hm hdb
  refine ⟨t, pp, fun σ H env U S r Q hp => q σ H env U S r Q (fun d env' v H' S' he po res => ?_) (fun c d env' he dx v H' S' po a b c' => ?_) fun hb => ?_⟩
  · rw [he] at hp; exact hp v H' S' po res
  · rw [he] at hp; exact hp dx v H' S' po a b c'
  · rw [hb] at hp; exact hp
end
end Rf
namespace Rf
open PySem PySem.Spec PyProof.Rows L2
section
local instance (priority := 10000) qs1 : DecidableEq Str := quickStr
def fLook (f : Str) : List (Str × D) → Option D
  | [] => none
  | (g, d) :: r => if f = g then some d else fLook f r
end
section
local instance (priority := 10000) qs2 : DecidableEq Str := quickStr
end
section
variable {X : Cx} {M : List Nat} {W : WX} {b : Bool} {e : Expr} {pos : Pos} {F : Env → O D} {c f : Str}
end
section
variable {X : Cx} {M : List Nat} {W : WX} {b : Bool} {k n : Nat} {c m : Str} {ro : Bool} {dds : List D} {g : List D → C} {o e : Expr} {es : List Expr} {apos pos : Pos}
section
local instance (priority := 10000) qs3 : DecidableEq Str := quickStr
def hasF (c m : Str) : D → Bool
  | .ins c' fs => decide (c' = c) && (fLook m fs).isNone
  | _ => false
end
def gMeth (c m : Str) (n : Nat) (dds : List D) (g : List D → C) (s : D) (ds : List D) : O D := if hasF c m s && decide (ds.length + 1 = n) then ofC (g (s :: (ds ++ dds))) else .bad
def eMeth (c m : Str) (n : Nat) (dds : List D) (g : List D → C) (S : Env → O D) (Fs : List (Env → O D)) : Env → O D := fun env => (S env).bind fun s => if hasF c m s then (seqF Fs env).bind fun ds => gMeth c m n dds g s ds else .bad
section
local instance (priority := 10000) qs4 : DecidableEq Str := quickStr
def ePrp (c m : Str) (g : List D → C) (S : Env → O D) : Env → O D := fun env => (S env).bind fun s => match s with
  | .ins c' _ => if c' = c then noX (ofC (g [s])) else .bad
  | _ => .bad
end
end
end Rf
namespace Rf
open PySem PySem.Spec PyProof.Rows L2
section
variable {K : PySem.W.Frag} {M : List Nat} {W : WX} {U : AS} {S S1 : Nat → AS} {H H1 : Hp} {σ : L2.St} {env env1 : Env} {as : List Arg} {vs : List V} {xs : List (Nat ⊕ D)} {ds : List D} {io : List Nat} {ro : Bool} {g : List D → C}
end
section
variable {X : Cx} {M : List Nat} {W : WX} {k n i : Nat} {c m x : Str} {ro : Bool} {io : List Nat} {g : List D → C} {e : Expr} {es : List Expr} {as : List Arg} {p apos pos : Pos}
end
section
variable {X : Cx} {M : List Nat} {W : WX} {k n : Nat} {c x : Str} {g : List D → C} {e : Expr} {es : List Expr} {p pos : Pos}
end
end Rf
namespace Rf
open PySem PySem.Spec PyProof.Rows L2
section
variable {K : PySem.W.Frag} {H : Hp}
end
section
variable {X : Cx} {G : Pl} {M : List Nat} {W : WX} {i : Nat} {x c f : Str} {e ke : Expr} {F : Env → R D} {p1 apos pos : Pos}
section
local instance (priority := 10000) qs5 : DecidableEq Str := quickStr
end
end
end Rf
namespace Rf
open PySem PySem.Spec PyProof.Rows L2
inductive Stp where
  | fld (c f : Str)
  | key (k : Key)
section
local instance (priority := 10000) qs6 : DecidableEq Str := quickStr
end
section
variable {K : PySem.W.Frag} {M : List Nat} {U : AS} {S : Nat → AS} {H : Hp} {σ : L2.St} {env : Env} {i : Nat} {st : Stp} {d sub : D}
end
section
variable {X : Cx} {G : Pl} {M : List Nat} {W : WX} {i : Nat} {x c f : Str} {e ke o : Expr} {F I : Env → O D} {p1 p2 apos cpos pos : Pos} {st : Stp}
end
section
variable {X : Cx} {G : Pl} {M : List Nat} {W : WX} {i : Nat} {e ke o : Expr} {F I : Env → O D} {apos cpos pos : Pos} {st : Stp}
end
end Rf
namespace Rf
open PySem PySem.Spec PyProof.Rows L2
def isTab (t n : String) : Bool := t == n || (t == "bool" && n == "int")
def tagsB : List String := ["NoneType", "bool", "int", "str", "tuple", "list", "dict"]
def tysB : List String := ["int", "bool", "str", "tuple", "list", "dict"]
theorem isTab_ok : (tagsB.all fun t => tysB.all fun n => decide (kitB t n = some (isTab t n))) = true := by decide +kernel
theorem isTab_kit {K : PySem.W.Frag} {t n : String} (ht : t ∈ tagsB) (hn : n ∈ tysB) : PySem.W.kitOne K (.type t) (.type n) = some (isTab t n) :=
  kit_ty (of_decide_eq_true (List.all_eq_true.mp (List.all_eq_true.mp isTab_ok t ht) n hn))
def fIsi (n : String) : D → O D
  | .ins _ _ => .bad
  | .exc _ _ => .bad
  | d => match tyD d with
    | .b t => .ok (.bl (isTab t n))
    | .own _ => .bad
section
variable {X : Cx} {M : List Nat} {W : WX} {b : Bool} {e : Expr} {p pn pos : Pos} {F : Env → O D} {n : String} {T : Str}
inductive TyY (K : PySem.W.Frag) (H : Hp) : V → Value → Prop where
  | x {v : V} {t : Value} : TyX K H v t → TyY K H v t
  | f {a : Addr} {o : Obj} {φ : Heap → Prop} : H a = some (.frz o (.ext φ)) → o.cls = .type "dict" → TyY K H (.ref a) (.type "dict")
def rIsiY (K : PySem.W.Frag) : List V → Hp → VK → Prop := fun xs H Q => ∃ (x c : V) (t u : Value) (b : Bool), xs = [x, c] ∧ ClsV c u ∧ TyY K H x t ∧ PySem.W.kitOne K t u = some b ∧ Q (.bl b) H
theorem call_isiY : CallR X (.builtin "isinstance") (rIsiY X.K) := by
  intro pins s σ H xs us Q I r h
  obtain ⟨x, c, t, u, b, rfl, k, ty, e, q⟩ := h
  obtain ⟨u1, u2, rfl, r1, r2⟩ := vals2 r
  have e2 := k.eq r2
  subst e2
  cases ty with
  | x ty =>
    obtain ⟨P, Z, p, hx⟩ := kit_of I r1 ty
    exact PySem.W.kia_one Z I.kIn p e hx fun tk => ⟨.bl b, H, I.tok tk, rfl, q⟩
  | @f a o φ ea hc =>
    cases (show u1 = Value.ref a from r1)
    obtain ⟨h1, _⟩ := (show ObjOk X.prog X.w H s.heap a (.frz o (.ext φ)) from I.hok a _ ea)
    exact PySem.W.kia_one PySem.W.kitx_dict I.kIn ⟨o, h1, hc⟩ e (fun z => nomatch z) fun tk => ⟨.bl b, H, I.tok tk, rfl, q⟩
theorem tyX_of {K : PySem.W.Frag} {H : Hp} {x : V} {d : D} {t : String} (r : Rp K H x d) (h : tyD d = .b t) (h2 : ∀ c fs, d ≠ .ins c fs) (h3 : ∀ c e, d ≠ .exc c e) : TyY K H x (.type t) := by
  cases r with
  | non => cases h; exact .x (.base .non)
  | bl b => cases h; exact .x (.base (.bl b))
  | int i => cases h; exact .x (.base (.int i))
  | str z => cases h; exact .x (.base (.str z))
  | tup a _ =>
    cases h
    rcases a.t with (a | ⟨o, a⟩) | ⟨o, its, n, a, c, _⟩
    · exact .x (.base (.tup a))
    · exact .x (.fTuple a)
    · exact .x (.kTuple a c)
  | lst a _ => cases h; exact .x (.base (.lst a))
  | scr a =>
    cases h
    rcases a with (a | ⟨o, a⟩) | ⟨o, its, n, a, c, _⟩
    · exact .x (.base (.lst a))
    · exact .x (.base (.frz a))
    · exact .x (.kList a c)
  | fls a _ => cases h; exact .x (.base (.frz a))
  | dic a _ _ =>
    cases h
    rcases a with a | ⟨o, a⟩
    · exact .x (.base (.dK a))
    · exact .x (.fDict a)
  | dtt _ _ _ => cases h
  | clo _ _ => cases h
  | clv _ _ _ _ => cases h
  | slt _ _ _ => cases h
  | fdc a c => cases h; exact .f a c.cls
  | ins _ _ _ => exact absurd rfl (h2 _ _)
  | exc _ _ _ => exact absurd rfl (h3 _ _)
theorem sp_isi (hg : Gl X "isinstance") (hm : X.mg "isinstance" = none) (hgT : Gl X T) (hmT : X.mg T = none) (hT : bootBuiltins T = some (.type n)) (hn : n ∈ tysB) (h : SP X M W b e F) (hs : noStar [e] = true := by rfl) (hTn : T ≠ "__name__" := by decide) (hTd : (T == ("__debug__" : Str)) = false := by decide) :
    SP X M W b (.Call (.Name "isinstance" p) [e, .Name T pn] [] pos) (nd (g1 (fIsi n)) [F]) := by
  obtain ⟨t, pp, q⟩ := h
  obtain ⟨n1, n2⟩ := noStar_head (es := [.Name T pn]) (e := e) (by cases e <;> first | rfl | (simp [noStar] at hs)) X.env
  refine ⟨_, pe_callB call_isiY hg hm (by decide +kernel) (pa_cons pp (pa_cons (pe_bltn hgT hmT hT (v := .ty n) rfl hTn hTd) pa_nil) n1) (by decide) (by decide) n1 rfl, fun σ H env U S r Q hp => q σ H env U S r _ ?_⟩
  have hp' : Po X.K W (zb b U S) H σ (rpZ X.K (zb b U S)) Q ((F env).bind fun d => fIsi n d) := by
    have : nd (g1 (fIsi n)) [F] env = (F env).bind fun d => fIsi n d := by
      unfold nd seqF seqF
      cases F env <;> rfl
    rw [← this]
    exact hp
  refine Po.step hp' fun d v H1 _ e1 r1 h1 => ?_
  have key : ∀ t', tyD d = .b t' → (∀ c fs, d ≠ .ins c fs) → (∀ c e, d ≠ .exc c e) → t' ∈ tagsB → fIsi n d = .ok (.bl (isTab t' n)) → ∃ x c t u b', [v, V.ty n] = [x, c] ∧ ClsV c u ∧ TyY X.K H1 x t ∧ PySem.W.kitOne X.K t u = some b' ∧ Q (.bl b') H1 := by
    intro t' h2 h3 h4 h5 h6
    rw [h6] at h1
    exact ⟨v, .ty n, _, _, isTab t' n, rfl, .ty n, tyX_of (r1.mono vis_ex) h2 h3 h4, isTab_kit h5 hn, h1 _ H1 (Ex.refl H1) (.bl _)⟩
  cases d with
  | dtt _ => exact h1.elim
  | clo _ _ _ => exact h1.elim
  | clv _ _ _ => exact h1.elim
  | slt _ _ => exact h1.elim
  | fdc => exact key "dict" rfl (fun _ _ h => by cases h) (fun _ _ h => by cases h) (by decide) rfl
  | ins _ _ => exact h1.elim
  | exc _ _ => exact h1.elim
  | non => exact key "NoneType" rfl (fun _ _ h => by cases h) (fun _ _ h => by cases h) (by decide) rfl
  | bl _ => exact key "bool" rfl (fun _ _ h => by cases h) (fun _ _ h => by cases h) (by decide) rfl
  | int _ => exact key "int" rfl (fun _ _ h => by cases h) (fun _ _ h => by cases h) (by decide) rfl
  | str _ => exact key "str" rfl (fun _ _ h => by cases h) (fun _ _ h => by cases h) (by decide) rfl
  | tup _ => exact key "tuple" rfl (fun _ _ h => by cases h) (fun _ _ h => by cases h) (by decide) rfl
  | lst _ => exact key "list" rfl (fun _ _ h => by cases h) (fun _ _ h => by cases h) (by decide) rfl
  | dic _ => exact key "dict" rfl (fun _ _ h => by cases h) (fun _ _ h => by cases h) (by decide) rfl
  | scr _ => exact key "list" rfl (fun _ _ h => by cases h) (fun _ _ h => by cases h) (by decide) rfl
  | fls _ => exact key "list" rfl (fun _ _ h => by cases h) (fun _ _ h => by cases h) (by decide) rfl
end
section
variable {X : Cx} {M : List Nat} {W : WX} {b : Bool} {ea eb ec : Expr} {pos : Pos} {Fa Fb Fc : Env → O D} {op op' : CmpOp} {r r' : R2} {f f' : D → D → O D}
def eChain (f f' : D → D → O D) (Fa Fb Fc : Env → O D) : Env → O D := fun env => (Fa env).bind fun a => (Fb env).bind fun b => (asB (f a b)).bind fun k => if k then (Fc env).bind fun c => f' b c else .ok (.bl false)
end
section
variable {X : Cx} {M : List Nat} {W : WX} {b : Bool} {o e : Expr} {apos cpos : Pos} {S F : Env → O D} {α : Type}
def eBm (chk : D → Bool) (f : D → D → O α) (S F : Env → O D) : Env → O α := fun env => (S env).bind fun s => if chk s then (F env).bind fun d => f s d else .bad
end
end Rf
namespace Rf
open PySem PySem.Spec PyProof.Rows L2
section
variable {α : Type} {le : α → α → Bool}
end
section
variable {X : Cx}
end
section
variable {K : PySem.W.Frag} {W : WX} {X : Cx}
theorem call_lenRd : CallR X (.builtin "len") (fun xs H Q => ∃ a kvs, xs = [V.ref a] ∧ Rd H a (.dK kvs) ∧ Q (.int kvs.length) H) := by
  intro pins s σ H xs us Q I r h
  obtain ⟨a, kvs, rfl, ha, q⟩ := h
  obtain ⟨u, rfl, ru⟩ := vals1 r
  cases ru
  exact d_len I ha fun t s' I' => ⟨.int kvs.length, H, I', ⟨t, rfl⟩, q⟩
def rLenX (K : PySem.W.Frag) : List V → Hp → VK → Prop := fun xs H Q => rLenAll K xs H Q ∨ (∃ a kvs, xs = [V.ref a] ∧ Rd H a (.dK kvs) ∧ Q (.int kvs.length) H)
theorem call_lenX : CallR X (.builtin "len") (rLenX X.K) := call_lenAll.or call_lenRd
def fLenX : D → O D
  | .dic kvs => .ok (.int kvs.length)
  | d => fLen d
theorem vc_lenX : VC1 K W (rLenX K) fLenX := by
  intro H Z σ x d Q n h hp
  cases h with
  | @dic a kvs ds ha hk r =>
    refine .inr ⟨a, kvs, rfl, ex_rd vis_ex ha, ?_⟩
    have : kvs.length = ds.length := by simpa using congrArg List.length hk
    rw [this]
    exact hp _ H (Ex.refl H) (.int _)
  | non => exact .inl (vc_len H Z σ _ _ Q n .non hp)
  | bl b => exact .inl (vc_len H Z σ _ _ Q n (.bl b) hp)
  | int i => exact .inl (vc_len H Z σ _ _ Q n (.int i) hp)
  | str z => exact .inl (vc_len H Z σ _ _ Q n (.str z) hp)
  | tup a r => exact .inl (vc_len H Z σ _ _ Q n (.tup a r) hp)
  | lst a r => exact .inl (vc_len H Z σ _ _ Q n (.lst a r) hp)
  | scr a => exact .inl (vc_len H Z σ _ _ Q n (.scr a) hp)
  | fls a r => exact .inl (vc_len H Z σ _ _ Q n (.fls a r) hp)
  | dtt a b c => exact .inl (vc_len H Z σ _ _ Q n (.dtt a b c) hp)
  | fdc a b => exact .inl (vc_len H Z σ _ _ Q n (.fdc a b) hp)
  | clo a b => exact hp.elim
  | clv a b c d => exact hp.elim
  | slt a b c => exact hp.elim
  | ins a b c => exact .inl (vc_len H Z σ _ _ Q n (.ins a b c) hp)
  | exc a b c => exact .inl (vc_len H Z σ _ _ Q n (.exc a b c) hp)
end
end Rf
namespace PySem
theorem rf_enumerate_new {v : Value} {o : Obj} {H : Heap → Prop} (B : Begins v o H) :
    Meets (Builtin.«enumerate.__new__» ⟨[.type "enumerate", v], []⟩) (fun _ R s => H s.heap ∧
      R (.ok (.ret (.ref (s.heap.push o).objs.size))) { s with heap := (s.heap.push o).push { cls := .type "enumerate", data := .fields #[.none, .bool false, .ref s.heap.objs.size, rawInt 0, .none, .none] } }) :=
  .of_wp fun prog w A R s h => by
    obtain ⟨hp, g, d, tk, os⟩ := s; obtain ⟨h1, h⟩ := h
    have hsub := sub_enumerate
    have q1 : ∀ {A' : Around} {E : Value → Shared → Prop} {Q : Value → Shared → Prop}, Q (.ref hp.objs.size) ⟨hp.push o, g, d, tk, os⟩ → wpAny (model prog w) A' (pyIter v) Q E ⟨hp, g, d, tk, os⟩ :=
      fun q => B.iter prog w _ _ ⟨hp, g, d, tk, os⟩ _ h1 q
    wp_walk using q1
    refine wpAny_stack_any fun st => wpAny_pure ?_
    split
    · rename_i c _ _ _ _ _
      cases (c == Value.type "enumerate")
      · wp_walk using q1
        exact ⟨_, rfl, h⟩
      · wp_walk using q1
        exact ⟨_, rfl, h⟩
    · wp_walk using q1
      exact ⟨_, rfl, h⟩
section
variable {prog : Program} {w : World} {A : Around} {E : Value → Shared → Prop} {s : Shared}
theorem rf_enum {v : Value} {o : Obj} {H : Heap → Prop} {Q : Value → Shared → Prop} (B : Begins v o H) (h1 : H s.heap)
    (h : ∀ h', IsEnum h' (s.heap.objs.size + 1) s.heap.objs.size 0 .none → h'.get? s.heap.objs.size = some o → h'.objs.size = s.heap.objs.size + 2 →
      (∀ b o, s.heap.get? b = some o → h'.get? b = some o) → Q (.ref (s.heap.objs.size + 1)) { s with heap := h' }) :
    wpAny (model prog w) A (call (.type "enumerate") [v]) Q E s := by
  refine callType_new F.called_enumerate (by decide) (F.typeCall_enumerate_1 _) (F.newCall_enumerate_1 _) (fun obj => F.args_object_init_2 obj _) F.entry_enumerate_new
    (rf_enumerate_new B) ⟨h1, ?_⟩
  have hz : (s.heap.push o).objs.size = s.heap.objs.size + 1 := Heap.size_push ..
  show _ ∧ _
  rw [hz]
  have he : IsEnum ((s.heap.push o).push { cls := .type "enumerate", data := .fields #[.none, .bool false, .ref s.heap.objs.size, rawInt 0, .none, .none] }) (s.heap.objs.size + 1) s.heap.objs.size 0 .none := by
    have := Heap.get?_push_size (s.heap.push o) (o := { cls := .type "enumerate", data := .fields #[.none, .bool false, .ref s.heap.objs.size, rawInt 0, .none, .none] }) rfl
    rw [hz] at this; exact this
  refine ⟨⟨_, he, rfl⟩, h _ he (Heap.get?_push_of_some _ (Heap.get?_push_size _ B.free)) (by rw [Heap.size_push, hz]) fun b o x => Heap.get?_push_of_some _ (Heap.get?_push_of_some _ x)⟩
end
end PySem
namespace Rf
open PySem PySem.Spec PyProof.Rows L2
def IteT (K : PySem.W.Frag) (a : Addr) : It :=
  ⟨fun i H => ∃ (xs : List V) (x : V), SqT K H a xs ∧ xs[i]? = some x, fun i H v H' => ∃ T x, v = .ref T ∧ H T = none ∧ H' = upd H T (.tup [.int (i : Nat), x]) ∧ ∀ xs, SqT K H a xs → xs[i]? = some x, fun i H => ∃ xs : List V, SqT K H a xs ∧ xs.length ≤ i⟩
theorem turn_enumT {P : Program} {w : World} {K : PySem.W.Frag} {elts : List Expr} {kk : Nat} {tpos : Pos} (a e it : Addr) (hae : a ≠ e) (hai : a ≠ it) (hei : e ≠ it) :
    Turn P w K (.Tuple elts kk tpos) (IteT K a) [e, it] e (fun i h => (∃ old, IsEnum h e it ((i : Nat) : Int) old) ∧ h.IsTupleIter it a i) where
  mem := by simp
  obj := fun i h st b hb => by
    obtain ⟨⟨old, he⟩, ⟨o, ho, hc, hd⟩⟩ := st
    have e' : b = e ∨ b = it := by simpa using hb
    rcases e' with z | z
    · rw [z]; exact ⟨_, he, fun v q => nomatch q⟩
    · rw [z]; exact ⟨o, ho, fun v q => by rw [hd] at q; cases q⟩
  keep := fun i h h' st k => let ⟨⟨old, he⟩, hi⟩ := st; ⟨⟨old, k e (by simp) _ he⟩, hi.at fun o q => k it (by simp) o q⟩
  item := by
    intro X hP hw hK hc i pins s σ H E I hf st hg
    subst hP hw hK
    obtain ⟨⟨old, he⟩, hit⟩ := st
    obtain ⟨xs, x, hq, hx⟩ := hg
    obtain ⟨its, rv, p, hz⟩ := I.tuple hq
    obtain ⟨u, hu, ru⟩ := rv.get hx
    have hel : e < s.heap.objs.size := Heap.lt_size he
    have hil : it < s.heap.objs.size := by obtain ⟨_, q, _⟩ := hit; exact Heap.lt_size q
    have hui : i < its.toArray.size := by
      obtain ⟨h1, _⟩ := List.getElem?_eq_some_iff.mp hu
      simpa using h1
    refine wpAny_pyNext_enum_itemD (Draws.tuple (prog := X.prog) (w := X.w) (A := X.A.in1) (show X.A.in1.handled = none from I.ok.hd hc) it a hai its.toArray) he ⟨hit, p⟩ hui hei (by simp [hei, Ne.symm hae]) fun v h' tk hv ho hst' hT hsz hk => ?_
    have hvu : v = u := by
      have : its[i]? = some v := by simpa using hv
      rw [hu] at this; cases this; rfl
    subst hvu
    refine ⟨_, rfl, wpAny_letOwnedTupleGo_enum (s := { s with heap := h', toks := tk + 1 }) ho fun h'' he' sb => ?_⟩
    have hT2 : h''.get? s.heap.objs.size = some { cls := .type "tuple", data := .seq #[.int i tk, v] } := (sb.2 _ (Nat.ne_of_gt hel)).trans hT
    have new : ObjOk X.prog X.w (upd H s.heap.objs.size (.tup [.int (i : Nat), x])) h'' s.heap.objs.size (.tup [.int (i : Nat), x]) :=
      ⟨by show 2 ≤ sizeLine; decide, [.int i tk, v], .cons ⟨_, rfl⟩ (.cons ru .nil), ⟨_, hT2, rfl, _, rfl⟩⟩
    have I1 : Inv X pins σ (upd H s.heap.objs.size (.tup [.int (i : Nat), x])) { s with heap := h'', toks := tk + 1 } :=
      I.turnedNew (ch := [e, it]) (fun b ob hb q => (sb.2 b (fun z => hb (by simp [z]))).trans (hk b ob (fun z => hb (by simp [z])) (fun z => hb (by simp [z])) q)) hf (Nat.le_refl _) new
    refine ⟨.ref s.heap.objs.size, _, I1, rfl, ⟨_, x, rfl, I.hok.fresh (Nat.le_refl _), rfl, fun ys hy => by rw [I.tuple_inj hy hq]; exact hx⟩, ⟨⟨v, ?_⟩, hst'.1.at fun o q => (sb.2 it (Ne.symm hei)).trans q⟩, fun b hb => ?_⟩
    · have e1 : ((i + 1 : Nat) : Int) = (i : Int) + 1 := by omega
      rw [e1]; exact he'
    · have hb' : b < s.heap.objs.size := by
        have e' : b = e ∨ b = it := by simpa using hb
        rcases e' with z | z
        · rw [z]; exact hel
        · rw [z]; exact hil
      rw [upd_ne (Nat.ne_of_lt hb')]
      exact (hf b hb).1
  done := by
    intro X hP hw hK hc i pins s σ H E I hf st hg
    subst hP hw hK
    obtain ⟨⟨old, he⟩, hit⟩ := st
    obtain ⟨xs, hq, hx⟩ := hg
    obtain ⟨its, rv, p, hz⟩ := I.tuple hq
    obtain ⟨f0, f1, f2, f3, f4, f5⟩ := hf it (by simp)
    have hl := rv.length
    have hT : s.TypeIs (.ref e) "enumerate" := ⟨_, he, rfl⟩
    unfold pyNext
    refine wpAny_bind (wpAny_attempt (wpAny_callSpecial?_slot (name := Str.ofString "__next__") hT F.slot_enumerate_next
      (wpAny_call_entry F.slot_enumerate_next hT F.entry_enumerate_next ?_ (F.args_enumerate_next_1 _))))
    show wpAny _ _ (field (.ref e) 2 >>= _) _ _ _
    refine wpAny_bind (wpAny_field he rfl (x := .ref it) rfl ?_)
    refine wpAny_bind (wpAny_nextOf_tuple_end (I.ok.hd hc) hit p (by simp; omega) fun h' x he' hx' => ?_)
    obtain ⟨o, ho, hc⟩ := hx'
    refine wpAny_bind (wpAny_isInstance (T := "StopIteration") (b := true) ⟨o, ho, hc⟩ isSubtype_stop ?_)
    exact wpAny_pure ⟨rfl, I.turned (t' := s.toks) (fun b o hb q => he' b o hb q) f0 f1 f3 f4 f5⟩
  self := fun A i s Q E st h => let ⟨⟨_, he⟩, _⟩ := st; wpAny_pyIter_enum he h
def iEnumT (K : PySem.W.Frag) (ta : TA) : TI := fun σ H R => ta σ H fun vs H1 => ∃ a xs, vs = [.ref a] ∧ SqT K H1 a xs ∧ R (IteT K a) H1
theorem pi_enumT {X : Cx} {e : Expr} {ta : TA} {p pos tpos : Pos} {elts : List Expr} {kk : Nat} (hg : Gl X "enumerate") (hm : X.mg "enumerate" = none) (ha : PA X [e] ta) (hs : starEach [e] X.env = [(false, eval e X.env)] := by rfl) :
    PI X (.Tuple elts kk tpos) (.Call (.Name "enumerate" p) [e] [] pos) (iEnumT X.K ta) := by
  refine ⟨fun pins s σ H R I h => ?_⟩
  refine Call_ (ld_blt I hg hm boot_enumerate (PyProof.Rows.callWith_type1 (thn (ha.run pos pins s σ H _ I h) fun us s1 ⟨vs, H1, I1, r1, q1⟩ => ?_) hs rfl))
  obtain ⟨a, xs, ex, hq, q⟩ := q1
  subst ex
  cases r1 with
  | cons r rr =>
    cases rr
    cases r
    obtain ⟨its, rv, p', hz⟩ := I1.tuple hq
    have hlt : a < s1.heap.objs.size := by
      obtain ⟨_, q, _⟩ := p'
      exact Heap.lt_size q
    refine rf_enum (begins_tuple a its.toArray) p' fun h' he hit hsz hk => wpAny_pyIter_enum he ?_
    have I2 : Inv X pins σ H1 { s1 with heap := h' } := I1.kept (t' := s1.toks) hk
    refine ⟨s1.heap.objs.size + 1, [s1.heap.objs.size + 1, s1.heap.objs.size], _, _, H1, rfl, I2, turn_enumT a (s1.heap.objs.size + 1) s1.heap.objs.size (Nat.ne_of_lt (Nat.lt_succ_of_lt hlt)) (Nat.ne_of_lt hlt) (Nat.succ_ne_self _), ⟨⟨.none, he⟩, ⟨_, hit, rfl, rfl⟩⟩, fun b hb => ?_, q⟩
    have e' : b = s1.heap.objs.size + 1 ∨ b = s1.heap.objs.size := by simpa using hb
    have hle : s1.heap.objs.size ≤ b := by
      rcases e' with z | z
      · rw [z]; exact Nat.le_add_right _ _
      · rw [z]; exact Nat.le_refl _
    exact I1.fpOk hle (I1.hok.fresh hle)
section
variable {K : PySem.W.Frag}
theorem walk_enumT {a : Addr} {xs : List V} : Walk (IteT K a) xs.length (fun H => SqT K H a xs) (YPair (fun i => some (.int (i : Nat))) (fun i => xs[i]?)) := by
  refine ⟨fun i _ hi q => ⟨xs, xs[i], q, by simp [hi]⟩, fun _ q => ⟨xs, q, Nat.le_refl _⟩, fun i H v H' _ q y => ?_⟩
  obtain ⟨T, x, h1, h2, h3, h4⟩ := y
  exact ⟨T, .int (i : Nat), x, h1, h2, h3, rfl, h4 xs q⟩
def zipD : List D → List D → List D
  | x :: xs, y :: ys => .tup [x, y] :: zipD xs ys
  | _, _ => []
theorem zipD_len : ∀ xs ys : List D, (zipD xs ys).length = min xs.length ys.length
  | [], _ => by simp [zipD]
  | _ :: _, [] => by simp [zipD]
  | _ :: xs, _ :: ys => by simp [zipD, zipD_len xs ys]
theorem zipD_get : ∀ {xs ys : List D} {i : Nat} {x y : D}, xs[i]? = some x → ys[i]? = some y → (zipD xs ys)[i]? = some (.tup [x, y])
  | [], _, _, _, _, h, _ => by simp at h
  | _ :: _, [], _, _, _, _, h => by simp at h
  | a :: xs, b :: ys, 0, x, y, h1, h2 => by simp at h1 h2; subst h1 h2; rfl
  | a :: xs, b :: ys, i + 1, x, y, h1, h2 => by simpa [zipD] using zipD_get (i := i) (by simpa using h1) (by simpa using h2)
theorem pair_step {H H' : Hp} {Z : AS} {T : Addr} {x y : V} {d e : D} (hT : H T = none) (hH : H' = upd H T (.tup [x, y])) (n : Nt K H Z) (r1 : Rp K (vis H Z) x d) (r2 : Rp K (vis H Z) y e) : Ex H H' ∧ Rp K (vis H' Z) (.ref T) (.tup [d, e]) := by
  subst hH
  have ex : Ex H (upd H T (.tup [x, y])) := Ex.new hT
  refine ⟨ex, .tup (SqQ.of (vis_in upd_same fun z => (n.hid T z).1 hT)) (.cons (r1.mono (vis_mono ex)) (.cons (r2.mono (vis_mono ex)) .nil))⟩
def enumD (ds : List D) : List D := zipD (rangeD 0 ds.length) ds
theorem rangeD_get {n i : Nat} (h : i < n) : (rangeD 0 n)[i]? = some (.int (i : Nat)) := by
  simp [rangeD, List.getElem?_map, List.getElem?_range h]
theorem enumD_len (ds : List D) : (enumD ds).length = ds.length := by
  unfold enumD
  rw [zipD_len]
  simp [rangeD]
theorem it_enumL {Hv : Hp} {a : Addr} {vs : List V} {ds : List D} (h : SqL K Hv a vs) (r : RpL K Hv vs ds) : ItOk K (Ite K a) Hv (enumD ds) := by
  have w := walk_enum (K := K) (a := a) (xs := vs)
  rw [r.length, ← enumD_len ds] at w
  refine ⟨_, _, w, fun H e => ex_l e h, fun i H x H' Z n e y => ?_⟩
  obtain ⟨T, x1, y1, rfl, hT, hH, h1, h2⟩ := y
  cases h1
  obtain ⟨d, h3, h4⟩ := r.get' h2
  obtain ⟨k1, k2⟩ := pair_step hT hH n (.int (i : Nat)) (h4.mono e)
  have hi : i < ds.length := (List.getElem?_eq_some_iff.mp h3).1
  exact ⟨k1, _, zipD_get (rangeD_get hi) h3, k2⟩
theorem it_enumT {Hv : Hp} {a : Addr} {vs : List V} {ds : List D} (h : SqT K Hv a vs) (r : RpL K Hv vs ds) : ItOk K (IteT K a) Hv (enumD ds) := by
  have w := walk_enumT (K := K) (a := a) (xs := vs)
  rw [r.length, ← enumD_len ds] at w
  refine ⟨_, _, w, fun H e => ex_t e h, fun i H x H' Z n e y => ?_⟩
  obtain ⟨T, x1, y1, rfl, hT, hH, h1, h2⟩ := y
  cases h1
  obtain ⟨d, h3, h4⟩ := r.get' h2
  obtain ⟨k1, k2⟩ := pair_step hT hH n (.int (i : Nat)) (h4.mono e)
  have hi : i < ds.length := (List.getElem?_eq_some_iff.mp h3).1
  exact ⟨k1, _, zipD_get (rangeD_get hi) h3, k2⟩
end
section
variable {X : Cx} {M : List Nat} {W : WX} {b : Bool} {e e2 : Expr} {F F2 : Env → O D} {p pos tpos : Pos} {elts : List Expr} {kk : Nat}
def itEnL : O D → O (List D)
  | .ok (.lst ds) => .ok (enumD ds)
  | .ok (.fls ds) => .ok (enumD ds)
  | .ok _ => .bad
  | .exc c d => .exc c d
  | .bad => .bad
def itEnT : O D → O (List D)
  | .ok (.tup ds) => .ok (enumD ds)
  | .ok _ => .bad
  | .exc c d => .exc c d
  | .bad => .bad
theorem si_enumL (hg : Gl X "enumerate") (hm : X.mg "enumerate" = none) (h : SP X M W b e F) (hs : noStar [e] = true := by rfl) : SI X M W b (.Tuple elts kk tpos) (.Call (.Name "enumerate" p) [e] [] pos) (fun env => itEnL (F env)) := by
  obtain ⟨t, pp, q⟩ := h
  obtain ⟨n1, _⟩ := noStar_head hs X.env
  refine ⟨_, pi_enum hg hm (pa_cons pp pa_nil n1) n1, fun σ H env U S r Q hp => q σ H env U S r _ ?_⟩
  dsimp only at hp
  cases hF : F env with
  | ok d =>
    rw [hF] at hp
    intro v H' ex rp
    cases rp <;> try exact hp.elim
    · rename_i a vs ds ha rr
      exact ⟨a, vs, rfl, SqL.of (of_some_vis ha), hp _ H' ex (it_enumL (SqL.of ha) rr)⟩
    · rename_i a od vs ds ha rr
      exact ⟨a, vs, rfl, sql_frz (of_some_vis ha), hp _ H' ex (it_enumL (sql_frz ha) rr)⟩
  | exc c d => rw [hF] at hp; exact hp
  | bad => rw [hF] at hp; exact hp.elim
theorem si_enumT (hg : Gl X "enumerate") (hm : X.mg "enumerate" = none) (h : SP X M W b e F) (hs : noStar [e] = true := by rfl) : SI X M W b (.Tuple elts kk tpos) (.Call (.Name "enumerate" p) [e] [] pos) (fun env => itEnT (F env)) := by
  obtain ⟨t, pp, q⟩ := h
  obtain ⟨n1, _⟩ := noStar_head hs X.env
  refine ⟨_, pi_enumT hg hm (pa_cons pp pa_nil n1) n1, fun σ H env U S r Q hp => q σ H env U S r _ ?_⟩
  dsimp only at hp
  cases hF : F env with
  | ok d =>
    rw [hF] at hp
    intro v H' ex rp
    cases rp <;> try exact hp.elim
    rename_i a vs ds ha rr
    exact ⟨a, vs, rfl, SqT.up ha, hp _ H' ex (it_enumT ha rr)⟩
  | exc c d => rw [hF] at hp; exact hp
  | bad => rw [hF] at hp; exact hp.elim
end
end Rf
namespace Rf
open PySem PySem.Spec PyProof.Rows L2
section
variable {X : Cx} {M : List Nat} {W : WX} {own : List (Str × Nat)} {vs1 : List Nat} {tg iter tg1 iter1 elt : Expr} {ifs ifs1 : List Expr} {scope : Scope} {I I1 : Env → O (List D)} {g g1 : D → Env → Option Env} {T T1 : Tst} {E : Env → O D}
end
end Rf
namespace Rf
open PySem PySem.Spec PyProof.Rows L2
section
variable {K : PySem.W.Frag} {M : List Nat} {W : WX} {U T : AS} {S S1 S2 : Nat → AS} {H H1 H2 : Hp} {σ : L2.St} {env e1 e2 : Env}
end
section
variable {X : Cx} {M : List Nat} {W : WX}
end
section
variable {K : PySem.W.Frag} {M : List Nat} {U T : AS} {S : Nat → AS} {H : Hp} {σ : L2.St} {env : Env}
end
section
variable {X : Cx} {G : Pl} {W : WX} {os : List Bool} {es : List Expr} {Fs : List (Env → R D)} {is : List Nat}
end
end Rf
namespace Rf
open PySem PySem.Spec PyProof.Rows L2
section
variable {X : Cx} {G : Pl} {W : WX} {os : List Bool} {es tgs : List Expr} {Fs : List (Env → R D)} {F : Env → R D} {is : List Nat} {e : Expr} {pos pt pt2 : Pos} {kt k2 : Nat}
end
section
variable {X : Cx} {G : Pl} {M : List Nat} {W : WX} {K : PySem.W.Frag} {U T : AS} {S : Nat → AS} {H : Hp} {σ : L2.St} {env : Env} {i : Nat} {c f : Str} {ds : List (Str × D)} {y : V} {d : D}
section
local instance (priority := 10000) qs7 : DecidableEq Str := quickStr
end
end
end Rf
namespace Rf
open PySem PySem.Spec PyProof.Rows L2
def seqSt : List (Bool × (Env → O D)) → Env → O (List D)
  | [], _ => .ok []
  | (false, F) :: Fs, env => (F env).bind fun d => (seqSt Fs env).bind fun ds => .ok (d :: ds)
  | (true, F) :: Fs, env => (F env).bind fun d => match d with
    | .tup xs => (seqSt Fs env).bind fun ds => .ok (xs ++ ds)
    | .lst xs => (seqSt Fs env).bind fun ds => .ok (xs ++ ds)
    | _ => .bad
section
variable {X : Cx} {M : List Nat} {W : WX} {b : Bool}
def eTupS (Fs : List (Bool × (Env → O D))) : Env → O D := fun env => (seqSt Fs env).bind gTupD
def eLstS (Fs : List (Bool × (Env → O D))) : Env → O (List D) := fun env => (seqSt Fs env).bind gLstD
theorem rgV_rp {K : PySem.W.Frag} {H : Hp} (a b : Int) : RpL K H (rgV a b) (rangeD a (b - a).toNat) := by
  unfold rgV rangeD
  generalize (b - a).toNat = n
  induction List.range n with
  | nil => exact .nil
  | cons i is ih => exact .cons (.int _) ih
instance rgDec (a b : Int) : Decidable (RgOk a b) := by unfold RgOk; infer_instance
def rgD : O D → O (List D)
  | .ok (.int j) => if RgOk 0 j then .ok (rangeD 0 j.toNat) else .bad
  | .ok _ => .bad
  | .exc c d => .exc c d
  | .bad => .bad
theorem spl_lstRg {k : Nat} {e : Expr} {F : Env → O D} {p pos p2 pos2 : Pos} (gd : Gd X W k) (hg : Gl X "list") (hm : X.mg "list" = none) (hg2 : Gl X "range") (hm2 : X.mg "range" = none) (h : SP X M W b e F) (hs : noStar [e] = true := by rfl) :
    SPL X M W b (.Call (.Name "list" p) [.Call (.Name "range" p2) [e] [] pos2] [] pos) (fun env => rgD (F env)) := by
  obtain ⟨t, pp, q⟩ := h
  obtain ⟨n1, _⟩ := noStar_head hs X.env
  refine ⟨_, pe_listRg gd.calm hg hm (prg_1 hg2 hm2 pp n1) rfl, fun σ H env U S r Q hp => q σ H env U S r _ ?_⟩
  dsimp only at hp
  cases hF : F env with
  | ok d =>
    rw [hF] at hp
    intro v H' ex rp
    cases rp with
    | int j =>
      simp only [rgD] at hp
      split at hp
      · rename_i hj
        refine ⟨j, rfl, hj, fun q' hq => ?_⟩
        have := rgV_rp (K := X.K) (H := vis (upd H' q' (.lst (rgV 0 j))) (zb b U S)) 0 j
        rw [Int.sub_zero] at this
        exact hp _ _ (ex.trans (Ex.new hq)) ⟨q', _, rfl, fresh_back ex hq, upd_same, this⟩
      · exact hp.elim
    | _ => exact hp.elim
  | exc c d => rw [hF] at hp; exact hp
  | bad => rw [hF] at hp; exact hp.elim
variable {e : Expr} {apos cpos pos : Pos} {F : Env → O D}
end
end Rf
namespace Rf
open PySem PySem.Spec PyProof.Rows L2
section
variable {X : Cx} {W : WX} {k : Nat} {c : Str} {ro : Bool} {g : List D → C}
section
local instance (priority := 10000) qs8 : DecidableEq Str := quickStr
end
section
local instance (priority := 10000) qs9 : DecidableEq Str := quickStr
end
end
end Rf
namespace Rf
open PySem PySem.Spec PyProof.Rows L2
section
variable {X : Cx} {M : List Nat} {W : WX} {b : Bool} {k n : Nat} {c x m : Str} {g : List D → C} {e o : Expr} {es : List Expr} {p pos apos : Pos} {ro : Bool}
end
section
variable {X : Cx} {M : List Nat} {W : WX} {b : Bool} {c : Str} {e : Expr} {F : Env → O D} {p pn pos : Pos}
end
end Rf
namespace Rf
open PySem PySem.Spec PyProof.Rows L2
abbrev noZ (K : PySem.W.Frag) (H0 : Hp) : Hp → V → D → Prop := fun H v d => ∃ T : AS, Ow K H v d T ∧ ∀ a, T a → H0 a = none
def SPN (X : Cx) (M : List Nat) (W : WX) (b : Bool) (e : Expr) (F : Env → O D) : Prop :=
  ∃ t : TE, PE X e t ∧ ∀ σ H env U S, Rel X.K M U S H σ env → ∀ Q, Po X.K W (zb b U S) H σ (noZ X.K H) Q (F env) → t σ H Q
section
variable {X : Cx} {M : List Nat} {W : WX} {b : Bool} {k m : Nat} {x : Str} {dds : List D} {g : List D → C} {p pos : Pos} {e : Expr} {es : List Expr} {F : Env → O D}
theorem SPN.so (h : SPN X M W true e F) : SO X M W e (lift F) := by
  obtain ⟨t, p, q⟩ := h
  refine ⟨t, p, fun σ H env U S r Q hp => q σ H env U S r Q ?_⟩
  unfold lift at hp
  cases hF : F env with
  | ok d =>
    rw [hF] at hp
    rintro v H' ex ⟨T, ow, tf⟩
    exact hp v H' S T (r.post ex) (r.hide ex tf ow.nt) ow (fun a ta z => (r.nt.hid a (.inl z)).1 (tf a ta)) fun a ta => .inr (tf a ta)
  | exc c d =>
    rw [hF] at hp
    rw [zb_true]
    exact fun dx v H' ex nz x rr => hp dx v H' S (r.post ex) x nz rr
  | bad => rw [hF] at hp; exact hp
theorem spn_call {Fs : List (Env → O D)} (G : Gd X W k) (c : CalX X k x m [] true dds g) (hg : Gl X x) (h : SPs X M W b (e :: es) Fs) (hs : noStar (e :: es) = true := by rfl) (hdb : (x == ("__debug__" : Str)) = false := by decide) :
    SPN X M W b (.Call (.Name x p) (e :: es) [] pos) (nd (gCall m dds g) Fs) := by
  obtain ⟨dvs, hd, n⟩ := node_call (p := p) (pos := pos) G c hg hs hdb
  obtain ⟨ts, ps, qs⟩ := sps_run h
  obtain ⟨t, pp, q⟩ := n ts ps
  refine ⟨t, pp, fun σ H env U S rl Q hp => q σ H Q (qs σ H env U S rl _ ?_)⟩
  have hp' : Po X.K W (zb b U S) H σ (noZ X.K H) Q ((seqF Fs env).bind (gCall m dds g)) := hp
  refine Po.step hp' fun ds vs H1 hF e1 r1 h1 => ?_
  unfold gCall at h1
  by_cases hm : ds.length = m
  · rw [if_pos hm] at h1
    have n1 := (rl.ntb b).new e1
    have rp' := r1.append (hd (vis H1 (zb b U S)))
    have hl := rp'.length
    refine ⟨by rw [hl, List.length_append, hm], ds ++ dds, zb b U S, fun _ _ => False, by rw [List.length_append, hm], rel_pure n1 rp', ?_⟩
    cases hgg : g (ds ++ dds) with
    | ok d o =>
      rw [hgg] at h1
      intro v H' S' po res
      have ex : Ex H1 H' := fun a o h => po.keep a o h fun _ f => f
      obtain ⟨T, ow, nz, gr⟩ := res
      refine h1 v H' ex ⟨T, ow, fun a ta => ?_⟩
      rcases gr a ta with ⟨_, f⟩ | w
      · exact f.elim
      · exact fresh_back e1 w
    | exc c d o =>
      rw [hgg] at h1
      intro dx v H' S' po x1 x2 x3
      have ex : Ex H1 H' := fun a o h => po.keep a o h fun _ f => f
      exact h1 dx v H' ex (fun z => x2 (.inl z)) x1 (x3.mono (vis_sub fun a z => .inl z))
    | bad => rw [hgg] at h1; exact h1.elim
  · rw [if_neg hm] at h1; exact h1.elim
def eCallT (g : List D → C) (F : Env → O D) : Env → O D := fun env => (F env).bind fun d => ofC (g [d])
end
end Rf
namespace Rf
open PySem PySem.Spec PyProof.Rows L2
section
variable {prog : Program} {w : World} {A : Around} {E : Value → Shared → Prop} {s : Shared} {T : String} {r d : Addr} {n : Nat} {P : Nat → Value → Prop} {OK : Heap → Prop}
end
section
variable {X : Cx} {M : List Nat} {W : WX} {b : Bool} {e : Expr} {te : TE} {p apos cpos pos : Pos} {F : Env → O D}
end
end Rf
namespace Rf
open PySem PySem.Spec PyProof.Rows L2
section
variable {X : Cx} {M : List Nat} {W : WX} {b : Bool} {own : List (Str × Nat)} {tg iter elt : Expr} {ifs : List Expr} {scope : Scope} {I : Env → O (List D)} {g : D → Env → Option Env} {T : Env → O Bool} {E : Env → O D}
end
section
variable {K : PySem.W.Frag} {H H' : Hp}
end
section
variable {X : Cx} {M : List Nat} {W : WX} {own : List (Str × Nat)} {elts : List Expr} {kk : Nat} {tpos px apos cpos pos : Pos} {x : Str} {i : Nat} {elt : Expr} {ifs : List Expr} {scope : Scope} {g : D → Env → Option Env} {T : Tst} {E : Env → O D}
end
end Rf
namespace Rf
open PySem PySem.Spec PyProof.Rows L2
section
variable {X : Cx} {M : List Nat} {W : WX} {b : Bool} {pos : Pos} {ke ve : Expr} {Fk Fv : Env → O D}
theorem spn_dict0 : SPN X M W b (.Dict [] [] pos) (eC (.dic [])) := by
  refine ⟨_, pe_dnewK, fun σ H env U S r Q hp p hn => hp _ _ (Ex.new hn) ⟨fun a => a = p, .dic (T := fun _ => False) upd_same rfl (.nil fun _ h => h) (fun h => h) (fun b => by simp), fun a e => by rw [e]; exact hn⟩⟩
end
end Rf
namespace PySem
section
variable {prog : Program} {w : World} {K : Type} [DecidableEq K] {knd : KeyKind prog w K} {A : Around} {E : Value → Shared → Prop} {s : Shared}
end
end PySem
namespace PySem
section
variable {prog : Program} {w : World} {K : Type} [DecidableEq K] {knd : KeyKind prog w K} {A : Around} {E : Value → Shared → Prop} {s : Shared}
end
end PySem
namespace Rf
open PySem PySem.Spec PyProof.Rows L2
section
variable {X : Cx} {dE kE vE : Expr} {te tk tv : TE} {pos : Pos}
end
end Rf
namespace Rf
open PySem PySem.Spec PyProof.Rows L2
section
variable {K : PySem.W.Frag} {H : Hp}
theorem tab_upd {K : PySem.W.Frag} {H : Hp} {a : Addr} {o u : HO} (n : ∀ t ∈ tabsOf K, TabA H t.2) (ha : H a = some o) (i : Hdb o = true := by rfl) : ∀ t ∈ tabsOf K, TabA (upd H a u) t.2 := fun t ht => Hs.upd (f := .tb "") (n t ht) (fun e => by
  obtain ⟨ps, q, _⟩ := n t ht
  rw [e, ha] at q
  cases q
  cases i) (by rw [ha]; exact oth_some i)
end
section
variable {X : Cx} {M : List Nat} {W : WX} {b : Bool} {pos : Pos} {dE kE vE : Expr} {Fd Fk Fv : Env → O D}
end
end Rf
namespace Rf
open PySem PySem.Spec PyProof.Rows L2
theorem gd_of {P : Program} {w : World} {K : PySem.W.Frag} {mg : Str → Option Value} {base : Heap} {N : List Str} {qual : Str} {scope : Scope} {f : Addr} {cdv : Value} {A : Around} {outer : List PySem.Env} {s : Shared} {H : Hp} {E : XK} {k : Nat} (hN : N.Nodup) (hr : Room k (A.deeper (envOfC qual scope s.heap.objs.size f cdv))) :
    Gd (cxOf (L2.CX P w) P w K mg base N qual scope f cdv A outer s H E) (fun c d _ H => E c d H) k :=
  ⟨rfl, hr, takes_of rfl rfl rfl rfl, hN, passes_of rfl⟩
theorem Gd.blk {X : Cx} {W : WX} {k : Nat} {scope : Scope} {s : Shared} {H : Hp} {C : Addr} {cl : List (Str × Addr)} {fp : List Addr} (g : Gd X W k) : Gd (Bk X scope s H C cl fp) W0 k :=
  ⟨g.calm, g.room, fun _ _ ⟨_, _, _, _, _, _, _, _, _, _, _, _, _, _, _, _, w⟩ => w.elim, g.nd, PassesOwn.never⟩
section
variable {X : Cx} {M : List Nat} {W : WX} {b : Bool} {pos p tpos : Pos} {tg e : Expr} {elts : List Expr} {kk : Nat} {F : Env → O D}
theorem sp_v {i : Nat} {x : Str} (hM : M.contains i = false) (hN : X.N[i]? = some x) (hv : Vis X.env.scope x) (hd : (x == ("__debug__" : Str)) = false := by decide) (hcd : (x == ("__classdict__" : Str)) = false := by decide) : SP X M W b (.Name x pos) (eVar i) := by
  refine ⟨_, pe_var hN hv hd hcd, fun σ H env U S r Q hp => ?_⟩
  have hM' : i ∉ M := by simpa using hM
  unfold eVar at hp
  split at hp
  · rename_i d he
    obtain ⟨v, h1, h2⟩ := r.frz i d hM' he
    exact ⟨v, h1, hp v H (Ex.refl H) (h2.mono (vis_sub fun a z => zb_zo z))⟩
  · exact hp.elim
theorem svz {i : Nat} {x : Str} (hM : M.contains i = false := by rfl) (hN : X.N[i]? = some x := by rfl) (hv : Vis X.env.scope x := by first | exact .inl rfl | exact .inr (.inl rfl) | exact .inr (.inr rfl)) (hd : (x == ("__debug__" : Str)) = false := by decide) (hcd : (x == ("__classdict__" : Str)) = false := by decide) : SP X M W b (.Name x pos) (eVar i) := sp_v hM hN hv hd hcd
def itA : O D → O (List D)
  | .ok (.lst ds) => .ok ds
  | .ok (.scr ns) => .ok (ns.map .int)
  | .ok (.fls ds) => .ok ds
  | .ok (.tup ds) => .ok ds
  | .ok (.str z) => .ok (signsD z)
  | .ok _ => .bad
  | .exc c d => .exc c d
  | .bad => .bad
theorem si_any (h : SP X M W b e F) : SI X M W b tg e (fun env => itA (F env)) := by
  obtain ⟨w1, p1, q1⟩ := si_list (tg := tg) h
  obtain ⟨w2, p2, q2⟩ := si_tup (tg := tg) h
  obtain ⟨w3, p3, q3⟩ := si_str (tg := tg) h
  refine ⟨fun σ H Q => w1 σ H Q ∨ w2 σ H Q ∨ w3 σ H Q, ⟨fun pins s σ H R I hw => ?_⟩, fun σ H env U S r Q hp => ?_⟩
  · rcases hw with hw | hw | hw
    · exact p1.run pins s σ H R I hw
    · exact p2.run pins s σ H R I hw
    · exact p3.run pins s σ H R I hw
  · dsimp only at hp q1 q2 q3
    cases hF : F env with
    | bad => rw [hF] at hp; exact hp.elim
    | exc c d => rw [hF] at hp; exact .inl (q1 σ H env U S r Q (by rw [hF]; exact hp))
    | ok d =>
      rw [hF] at hp
      cases d with
      | lst ds => exact .inl (q1 σ H env U S r Q (by rw [hF]; exact hp))
      | scr ns => exact .inl (q1 σ H env U S r Q (by rw [hF]; exact hp))
      | fls ds => exact .inl (q1 σ H env U S r Q (by rw [hF]; exact hp))
      | tup ds => exact .inr (.inl (q2 σ H env U S r Q (by rw [hF]; exact hp)))
      | str z => exact .inr (.inr (q3 σ H env U S r Q (by rw [hF]; exact hp)))
      | _ => exact hp.elim
def itEn : O D → O (List D)
  | .ok (.lst ds) => .ok (enumD ds)
  | .ok (.fls ds) => .ok (enumD ds)
  | .ok (.tup ds) => .ok (enumD ds)
  | .ok _ => .bad
  | .exc c d => .exc c d
  | .bad => .bad
theorem si_enum (hg : Gl X "enumerate") (hm : X.mg "enumerate" = none) (h : SP X M W b e F) (hs : noStar [e] = true := by rfl) : SI X M W b (.Tuple elts kk tpos) (.Call (.Name "enumerate" p) [e] [] pos) (fun env => itEn (F env)) := by
  obtain ⟨w1, p1, q1⟩ := si_enumL (elts := elts) (kk := kk) (tpos := tpos) (p := p) (pos := pos) hg hm h hs
  obtain ⟨w2, p2, q2⟩ := si_enumT (elts := elts) (kk := kk) (tpos := tpos) (p := p) (pos := pos) hg hm h hs
  refine ⟨fun σ H Q => w1 σ H Q ∨ w2 σ H Q, ⟨fun pins s σ H R I hw => ?_⟩, fun σ H env U S r Q hp => ?_⟩
  · rcases hw with hw | hw
    · exact p1.run pins s σ H R I hw
    · exact p2.run pins s σ H R I hw
  · dsimp only at hp q1 q2
    cases hF : F env with
    | bad => rw [hF] at hp; exact hp.elim
    | exc c d => rw [hF] at hp; exact .inl (q1 σ H env U S r Q (by rw [hF]; exact hp))
    | ok d =>
      rw [hF] at hp
      cases d with
      | lst ds => exact .inl (q1 σ H env U S r Q (by rw [hF]; exact hp))
      | fls ds => exact .inl (q1 σ H env U S r Q (by rw [hF]; exact hp))
      | tup ds => exact .inr (q2 σ H env U S r Q (by rw [hF]; exact hp))
      | _ => exact hp.elim
end
end Rf
namespace Rf
open PySem PySem.Spec PyProof.Rows L2
def asBR : R D → R Bool
  | .ok (.bl b) e => .ok b e
  | .ok _ _ => .bad
  | .exc c d e => .exc c d e
  | .bad => .bad
section
variable {X : Cx} {M : List Nat} {W : WX} {e a : Expr} {pos : Pos}
end
end Rf
namespace Rf
open PySem PySem.Spec PyProof.Rows L2
section
variable {P : Program} {w : World} {K : PySem.W.Frag} {mg : Str → Option Value} {base : Heap} {j k : Nat} {x c m : Str} {n : Nat} {io : List Nat} {ro : Bool} {dds : List D} {g : List D → C} {ks : List Str} {pi : List Nat}
variable {qual : Str} {params : Arguments} {body : List Stmt} {scope : Scope} {dvs : List V} {f : Addr} {fd : FuncData} {ps : List Str}
theorem cal_of (hm : mg x = some (.ref f)) (hk : PySem.W.keepIn K (.ref f) = true) (hl : ps.length = n) (F : FnOk P w K mg base (L2.CX P w) k f fd ps (spC K n io ro g)) (b : Binds K fd ps []) : Cal P w K mg base k x n io ro [] g :=
  ⟨f, fd, ps, [], [], hm, hk, by simpa using hl, by simpa using F, b, .nil, fun _ => .nil⟩
end
end Rf
namespace Rf
open PySem PySem.Spec PyProof.Rows L2
def compP (T : D → O Bool) (E : D → O D) : List D → O (List D)
  | [] => .ok []
  | d :: ds => match T d with
    | .ok true => (match E d with
      | .ok y => (match compP T E ds with
        | .ok ys => .ok (y :: ys)
        | .exc c x => .exc c x
        | .bad => .bad)
      | _ => .bad)
    | .ok false => compP T E ds
    | _ => .bad
theorem compF_gN (vs : List Nat) (i : Nat) (T : Env → O Bool) (E : Env → O D) (env : Env) (ds : List D) : compF vs (gN i) T E env ds = compP (fun d => T (env.set i (some d))) (fun d => E (env.set i (some d))) ds := by
  induction ds with
  | nil => rfl
  | cons d ds ih =>
    simp only [compF, gN, compP, ih]
    cases T (env.set i (some d)) with
    | ok k =>
      cases k
      · rfl
      · cases E (env.set i (some d)) with
        | ok y => simp only [noX, O.bind]; cases compP (fun d => T (env.set i (some d))) (fun d => E (env.set i (some d))) ds <;> rfl
        | exc c x => rfl
        | bad => rfl
    | exc c x => rfl
    | bad => rfl
def pairOf : D → Option (D × D)
  | .tup [x, y] => some (x, y)
  | _ => none
def compP2 (T : D → D → O Bool) (E : D → D → O D) : List D → O (List D)
  | [] => .ok []
  | d :: ds => match pairOf d with
    | none => .bad
    | some (x, y) => match T x y with
      | .ok true => (match E x y with
        | .ok z => (match compP2 T E ds with
          | .ok ys => .ok (z :: ys)
          | .exc c x => .exc c x
          | .bad => .bad)
        | _ => .bad)
      | .ok false => compP2 T E ds
      | _ => .bad
theorem gT_pair (i j : Nat) (d : D) (env : Env) : gT 2 (gsC (gN i) (gsC (gN j) gsN)) d env = (pairOf d).map fun p => (env.set i (some p.1)).set j (some p.2) := by
  unfold gT pairOf
  cases d with
  | tup ds =>
    match ds with
    | [] => rfl
    | [_] => rfl
    | [x, y] => rfl
    | _ :: _ :: _ :: _ => simp
  | _ => rfl
theorem compF_gT (vs : List Nat) (i j : Nat) (T : Env → O Bool) (E : Env → O D) (env : Env) (ds : List D) : compF vs (gT 2 (gsC (gN i) (gsC (gN j) gsN))) T E env ds =
    compP2 (fun x y => T ((env.set i (some x)).set j (some y))) (fun x y => E ((env.set i (some x)).set j (some y))) ds := by
  induction ds with
  | nil => rfl
  | cons d ds ih =>
    simp only [compF, gT_pair, compP2, ih]
    cases pairOf d with
    | none => rfl
    | some p =>
      obtain ⟨x, y⟩ := p
      simp only [Option.map_some]
      cases T ((env.set i (some x)).set j (some y)) with
      | ok k =>
        cases k
        · rfl
        · cases E ((env.set i (some x)).set j (some y)) with
          | ok z => simp only [noX, O.bind]; cases compP2 (fun x y => T ((env.set i (some x)).set j (some y))) (fun x y => E ((env.set i (some x)).set j (some y))) ds <;> rfl
          | exc c x => rfl
          | bad => rfl
      | exc c x => rfl
      | bad => rfl
section
variable {α : Type} (F : Env → O D) (T : Env → O Bool) (A B Rt : Env → Fl) (env : Env)
theorem w_ret (G : Env → R D) : seqB (sRet G) Rt env = sRet G env := by
  unfold seqB sRet
  cases G env <;> rfl
theorem w_nil : seqB sNil Rt env = Rt env := rfl
theorem w_bad : seqB sBad Rt env = .bad := rfl
theorem w_seq (A1 A2 : Env → Fl) : seqB (seqB A1 A2) Rt env = seqB A1 (seqB A2 Rt) env := by
  unfold seqB
  cases A1 env <;> rfl
theorem w_ifL : seqB (sIf (liftB T) A B) Rt env = match T env with
    | .ok true => seqB A Rt env
    | .ok false => seqB B Rt env
    | .exc c d => .exc c d env
    | .bad => .bad := by
  unfold seqB sIf liftB O.at
  cases T env with
  | ok k => cases k <;> rfl
  | exc c d => rfl
  | bad => rfl
theorem w_if : sIf (liftB T) A B env = match T env with
    | .ok true => A env
    | .ok false => B env
    | .exc c d => .exc c d env
    | .bad => .bad := by
  unfold sIf liftB O.at
  cases T env with
  | ok k => cases k <;> rfl
  | exc c d => rfl
  | bad => rfl
theorem w_setL (i : Nat) : seqB (sSet i (lift F)) Rt env = match F env with
    | .ok d => Rt (env.set i (some d))
    | .exc c d => .exc c d env
    | .bad => .bad := by
  unfold seqB sSet lift O.at
  cases F env <;> rfl
theorem w_setLL (i : Nat) (G : Env → O (List D)) : seqB (sSet i (liftL G)) Rt env = match G env with
    | .ok ds => if immL ds then Rt (env.set i (some (.lst ds))) else .bad
    | .exc _ _ => .bad
    | .bad => .bad := by
  unfold seqB sSet liftL
  cases G env with
  | ok ds =>
    dsimp only
    cases immL ds <;> rfl
  | exc c d => rfl
  | bad => rfl
theorem w_dropL : seqB (sDrop (lift F)) Rt env = match F env with
    | .ok _ => Rt env
    | .exc c d => .exc c d env
    | .bad => .bad := by
  unfold seqB sDrop lift O.at
  cases F env <;> rfl
theorem w_retL : sRet (lift F) env = match F env with
    | .ok d => .rt d env
    | .exc c d => .exc c d env
    | .bad => .bad := by
  unfold sRet lift O.at
  cases F env <;> rfl
theorem w_retLL (G : Env → O (List D)) : sRet (liftL G) env = match G env with
    | .ok ds => if immL ds then .rt (.lst ds) env else .bad
    | .exc _ _ => .bad
    | .bad => .bad := by
  unfold sRet liftL
  cases G env with
  | ok ds =>
    dsimp only
    cases immL ds <;> rfl
  | exc c d => rfl
  | bad => rfl
theorem w_nd0 (g : List D → O α) : nd g [] env = g [] := rfl
theorem w_nd1 (g : List D → O α) : nd g [F] env = match F env with
    | .ok a => g [a]
    | .exc c d => .exc c d
    | .bad => .bad := by
  unfold nd seqF O.bind
  cases F env <;> rfl
theorem w_nd2 (g : List D → O α) (G : Env → O D) : nd g [F, G] env = match F env with
    | .ok a => (match G env with
      | .ok b => g [a, b]
      | .exc c d => .exc c d
      | .bad => .bad)
    | .exc c d => .exc c d
    | .bad => .bad := by
  simp only [nd, seqF, O.bind]
  cases F env with
  | ok a => cases G env <;> rfl
  | exc c d => rfl
  | bad => rfl
theorem w_nd3 (g : List D → O α) (G G2 : Env → O D) : nd g [F, G, G2] env = match F env with
    | .ok a => (match G env with
      | .ok b => (match G2 env with
        | .ok c => g [a, b, c]
        | .exc c d => .exc c d
        | .bad => .bad)
      | .exc c d => .exc c d
      | .bad => .bad)
    | .exc c d => .exc c d
    | .bad => .bad := by
  simp only [nd, seqF, O.bind]
  cases F env with
  | ok a =>
    cases G env with
    | ok b => cases G2 env <;> rfl
    | exc c d => rfl
    | bad => rfl
  | exc c d => rfl
  | bad => rfl
end
theorem spC_cong {K : PySem.W.Frag} {n : Nat} {io : List Nat} {ro : Bool} {g g' : List D → C} (h : ∀ ds, ds.length = n → g ds = g' ds) : spC K n io ro g = spC K n io ro g' := by
  funext vs H Q E
  apply propext
  constructor
  · rintro ⟨h1, ds, U, S, h2, h3, h4⟩
    exact ⟨h1, ds, U, S, h2, h3, by rw [← h ds h2]; exact h4⟩
  · rintro ⟨h1, ds, U, S, h2, h3, h4⟩
    exact ⟨h1, ds, U, S, h2, h3, by rw [h ds h2]; exact h4⟩
structure Pe1 (c : List D → C) where
  f : D → C
  ok : ∀ a, c [a] = f a
structure Pe2 (c : List D → C) where
  f : D → D → C
  ok : ∀ a b, c [a, b] = f a b
def Pe1.c {g : List D → C} (p : Pe1 g) : List D → C
  | [a] => p.f a
  | _ => .bad
def Pe2.c {g : List D → C} (p : Pe2 g) : List D → C
  | [a, b] => p.f a b
  | _ => .bad
theorem Pe1.eq {g : List D → C} (p : Pe1 g) (ds : List D) (h : ds.length = 1) : g ds = p.c ds := match ds, h with
  | [a], _ => p.ok a
theorem Pe2.eq {g : List D → C} (p : Pe2 g) (ds : List D) (h : ds.length = 2) : g ds = p.c ds := match ds, h with
  | [a, b], _ => p.ok a b
end Rf
namespace Rf
open PySem PySem.Spec PyProof.Rows L2
section
variable {X : Cx} {M : List Nat} {W : WX} {b : Bool} {k : Nat} {e : Expr} {F : Env → O D} {p p2 q pos : Pos}
end
end Rf
namespace Rf
open PySem PySem.Spec PyProof.Rows L2
section
variable {P : Program} {w : World} {A : Around} {E : Value → Shared → Prop} {s : Shared}
end
end Rf
namespace Rf
open PySem PySem.Spec PyProof.Rows L2
section
variable {X : Cx} {M : List Nat} {W : WX} {b : Bool} {k : Nat} {e : Expr} {F : Env → O D} {p p2 q pos : Pos}
end
end Rf
namespace Rf
open PySem PySem.Spec PyProof.Rows L2
section
variable {K : PySem.W.Frag}
end
section
variable {X : Cx} {M : List Nat} {W : WX} {b : Bool} {e e2 e3 : Expr} {F F2 F3 : Env → O D} {p pos tpos : Pos} {elts : List Expr} {kk : Nat}
end
end Rf
namespace Rf
open PySem PySem.Spec PyProof.Rows L2
section
variable {K : PySem.W.Frag} {M M' : List Nat} {U T : AS} {S S' : Nat → AS} {H H' : Hp} {σ : L2.St} {env e' : Env}
end
section
variable {X : Cx} {M M' : List Nat} {W : WX} {e : Expr}
end
end Rf
namespace Rf
open PySem PySem.Spec PyProof.Rows L2
section
variable {X : Cx} {M : List Nat} {W : WX} {own : List (Str × Nat)} {tg iter elt : Expr} {ifs : List Expr} {scope : Scope} {I : Env → O (List D)} {g : D → Env → Option Env} {T : Env → R Bool} {E : Env → R D}
end
end Rf
namespace Rf
open PySem PySem.Spec PyProof.Rows L2
section
variable {X : Cx} {M : List Nat} {W : WX} {own : List (Str × Nat)} {tg iter elt c e a : Expr} {ifs rest : List Expr} {scope : Scope} {I : Env → O (List D)} {g : D → Env → Option Env} {E : Env → R D} {vs : List Nat} {pos : Pos}
theorem se_op {op : Operator} {r : R2} {f : D → D → O D} {Fa Fc : Env → R D} (ho : OpR X (binaryOp op) r) (v : V2 X.K W r f) (ha : SE X M W a Fa) (hc : SE X M W c Fc) : SE X M W (.BinOp a op c pos) (nr (g2 f) [Fa, Fc]) := se_node (node_op ho) v.val (.cons ha (.cons hc .nil))
theorem se_ix {Fa Fc : Env → R D} (ha : SE X M W a Fa) (hc : SE X M W c Fc) (hs : PlainIx c := by intro _ _; rfl) : SE X M W (.Subscript a c pos) (nr (g2 fIx) [Fa, Fc]) := se_node (node_ix ix_all hs) v2_ix.val (.cons ha (.cons hc .nil))
theorem se_tup {es : List Expr} {Fs : List (Env → R D)} {k : Nat} (h : SEs X M W es Fs) (hs : noStar es = true := by rfl) : SE X M W (.Tuple es k pos) (nr gTupD Fs) := se_node (node_tup hs) val_tup h
theorem ste_cmp {op : CmpOp} {r : R2} {f : D → D → O D} {Fa Fc : Env → R D} (ho : OpR X (compareOp op) r) (v : V2 X.K W r f) (ha : SE X M W a Fa) (hc : SE X M W c Fc) (hm : behindInMarks op c = false := by first | exact nobehind _ (by decide) (by decide) | rfl) :
    STe X M W (.Compare a [op] [c] pos) (fun env => asBR (nr (g2 f) [Fa, Fc] env)) := by
  obtain ⟨ts, ps, qs⟩ := ses_run (SEs.cons ha (SEs.cons hc SEs.nil))
  cases ps with | cons p1 ps => cases ps with | cons p2 ps => cases ps with | nil =>
  refine ⟨_, pt_cmpR ho p1 p2 hm, fun σ H env U S rl Q hp => ?_⟩
  refine qs σ H env U S rl (fun vs H1 => r2 r vs σ H1 fun w H2 => ∃ b, w = .bl b ∧ Q b H2) ?_
  dsimp only at hp
  have hp2 : PoE X.K M W U S H σ (rpE X.K U) (fun w H2 => ∃ b, w = .bl b ∧ Q b H2) ((seqR [Fa, Fc] env).bind fun ds env => (g2 f ds).at env) := by
    show PoE X.K M W U S H σ (rpE X.K U) (fun w H2 => ∃ b, w = .bl b ∧ Q b H2) (nr (g2 f) [Fa, Fc] env)
    cases hF : nr (g2 f) [Fa, Fc] env with
    | ok d e' =>
      rw [hF] at hp
      intro v H' S' po rp
      cases rp with
      | bl k => exact ⟨k, rfl, hp k H' S' po rfl⟩
      | _ => exact hp.elim
    | exc c d e' => rw [hF] at hp; exact hp
    | bad => rw [hF] at hp; exact hp.elim
  refine PoE.step hp2 fun ds env1 vs H1 S1 hF p1 r1 h1 => ?_
  exact v.val H1 _ σ vs ds _ p1.rel.nt r1 (PoE.pure p1.rel h1 fun _ _ _ _ h => h)
def andR (F G : Env → R Bool) : Env → R Bool := fun env => (F env).bind fun k e => if k then G e else .ok false e
def SWe (X : Cx) (M : List Nat) (W : WX) (e : Expr) (F : Env → R Bool) : Prop :=
  ∃ t : TT, PW X e t ∧ ∀ σ H env U S, Rel X.K M U S H σ env → ∀ Q, PoE X.K M W U S H σ eqE Q (F env) → t σ H Q
theorem SWe.st {F : Env → R Bool} (h : SWe X M W e F) : STe X M W e F := by
  obtain ⟨t, p, q⟩ := h
  exact ⟨t, p.pt, q⟩
theorem swe_and1 {F : Env → R Bool} (h : STe X M W a F) : SWe X M W (.BoolOp .And [a] pos) F := by
  obtain ⟨t, p, q⟩ := h
  exact ⟨t, pw_and1 p, q⟩
theorem swe_and {F G : Env → R Bool} (h : STe X M W a F) (h2 : SWe X M W (.BoolOp .And (c :: rest) pos) G) : SWe X M W (.BoolOp .And (a :: c :: rest) pos) (andR F G) := by
  obtain ⟨t, p, q⟩ := h
  obtain ⟨t2, p2, q2⟩ := h2
  refine ⟨_, pw_and p p2, fun σ H env U S r Q hp => q σ H env U S r _ ?_⟩
  have hp' : PoE X.K M W U S H σ eqE Q ((F env).bind fun k e => if k then G e else .ok false e) := hp
  refine PoE.step hp' fun k e1 v H1 S1 hF p1 r1 h1 => ?_
  obtain rfl : v = k := r1
  cases v with
  | true => exact q2 σ H1 e1 U S1 p1.rel Q h1
  | false => exact h1 false H1 S1 (p1.rel.post (Ex.refl H1)) rfl
end
end Rf
namespace Rf
open PySem PySem.Spec PyProof.Rows L2
section
variable {X : Cx} {M : List Nat} {W : WX} {pos : Pos}
end
end Rf
namespace Rf
open PySem PySem.Spec PyProof.Rows L2
def frzL (F : Env → R D) : Env → R D := fun env => match F env with
  | .ok (.lst ds) e => if immL ds then .ok (.fls ds) e else .bad
  | _ => .bad
def tFrz (t : TE) : TE := fun σ H Q => t σ H fun v H1 => ∃ a vs, H1 a = some (.lst vs) ∧ ∀ od, Q v (upd H1 a (.frz od (.lst vs)))
section
variable {X : Cx} {M : List Nat} {W : WX} {e : Expr}
theorem pe_frz {t : TE} (h : PE X e t) : PE X e (tFrz t) := by
  refine ⟨fun pins s σ H Q I hw => ?_⟩
  refine thn (h.run pins s σ H _ I hw) fun u s' ⟨x, H', I', rx, a, vs, hl, q⟩ => ?_
  obtain ⟨od, I2⟩ := I'.lock hl trivial
  exact ⟨x, _, I2, rx, q od⟩
theorem frz_run {K : PySem.W.Frag} {t : TE} {F : Env → R D} (q : ∀ σ H env U S, Rel K M U S H σ env → ∀ Q, PoO K M W U S H σ Q (F env) → t σ H Q) : ∀ σ H env U S, Rel K M U S H σ env → ∀ Q, PoE K M W U S H σ (rpE K U) Q (frzL F env) → tFrz t σ H Q := by
  intro σ H env U S r Q hp
  refine q σ H env U S r _ ?_
  unfold frzL at hp
  cases hF : F env with
  | exc c d e' => rw [hF] at hp; exact hp.elim
  | bad => rw [hF] at hp; exact hp.elim
  | ok d e' =>
    rw [hF] at hp
    cases d with
    | lst ds =>
      simp only at hp
      by_cases hi : immL ds = true
      · rw [if_pos hi] at hp
        intro v H' S' T po rl ow nu gr
        obtain ⟨a, vs, T', rfl, hl, ol, nT, hT⟩ := lst_ow ow
        refine ⟨a, vs, hl, fun od => ?_⟩
        have Ta : T a := (hT a).mpr (.inl rfl)
        have st : Stay H' (upd H' a (.frz od (.lst vs))) := ow_tup (K := K) (oth_at (by assumption))
        have rel : Rel K M U S' (upd H' a (.frz od (.lst vs))) σ e' := by
          refine ⟨fun i d hi he => ?_, fun i d hi he => ?_, rl.dis, fun i b z u => rl.out i b z (.inl u), Nt.of (tab_upd rl.nt.tab (by assumption)) fun b z => ?_, rl.len⟩
          · obtain ⟨v, h1, h2⟩ := rl.own i d hi he
            refine ⟨v, h1, h2.carry st fun b o sb hb => ?_⟩
            have ne : b ≠ a := fun e => by rw [e] at sb; exact rl.out i a sb (.inr Ta)
            exact hb.upd ne (oth_at (by assumption))
          · obtain ⟨v, h1, h2⟩ := rl.frz i d hi he
            refine ⟨v, h1, h2.mono fun b o t hb => ?_⟩
            obtain ⟨w1, w2⟩ := of_vis hb
            have ne : b ≠ a := fun e => by rw [e] at w2; exact w2 (.inl (.inr Ta))
            refine vis_in (by rw [upd_ne ne]; exact w1) fun z => w2 ?_
            exact z.elim (fun z => .inl (.inl z)) .inr
          · have zb : zo (un U T) S' b := z.elim (fun z => .inl (.inl z)) .inr
            have ne : b ≠ a := fun e => by
              rw [e] at z
              rcases z with z | ⟨j, z⟩
              · exact nu a Ta z
              · exact rl.out j a z (.inr Ta)
            obtain ⟨n1, n2⟩ := rl.nt.hid b zb
            exact ⟨by rw [upd_ne ne]; exact n1, fun o q => n2 o (by rw [upd_ne ne] at q; exact q)⟩
        refine hp _ _ S' ⟨rel, fun b o hb nb => ?_, po.grow⟩ (.fls (vis_in upd_same fun z => ?_) ?_)
        · have hb' := po.keep b o hb nb
          have ne : b ≠ a := fun e => by
            rcases gr a Ta with ⟨j, z⟩ | z
            · exact nb j (by rw [e]; exact z)
            · exact hb.ne (by rw [e]; exact z)
          exact hb'.upd ne (oth_at (by assumption))
        · rcases z with z | ⟨j, z⟩
          · exact nu a Ta z
          · exact rl.out j a z (.inr Ta)
        · exact RpL.imm (vis_tup rel.nt) hi (RpL.imm st hi ol.rp)
      · rw [if_neg hi] at hp; exact hp.elim
    | _ => exact hp.elim
theorem SO.frz {F : Env → R D} (h : SO X M W e F) : SE X M W e (frzL F) := by
  obtain ⟨t, p, q⟩ := h
  exact ⟨tFrz t, pe_frz p, frz_run q⟩
end
end Rf
namespace Rf
open PySem PySem.Spec PyProof.Rows L2
structure FnG (P : Program) (w : World) (K : PySem.W.Frag) (mg : Str → Option Value) (base : Heap) (k : Nat) (f : Addr) (fd : FuncData) (ps : List Str) (sp : Sp) : Prop where
  ln : ∀ vs H Q E, sp vs H Q E → vs.length = ps.length
  go : ∀ (A : Around) (out : List PySem.Env) (s : Shared) (H : Hp) (ar : Args) (us : List Value) (vs : List V) (Q : VK) (E : XK), A.guards = some [] → Room k A → Env0 P w K mg base A out s H → BindsTo s fd ar (ps.zip us) → Vals vs us → sp vs H Q E →
    codeAny (model P w) A (.call (.ref f) ar) (L2.CR (L2.CX P w) out P w H s Q E) s
section
variable {P : Program} {w : World} {K : PySem.W.Frag} {mg : Str → Option Value} {base : Heap}
theorem FnG.mono {j k : Nat} {f : Addr} {fd : FuncData} {ps : List Str} {sp : Sp} (F : FnG P w K mg base j f fd ps sp) (h : j ≤ k) : FnG P w K mg base k f fd ps sp :=
  ⟨F.ln, fun A out s H ar us vs Q E gg hr => F.go A out s H ar us vs Q E gg (hr.mono h)⟩
theorem FnG.body {x qual : Str} {params : Arguments} {body : List Stmt} {scope : Scope} {dvs : List V} {kws : List (Str × V)} {f : Addr} {fd : FuncData} {N ps : List Str} {k : Nat} {sp : Sp} (F : FunD K x qual params body scope dvs kws f fd) (SC : FnScope N ps scope) (ln : ∀ vs H Q E, sp vs H Q E → vs.length = ps.length)
    (bd : ∀ (cdv : Value) (A : Around) (out : List PySem.Env) (s : Shared) (H : Hp) (vs : List V) (Q : VK) (E : XK), A.guards = some [] → Room k (A.deeper (envOfC qual scope s.heap.objs.size f cdv)) → sp vs H Q E →
      ∃ t, PSs (cxOf (L2.CX P w) P w K mg base N qual scope f cdv A out s H E) body t ∧ t { nx := fun _ H' => Q .non H', rt := Q } (start N vs) H) : FnG P w K mg base (k + 1) f fd ps sp := by
  obtain ⟨oc, od, dV, kV, doc, pm, an, cdv, ct, osl, rfl, look, code, _, _⟩ := F.ex
  refine ⟨ln, fun A out s H ar us vs Q E gg room env binds vals prom => ?_⟩
  have kin : K.In s.heap := env.mod.kin.keeps fun a o q => (env.bs a o q).1
  have nolim : s.heap.NoLimit := env.mod.nolimit.keeps fun a o q => (env.bs a o q).1
  refine codeAny_call_function room.depth (kin _ _ look) rfl SC.co SC.gen rfl (PySem.W.codeRec_of kin code) (binds _ _ _ _ ?_)
  refine wpAny_newFunctionEnv_cells SC.kind (fun z hz => ?_) fun env1 he s1 laid => ?_
  · obtain ⟨n, v⟩ := z
    rcases SC.par n (List.of_mem_zip hz).1 with q | q
    · exact Or.inl q
    · exact Or.inr ⟨q, PySem.W.cellsFrom_some _ _ _ (.inl q)⟩
  subst he
  refine ⟨nolim.keeps laid.toInCall.keep, codeAny_func ?_⟩
  obtain ⟨t, run, post⟩ := bd cdv A out s H vs Q E gg (room.deeper _) prom
  have inv : Inv (cxOf (L2.CX P w) P w K mg base N qual scope f cdv A out s H E) [] (start N vs) H s1 := inv_start SC room.hd env (ln _ _ _ _ prom) vals laid
  refine wpAny_mono (run.run [] s1 (start N vs) H _ inv post) (fun fl s' r => ?_) fun _ _ r => r
  match fl, r with
  | .ret u, ⟨v, σ', H', J, rv, q⟩ => exact ⟨v, H', J.os, J.bare, J.base, J.hok, rv, q⟩
  | .next, ⟨σ', H', J, q⟩ => exact ⟨V.non, H', J.os, J.bare, J.base, J.hok, rfl, q⟩
  | .brk, ⟨_, _, _, q⟩ => exact q.elim
  | .cont, ⟨_, _, _, q⟩ => exact q.elim
end
section
variable {X : Cx} {k : Nat} {f : Addr} {fd : FuncData} {ps : List Str} {sp : Sp} {dvs : List V} {ds : List Value} {E : L2.St → XK} {x : Str} {p pos : Pos} {e : Expr} {es : List Expr} {t : TA}
theorem pe_callG (F : FnG X.prog X.w X.K X.mg X.base k f fd ps sp) (gg : X.A.guards = some []) (hr : Room k X.A) (hg : Gl X x) (hm : X.mg x = some (.ref f)) (hk : PySem.W.keepIn X.K (.ref f) = true) (hb : Binds X.K fd ps ds) (hd : Vals dvs ds) (hx : ∀ σ, PassesAt (L2.CX X.prog X.w) X σ (E σ))
    (ha : PA X (e :: es) t) (hdb : (x == ("__debug__" : Str)) = false) (he : starEach (e :: es) X.env = (false, eval e X.env) :: starEach es X.env) (hpl : (backTo pos (starEach es X.env)).any (·.1) = false) :
    PE X (.Call (.Name x p) (e :: es) [] pos) (tCallSD sp dvs E t) := by
  refine ⟨fun pins s σ H Q I h => wpAny_Call_Name_kw (ld_glob I hg hm ?_ hdb)⟩
  refine PySem.W.callWith_K (h₀ := X.base) I.ok.mod.kin hk (thn (ha.run pos pins s σ H _ I h) fun us s1 q => ?_) he hpl
  obtain ⟨vs, H1, I1, r, q⟩ := q
  refine ⟨I1.kIn, ?_⟩
  have rr := r.append hd
  have hn : (us ++ ds).length = ps.length := rr.length.symm.trans (F.ln _ _ _ _ q)
  refine wpAny_call (codeAny_mono (F.go X.A X.stack s1 H1 ⟨us, []⟩ (us ++ ds) (vs ++ dvs) Q (E σ) gg hr I1.env0 (hb s1 us I1.kIn hn) rr q) fun res s' z => ?_)
  match res, z with
  | .error ex, z => exact hx σ pins H1 s1 ex s' I1 z
  | .ok (.ret u), z => exact I1.after z
  | .ok .next, z => exact z.elim
  | .ok .brk, z => exact z.elim
  | .ok .cont, z => exact z.elim
end
section
variable {P : Program} {w : World} {K : PySem.W.Frag} {mg : Str → Option Value} {base : Heap} {x qual : Str} {params : Arguments} {body : List Stmt} {scope : Scope} {dvs : List V} {kws : List (Str × V)} {f : Addr} {fd : FuncData}
theorem fn_mkG {N ps : List Str} {k : Nat} {M io : List Nat} {ro : Bool} {B : Env → Fl} (F : FunD K x qual params body scope dvs kws f fd) (SC : FnScope N ps scope) (hp : plOk M io ps.length = true) (hN : ps.length ≤ N.length)
    (hbody : ∀ (cdv : Value) (A : Around) (outer : List PySem.Env) (s : Shared) (H : Hp) (E : XK), A.guards = some [] → Room k (A.deeper (envOfC qual scope s.heap.objs.size f cdv)) →
      SSs (cxOf (L2.CX P w) P w K mg base N qual scope f cdv A outer s H E) ⟨M, io, ro⟩ (fun c d _ H => E c d H) body B) :
    FnG P w K mg base (k + 1) f fd ps (spC K ps.length io ro (runB N.length ps.length io B)) := by
  refine FnG.body F SC (fun vs H Q E h => h.1) fun cdv A outer s H vs Q E gg hr h => ?_
  obtain ⟨hl, ds, U, S, hd, rel, po⟩ := h
  obtain ⟨t, p, q⟩ := hbody cdv A outer s H E gg hr
  simp only [plOk, Bool.and_eq_true, List.all_eq_true, Bool.or_eq_true, Bool.not_eq_true', decide_eq_false_iff_not, List.contains_eq_mem, decide_eq_true_eq] at hp
  obtain ⟨hM, hio⟩ := hp
  refine ⟨t, p, q (start N vs) H (env0 N.length ds) U S ⟨?_, ?_, rel.dis, rel.out, rel.nt, ?_⟩ _ ?_⟩
  · intro i d hi he
    obtain ⟨h1, h2⟩ := env0_get he
    have hi2 : i ∈ io := (hM i hi).resolve_left (by omega)
    obtain ⟨v, h3, h4⟩ := rel.own i d hi2 h1
    exact ⟨v, by rw [start_get (by omega)]; exact h3, h4⟩
  · intro i d hi he
    obtain ⟨h1, h2⟩ := env0_get he
    have hi2 : i ∉ io := fun z => hi (hio i z).1
    obtain ⟨v, h3, h4⟩ := rel.frz i d hi2 h1
    exact ⟨v, by rw [start_get (by omega)]; exact h3, h4⟩
  · simp only [env0, L2.start, List.length_append, List.length_map, List.length_replicate]
    omega
  have fin : ∀ {S' : Nat → AS} {H' : Hp} {σ' : L2.St} {e : Env}, PostS K ⟨M, io, ro⟩ U S H (start N vs) S' H' σ' e → Post K io U S H (vs.map some) S' H' (outs io ps.length e) := by
    intro S' H' σ' e po
    refine ⟨⟨?_, ?_, po.rel.dis, po.rel.out, po.rel.nt, ?_⟩, po.keep, po.grow⟩
    · intro i d hi he
      have hi1 := (hio i hi).2
      have he2 : e[i]? = some (some d) := by
        unfold outs at he
        rw [List.getElem?_map, List.getElem?_range hi1] at he
        simp only [Option.map_some, List.contains_eq_mem, hi, decide_true, if_true, Option.some.injEq] at he
        cases hq : e[i]? with
        | none => rw [hq] at he; simp at he
        | some z => rw [hq] at he; simp at he; rw [he]
      obtain ⟨v, h1, h2⟩ := po.rel.own i d (hio i hi).1 he2
      refine ⟨v, ?_, h2⟩
      rw [← start_get (N := N) (by omega), ← po.prot i hi]
      exact h1
    · intro i d hi he
      unfold outs at he
      rw [List.getElem?_map] at he
      cases hq : (List.range ps.length)[i]? with
      | none => rw [hq] at he; simp at he
      | some j =>
        have hj : j = i := by
          obtain ⟨h1, h2⟩ := List.getElem?_eq_some_iff.mp hq
          rw [← h2]; simp
        subst hj
        rw [hq] at he
        simp [hi] at he
    · simp [outs, hl]
  simp only [runB] at po
  cases hB : B (env0 N.length ds) with
  | nx e =>
    rw [hB] at po
    intro σ' H' S' pos
    refine po .non H' S' (fin pos) ?_
    unfold Res
    cases ro with
    | false => exact .non
    | true => exact ⟨fun _ => False, .leaf rfl .non (fun _ h => h), fun _ h => h.elim, fun _ h => h.elim⟩
  | rt d e =>
    rw [hB] at po
    intro v σ' H' S' pos res
    exact po v H' S' (fin pos) res
  | exc c d e =>
    rw [hB] at po
    intro dx v σ' H' S' pos h1 h2 h3
    exact po dx v H' S' (fin pos) h1 h2 h3
  | bad => rw [hB] at po; exact po
end
structure CalG (P : Program) (w : World) (K : PySem.W.Frag) (mg : Str → Option Value) (base : Heap) (k : Nat) (x : Str) (m : Nat) (io : List Nat) (ro : Bool) (dds : List D) (g : List D → C) : Prop where
  ex : ∃ (f : Addr) (fd : FuncData) (ps : List Str) (dvs : List V) (dsV : List Value), mg x = some (.ref f) ∧ PySem.W.keepIn K (.ref f) = true ∧ ps.length = m + dds.length ∧ FnG P w K mg base k f fd ps (spC K (m + dds.length) io ro g) ∧
    Binds K fd ps dsV ∧ Vals dvs dsV ∧ ∀ H, RpL K H dvs dds
theorem CalG.mono {P : Program} {w : World} {K : PySem.W.Frag} {mg : Str → Option Value} {base : Heap} {j k : Nat} {x : Str} {m : Nat} {io : List Nat} {ro : Bool} {dds : List D} {g : List D → C} (h : CalG P w K mg base j x m io ro dds g) (hk : j ≤ k) : CalG P w K mg base k x m io ro dds g := by
  obtain ⟨f, fd, ps, dvs, dsV, h1, h2, h3, h4, h5⟩ := h.ex
  exact ⟨f, fd, ps, dvs, dsV, h1, h2, h3, h4.mono hk, h5⟩
section
variable {X : Cx} {M : List Nat} {W : WX} {b : Bool} {k m : Nat} {x : Str} {ro : Bool} {dds : List D} {g : List D → C} {p pos : Pos} {e : Expr} {es : List Expr}
abbrev CalGX (X : Cx) := CalG X.prog X.w X.K X.mg X.base
variable {F : Env → O D}
open Classical in
theorem sp_callTG (G : Gd X W k) (gg : X.A.guards = some []) (c : CalGX X k x 1 [0] false [] g) (hg : Gl X x) (h : SPN X M W b e F) (hs : noStar [e] = true := by rfl) (hdb : (x == ("__debug__" : Str)) = false := by decide) :
    SP X M W b (.Call (.Name x p) [e] [] pos) (eCallT g F) := by
  obtain ⟨f, fd, ps, dvs, dsV, h1, h2, h3, h4, h5, h6, h7⟩ := c.ex
  have hdv : dvs = [] := by
    have := (h7 (fun _ => none)).length
    simpa using this
  subst hdv
  obtain ⟨t, pe, q⟩ := h
  obtain ⟨n1, n2⟩ := noStar_head hs X.env
  refine ⟨_, pe_callG h4 gg G.room hg h1 h2 h5 h6 (fun σ => passAt G.takes σ) (pa_cons pe pa_nil n1) hdb n1 (noStar_plain n2 pos X.env), fun σ H env U S r Q hp => q σ H env U S r _ ?_⟩
  unfold eCallT at hp
  refine Po.step hp fun d v H1 hF e1 ho hq => ?_
  obtain ⟨T, ow, tf⟩ := ho
  have n1 := (r.ntb b).new e1
  have rel0 : Rel X.K [0] (zb b U S) (fun j => if j = 0 then T else fun _ => False) H1 [some v] [some d] := by
    refine ⟨fun j d' hj he => ?_, fun j d' hj he => ?_, fun j j' a ne q1 q2 => ?_, fun j a q1 u => ?_, Nt.of n1.tab fun a z => ?_, rfl⟩
    · have : j = 0 := by simpa using hj
      subst this
      simp at he
      subst he
      exact ⟨v, rfl, by simpa using ow⟩
    · cases j with
      | zero => simp at hj
      | succ j => simp at he
    · by_cases hj : j = 0
      · by_cases hj' : j' = 0
        · exact ne (hj.trans hj'.symm)
        · simp only [hj', if_false] at q2
      · simp only [hj, if_false] at q1
    · by_cases hj : j = 0
      · simp only [hj, if_true] at q1
        exact ((r.ntb b).hid a u).1 (tf a q1)
      · simp only [hj, if_false] at q1
    · rcases z with z | ⟨j, z⟩
      · exact n1.hid a z
      · by_cases hj : j = 0
        · simp only [hj, if_true] at z; exact ow.nt a z
        · simp only [hj, if_false] at z
  have key : ∀ {H' : Hp} {o : Env} {S' : Nat → AS}, Post X.K [0] (zb b U S) (fun j => if j = 0 then T else fun _ => False) H1 [some v] S' H' o → Ex H H' := fun po a o ha => po.keep a o (e1 a o ha) fun j z => by
    by_cases hj : j = 0
    · simp only [hj, if_true] at z
      exact ha.ne (tf a z)
    · simp only [hj, if_false] at z
  refine ⟨rfl, [d], zb b U S, _, rfl, rel0, ?_⟩
  cases hgg : g [d] with
  | ok d' o =>
    rw [hF] at hp
    simp only [O.bind, hgg] at hp
    intro v' H' S' po res
    exact hp v' H' (key po) (res.mono (vis_sub fun a z => .inl z))
  | exc c d' o =>
    rw [hF] at hp
    simp only [O.bind, hgg] at hp
    intro dx v' H' S' po x1 x2 x3
    exact hp dx v' H' (key po) (fun z => x2 (.inl z)) x1 (x3.mono (vis_sub fun a z => .inl z))
  | bad => rw [hgg] at hq; exact hq.elim
end
def okRp (d : D) : Bool := pd 59 d && ((toP d).showable && decide ((toP d).shown.length ≤ sizeLine))
def fRepr : D → O D
  | .tup xs => if okRp (.tup xs) then .ok (.str (toP (.tup xs)).shown) else .bad
  | .lst xs => if okRp (.lst xs) then .ok (.str (toP (.lst xs)).shown) else .bad
  | .fls xs => if okRp (.fls xs) then .ok (.str (toP (.fls xs)).shown) else .bad
  | _ => .bad
def rReprD (K : PySem.W.Frag) : List V → Hp → VK → Prop := fun vs H Q => ∃ (a : Addr) (d : D) (H0 : Hp), vs = [.ref a] ∧ Exo H0 H ∧ Rp K H0 (.ref a) d ∧ okRp d = true ∧ Q (.str (toP d).shown) H
section
variable {X : Cx}
theorem cr_reprD (gg : X.A.guards = some []) (hu : X.A.units + 65 < cLine) : CallR X (.builtin "repr") (rReprD X.K) := by
  intro pins s σ H vs us Q I r h
  obtain ⟨a, d, H0, rfl, e0, rp, ok, q⟩ := h
  obtain ⟨u, rfl, ru⟩ := vals1 r
  obtain rfl : u = Value.ref a := ru
  simp only [okRp, Bool.and_eq_true, decide_eq_true_eq] at ok
  obtain ⟨ok1, ok2, ok3⟩ := ok
  obtain ⟨as, rd⟩ := Dp.reads I _ _ _ (pd_dp 59 d _ ok1 (rp.mono e0)) rfl
  have lay := pd_lay 59 d ok1
  have nd : (toP d).hasDict = false := PyData.hasDict_of_canLay _ lay.1
  have dp := lay.2
  exact repr_of_reads' rd ok2 (fun z => absurd (nd.symm.trans z) Bool.false_ne_true) gg (by omega) (fun _ _ z => z) (fun h' t tk hk => ⟨.str _, H, I.kept hk, ⟨t, rfl⟩, q⟩) ok3
theorem vc_reprD {K : PySem.W.Frag} {W : WX} : VC1 K W (rReprD K) fRepr := by
  intro H Z σ x d Q n h hp
  cases h with
  | @tup a vs xs ha r =>
    simp only [fRepr] at hp
    split at hp
    · rename_i ok
      exact ⟨a, _, vis H Z, rfl, vis_ex, .tup ha r, ok, hp _ H (Ex.refl H) (.str _)⟩
    · exact hp.elim
  | @lst a vs xs ha r =>
    simp only [fRepr] at hp
    split at hp
    · rename_i ok
      exact ⟨a, _, vis H Z, rfl, vis_ex, .lst ha r, ok, hp _ H (Ex.refl H) (.str _)⟩
    · exact hp.elim
  | @fls a od vs xs ha r =>
    simp only [fRepr] at hp
    split at hp
    · rename_i ok
      exact ⟨a, _, vis H Z, rfl, vis_ex, .fls ha r, ok, hp _ H (Ex.refl H) (.str _)⟩
    · exact hp.elim
  | _ => exact hp.elim
end
end Rf
namespace Rf
open PySem PySem.Spec PyProof.Rows L2
open PySem.W (kxs_mw KxsFacts kxs_ValueError)
abbrev supBody (p0 p1 p2 p3 p4 p5 q1 q2 q3 q4 : Pos) : List Stmt :=
  [.Expr (.Call (.Attribute (.Call (.Name "super" p0) [] [] p1) "__init__" p2) [.Name "value" p3] [] p4) p5,
   .Assign [.Attribute (.Name "self" q1) "value" q2] (.Name "value" q3) q4]
structure SupI (P : Program) (K : PySem.W.Frag) (qual : Str) (params : Arguments) (body : List Stmt) (scope : Scope) (fI D : Addr) (fd : FuncData) : Prop where
  fn : ∃ (cc cda : Addr) (kV doc pm ct oc : Value) (an od : Option Addr) (osl : Array (Option Value)), fd = PySem.W.fnX "__init__" qual params body scope [("__class__", cc)] .none kV doc pm an (.ref cda) ct ∧
    K.lookup fI = some ⟨oc, od, .func fd, osl⟩ ∧ PySem.W.codeIn K (.ref cda) qual = true ∧
    (∃ (cl : Value) (cld : Option Addr) (csl : Array (Option Value)), K.lookup cc = some ⟨cl, cld, .cell (some (.ref D)), csl⟩) ∧
    (∃ (ccl : Value) (cdd : Option Addr) (vs : Array Value) (ccs : Array (Option Value)) (file : Str) (tf : Tok), K.lookup cda = some ⟨ccl, cdd, .fields vs, ccs⟩ ∧ vs[2]? = some (.str file tf) ∧ ((P.main.file : Str) == file) = true)
  par : (params.posonlyargs ++ params.args).head?.map (·.arg) = some "self"
  clsD : ∃ cd, PySem.W.clsIn K D = some cd
  opq : PySem.W.nsIn K cStatics "thirdparty.any" = some none
  sup : PySem.W.nsIn K mainGlobals "super" = some none
  top : (P.main.scope.names.lookup ("super" : Str)).isSome = false
  kind : scope.kind = .function
  co : scope.isCoroutine = false
  gen : scope.isGenerator = false
  s1 : scope.names.lookup ("super" : Str) = some .globalImplicit
  s2 : scope.names.lookup ("__class__" : Str) = some .free
  s3 : scope.names.lookup ("self" : Str) = some .local
  s4 : scope.names.lookup ("value" : Str) = some .local
  s5 : ∀ x ∈ scope.names, x.2 ≠ .cell
  s6 : ∀ x ∈ scope.names, x.2 = .free → x.1 = "__class__"
structure ErC (K : PySem.W.Frag) (fI D C : Addr) : Prop where
  oex : OexC K C
  init : PySem.W.findIn K (.ref C) "__init__" = some (some (.ref fI))
  val : PySem.W.findIn K (.ref C) "value" = some none
  sup : PySem.W.ks_superIn K C D "__init__" = some (some (.builtin "ValueError.__init__"))
  ve : PySem.W.subIn K (.ref C) (.type "ValueError") = some true
  mro : PySem.W.mroIn K C (.ref D) = some true
def spInit (K : PySem.W.Frag) (fI D : Addr) : Sp := fun vs H Q _ => ∃ (a C : Addr) (v : V), vs = [.ref a, v] ∧ ErC K fI D C ∧ H a = some (exo a C none) ∧
  ∀ dx, H dx = none → dx ≠ a → Q .non (upd (upd H dx (exd dx [("value", v)])) a (exo a C (some dx)))
abbrev supEnv (qual : Str) (scope : Scope) (L fI cda cc : Addr) : PySem.Env := PySem.W.envX qual scope L fI (.ref cda) [("__class__", cc)]
def supCx (CX : CXT) (P : Program) (w : World) (K : PySem.W.Frag) (mg : Str → Option Value) (base : Heap) (qual : Str) (scope : Scope) (fI cda cc : Addr) (A : Around) (outer : List PySem.Env) (s : Shared) (H : Hp) (E : XK) : Cx where
  prog := P
  w := w
  K := K
  mg := mg
  base := base
  A := A.deeper (supEnv qual scope s.heap.objs.size fI cda cc)
  N := ["self", "value"]
  s_0 := s
  H_0 := H
  env := supEnv qual scope s.heap.objs.size fI cda cc
  outer := outer
  stack := supEnv qual scope s.heap.objs.size fI cda cc :: outer
  ex := []
  calm := true
  fn := fun _ => false
  pn := []
  xe := fun e s' => wpAny (model P w) (A.deeper (supEnv qual scope s.heap.objs.size fI cda cc)) (leaving (supEnv qual scope s.heap.objs.size fI cda cc) e) (fun _ s'' => CX outer H s E e s'') (fun e' s'' => CX outer H s E e' s'') s'
section
variable {CX : CXT} {P : Program} {w : World} {K : PySem.W.Frag} {mg : Str → Option Value} {base : Heap} {qual : Str} {params : Arguments} {scope : Scope} {fI D : Addr} {fd : FuncData} {p0 p1 p2 p3 p4 p5 q1 q2 q3 q4 : Pos}
theorem clsIn_at {K : PySem.W.Frag} {h : Heap} {D : Addr} {cd : ClassData} (X : K.In h) (hD : PySem.W.clsIn K D = some cd) : ∃ oD, h.get? D = some oD ∧ oD.data = .cls cd := by
  unfold PySem.W.clsIn at hD
  split at hD
  · rename_i c d cd' sl ho
    cases hD
    exact ⟨_, X _ _ ho, rfl⟩
  · cases hD
def SupEv (p0 p1 p2 p3 p4 : Pos) : Prop := ∀ env : PySem.Env, eval (.Call (.Attribute (.Call (.Name "super" p0) [] [] p1) "__init__" p2) [.Name "value" p3] [] p4) env = (do
  let ov ← attributeBase (.Call (.Name "super" p0) [] [] p1) "__init__" env (eval (.Call (.Name "super" p0) [] [] p1) env)
  standAt p2.atName
  let (f, first) ← holding [ov] (getMethod ov "__init__" (do return (← importBound (.Call (.Name "super" p0) [] [] p1) env).getD true))
  callWith p4 f first (backTo p4 (starEach [.Name "value" p3] env)) [])
theorem sup_call {A : Around} {E : Value → Shared → Prop} {X : Cx} {a C : Addr} {v : V} {u : Value} {cc cda : Addr} {s : Shared} {H : Hp} {σ : L2.St} {body : List Stmt} {Q : Flow → Shared → Prop} (F : SupI X.prog X.K qual params body scope fI D fd) (T : ErC X.K fI D C)
    (henv : X.env = supEnv qual scope X.env.locals fI cda cc) (hfd : fd.closure = [(("__class__" : Str), cc)] ∧ fd.code = .ref cda) (hev : SupEv p0 p1 p2 p3 p4) (I : Inv X [] σ H s) (ea : H a = some (exo a C none))
    (hns : s.heap.Ns X.env.locals (fun x => ([("self", Value.ref a), ("value", u)] : List (Str × Value)).reverse.lookup x))
    (hq : ∀ s', Inv X [] σ H s' → Q .next s') :
    _root_.PySem.wpAt (model X.prog X.w) A (.func body X.env) (exec (.Expr (.Call (.Attribute (.Call (.Name "super" p0) [] [] p1) "__init__" p2) [.Name "value" p3] [] p4) p5) X.env) Q E s := by
  obtain ⟨cc', cda', kV, doc, pm, ct, oc, an, od, osl, e0, lk, cod, ⟨cl, cld, csl, hcell⟩, ⟨ccl, cdd, vs, ccs, file, tf, hcode, hvs, hfile⟩⟩ := F.fn
  have ecc : cc' = cc := by
    have := hfd.1
    rw [e0] at this
    exact (Prod.mk.inj (List.cons.inj this).1).2
  have eda : cda' = cda := by
    have := hfd.2
    rw [e0] at this
    cases this
    rfl
  subst ecc eda e0
  obtain ⟨ar, hp, harg⟩ : ∃ ar, (params.posonlyargs ++ params.args).head? = some ar ∧ ar.arg = "self" := by
    have := F.par
    cases hh : (params.posonlyargs ++ params.args).head? with
    | none => rw [hh] at this; cases this
    | some ar => rw [hh] at this; exact ⟨ar, rfl, by simpa using this⟩
  obtain ⟨cdD, hD⟩ := F.clsD
  have KX : X.K.In s.heap := I.kIn
  have e1 := KX _ _ lk
  obtain ⟨oD, hD1, hD2⟩ := clsIn_at KX hD
  have hks : X.env.kindOf "super" = some .globalImplicit := by rw [henv]; exact F.s1
  have hkc : X.env.kindOf "__class__" = some .free := by rw [henv]; exact F.s2
  have hka : X.env.kindOf "self" = some .local := by rw [henv]; exact F.s3
  have hkv : X.env.kindOf "value" = some .local := by rw [henv]; exact F.s4
  have hk : X.env.scope.kind = .function := by rw [henv]; exact F.kind
  have hint : interactive X.env = false := by unfold interactive; rw [hk]; rfl
  have hsw : swapsWith (.Call (.Attribute (.Call (.Name "super" p0) [] [] p1) "__init__" p2) [.Name "value" p3] [] p4) none p5.line X.env = pure false := by rfl
  refine ks_wpAt_Expr_any ?_ hint hsw
  refine ks_wpAt_MethodCall ?_ (hev X.env)
  refine ks_wpAt_super_base (f := fI) (cc := cda') hks hkc (by decide) (by rw [henv]) e1 rfl hp (by rw [henv]) (KX _ _ hcode) rfl hvs hfile F.top ?_
  have hmsup : X.mg "super" = none := PySem.W.mg_none_of I.ok.mod.kin I.ok.mod.glob F.sup
  obtain ⟨mb, hb1, hb2⟩ := I.mod.blt
  refine PySem.W.ks_loadName_global hk hks (Calls.loadGlobal_builtin (by rw [I.ok.glob]; exact I.mod.glob.keeps I.bk) hmsup (by rw [I.ok.blt]; exact hb1.keeps I.bk) ((hb2 "super" (by decide)).trans (show bootBuiltins "super" = some (.type "super") by decide +kernel)) ⟨rfl, ?_⟩)
  refine wpAny_loadName_free hk hkc (c := cc') (by rw [henv]; rfl) ⟨_, KX _ _ hcell, rfl⟩ ?_
  rw [harg]
  refine wpAny_loadName_local hk hka hns (by rfl) ?_
  refine ks_wpAny_isType_cls hD1 hD2 ⟨rfl, ?_⟩
  obtain ⟨t1, ho⟩ := exo_at I.hok ea
  obtain ⟨hh, g, dr, tk, os⟩ := s
  refine ks_wpAny_call_super hD1 hD2 ho rfl (fun c e => by cases e) (PySem.W.looks_mroIn KX T.mro) (fun h1 hso k1 => ?_)
  have I1 : Inv X [] σ H ⟨h1, g, dr, tk, os⟩ := I.kept (t' := tk) k1
  have KX1 : X.K.In h1 := I1.kIn
  obtain ⟨cdC, hC⟩ : ∃ cd, PySem.W.clsIn X.K C = some cd := by
    have := T.sup
    unfold PySem.W.ks_superIn at this
    cases hc : PySem.W.clsIn X.K C with
    | none => rw [hc] at this; cases this
    | some cd => exact ⟨cd, rfl⟩
  have hsupI : PySem.W.alongIn X.K "__init__" ((cdC.mro.dropWhile (· != .ref D)).drop 1) = some (some (.builtin "ValueError.__init__")) := by
    have := T.sup
    unfold PySem.W.ks_superIn at this
    rw [hC] at this
    exact this
  have ho1 := k1 _ _ ho
  have hI1 : PySem.W.Looks (model X.prog X.w) h1 (isInstance (.ref a) (.type "ValueError")) true := by
    have IA : PySem.W.InstAt h1 a { cls := .ref C, dict := none, data := .fields #[.ref t1, .none, .none, .none, .bool false, .none] } C none := ⟨ho1, rfl, rfl, trivial⟩
    exact IA.type.andThen (PySem.W.looks_subIn KX1 T.ve)
  have hne : a ≠ C := fun e => by
    obtain ⟨o2, z1, z2⟩ := clsIn_at KX1 hC
    rw [← e, ho1] at z1
    cases z1
    cases z2
  refine PySem.W.kxs_getMethod kxs_ValueError hso (PySem.W.looks_opaque KX1 F.opq) (l₀ := cdC.mro) (fun A Q E s k q => wpAny_bind ((PySem.W.looks_clsIn KX1 hC) A _ E s k (wpAny_pure q))) rfl KX1 hsupI hI1 hne (by decide) ?_
  have kk2 : ∀ b o, h1.get? b = some o → (h1.push (kxs_mw "ValueError.__init__" a)).get? b = some o := fun b o e => Heap.get?_push_of_some _ e
  have I2 : Inv X [] σ H ⟨h1.push (kxs_mw "ValueError.__init__" a), g, dr, tk + 1, os⟩ := I1.kept (t' := tk + 1) kk2
  have hu2 : (h1.push (kxs_mw "ValueError.__init__" a)).get? h1.objs.size = some (kxs_mw "ValueError.__init__" a) := Heap.get?_push_size _ rfl
  have ns2 : (h1.push (kxs_mw "ValueError.__init__" a)).Ns X.env.locals (fun x => ([("self", Value.ref a), ("value", u)] : List (Str × Value)).reverse.lookup x) := by
    obtain ⟨oL, es, ep, hL, r⟩ := hns
    exact ⟨oL, es, ep, kk2 _ _ (k1 _ _ hL), r⟩
  refine PySem.W.kxs_callWith (i := "ValueError.__init__") (x := a) (by rfl) (PySem.Calls.evalArgs_plain ?_)
  show wpAny _ _ (spliced ((false, eval (.Name "value" p3) X.env) :: backTo p4 (starEach [] X.env))) _ _ _
  refine Calls.spliced_cons (wpAny_Name (wpAny_loadName_local hk hkv ns2 (by rfl) ?_) (by decide))
  refine Calls.spliced_nil ⟨hu2, ?_⟩
  obtain ⟨nm, q, N, bs, bm, sn, sub, ab, col, dd, k0, kk1, k2, k3, k5, hCo, hbm⟩ := T.oex.cls
  have hC2 := I2.kIn _ _ hCo
  have he2 := kk2 _ _ ho1
  refine wpAny_call (codeAny_of_tree ?_)
  show wpAny _ A.in1 (callAny (.ref h1.objs.size) ⟨[] ++ [u], []⟩) _ _ _
  simp only [callAny]
  refine wpAny_bind (wpAny_load hu2 ?_)
  simp only [kxs_mw, show (Value.type "method-wrapper" == Value.type "method" || Value.type "method-wrapper" == Value.type "builtin_function_or_method" || Value.type "method-wrapper" == Value.type "method-wrapper") = true by decide, if_true]
  refine PySem.W.KFB.if_so (by decide) ?_
  refine wpAny_bind (PySem.W.check_bound_init PySem.F.excBase_ValueError.toExcCallFacts hC2 he2 rfl ?_)
  refine wpAny_bind (wpAny_pure (wpAny_pure ?_))
  refine ⟨plainId_quiet PySem.F.excBase_ValueError.init.plain _, codeAny_builtin PySem.F.excBase_ValueError.initEntry ?_⟩
  refine PySem.W.exc_init_tree (cls := .ref C) (t0 := t1) (dv := none) (c2 := .none) (c3 := .none) (b4 := .bool false) he2 (by show 1 ≤ sizeLine; rw [sizeLine_eq]; omega) (fun h3 k3' hx3 ht3 => ?_)
  have J := I2.write (t' := tk + 1) (x := a) (e := a) (o := exo a C none) (by rw [ea]; exact True.intro) (.inl rfl) k3' ⟨_, hx3⟩ (exo_ok hx3)
  have eu : upd H a (exo a C none) = H := by
    funext b
    by_cases hb : b = a
    · rw [hb, upd_same, ea]
    · rw [upd_ne hb]
  rw [eu] at J
  exact hq _ J
theorem start2 {i : Nat} {y : Str} {v v1 v2 : V} (g1 : (["self", "value"] : List Str)[i]? = some y) (g2 : (L2.start ["self", "value"] [v1, v2])[i]? = some (some v)) : (y = "self" ∧ v = v1) ∨ (y = "value" ∧ v = v2) := by
  match i, g1, g2 with
  | 0, g1, g2 => exact .inl ⟨(Option.some.inj g1).symm, (Option.some.inj (Option.some.inj g2)).symm⟩
  | 1, g1, g2 => exact .inr ⟨(Option.some.inj g1).symm, (Option.some.inj (Option.some.inj g2)).symm⟩
  | i + 2, g1, _ => cases g1
theorem inv_sup {cc cda : Addr} {A : Around} {outer : List PySem.Env} {s : Shared} {H : Hp} {E : XK} {h1 : Heap} {tk : Nat} (e0 : Env0 P w K mg base A outer s H) (hd : A.handled = none) (kind : scope.kind = .function) (hcell : ∃ (cl : Value) (cld : Option Addr) (csl : Array (Option Value)), K.lookup cc = some ⟨cl, cld, .cell (some (.ref D)), csl⟩)
    (s5 : ∀ x ∈ scope.names, x.2 ≠ .cell) (s6 : ∀ x ∈ scope.names, x.2 = .free → x.1 = "__class__") (s3 : scope.names.lookup ("self" : Str) = some .local) (s4 : scope.names.lookup ("value" : Str) = some .local) {v1 v2 : V} {u1 u2 : Value} (r1 : RelV v1 u1) (r2 : RelV v2 u2)
    (hns : h1.Ns s.heap.objs.size (fun x => ([("self", u1), ("value", u2)] : List (Str × Value)).reverse.lookup x)) (kp : ∀ b o, s.heap.get? b = some o → h1.get? b = some o) :
    Inv (supCx CX P w K mg base qual scope fI cda cc A outer s H E) [] (L2.start ["self", "value"] [v1, v2]) H { s with heap := h1, toks := tk } := by
  have noA : ∀ b : Addr, b ∉ (supCx CX P w K mg base qual scope fI cda cc A outer s H E).ex := fun b z => absurd (show b ∈ ([] : List Addr) from z) (by simp)
  have KX : K.In s.heap := e0.mod.kin.keeps fun b o e => (e0.bs b o e).1
  obtain ⟨cl, cld, csl, hc⟩ := hcell
  have ccell : ∀ {x : Str} {c : Addr}, ([("__class__", cc)] : List (Str × Addr)).lookup x = some c → x = "__class__" ∧ c = cc := fun {x c} e => by
    by_cases h : x = ("__class__" : Str)
    · subst h
      simp at e
      exact ⟨rfl, e.symm⟩
    · have : (x == ("__class__" : Str)) = false := by simpa using h
      simp [List.lookup, this] at e
  have hcn : H cc = none := (e0.bs cc _ (e0.mod.kin _ _ hc)).2
  refine ⟨⟨e0.mod, kind, rfl, rfl, Nat.le_refl _, fun y z c h1 h2 => ?_, fun y hy => ?_, fun y c z _ => ?_, fun _ => hd, Around.frames_deeper e0.frames, .inr ⟨rfl, rfl⟩, fun b z => absurd z (noA b), e0.bs, e0.bsz, fun b _ _ => noA b, fun b z => absurd z (noA b), e0.funs, e0.frf⟩,
    rfl, e0.bare, Un.kept kp, ⟨_, hns, fun i y v g1 g2 g3 => ?_⟩, fun y c h => ?_, e0.hok.fresh (Nat.le_refl _), fun y c h => ?_, fun p hp => absurd (show p ∈ ([] : List (Addr × Obj)) from hp) (by simp), e0.hok.kept kp, ?_⟩
  · exact (ccell h1).1.trans (ccell h2).1.symm
  · have hy : scope.names.lookup y = some .cell ∨ scope.names.lookup y = some .free := hy
    rcases hy with hy | hy
    · exact absurd rfl (s5 _ (PySem.mem_of_lookup hy))
    · have := s6 _ (PySem.mem_of_lookup hy) rfl
      exact ⟨cc, by rw [show y = "__class__" from this]; rfl⟩
  · cases (show false = true from z)
  · rcases start2 g1 g2 with ⟨ey, ev⟩ | ⟨ey, ev⟩
    · rw [ey, ev]
      exact ⟨_, r1, .inl ⟨s3, by rfl⟩⟩
    · rw [ey, ev]
      exact ⟨_, r2, .inl ⟨s4, by rfl⟩⟩
  · have h : ([("__class__", cc)] : List (Str × Addr)).lookup y = some c := h
    rw [(ccell h).2]
    exact ⟨_, _, kp _ _ (KX _ _ hc), rfl⟩
  · have h : ([("__class__", cc)] : List (Str × Addr)).lookup y = some c := h
    rw [(ccell h).2]
    exact hcn
  · rfl
theorem sup_fn {k : Nat} (F : SupI P K qual params (supBody p0 p1 p2 p3 p4 p5 q1 q2 q3 q4) scope fI D fd) (hev : SupEv p0 p1 p2 p3 p4) : FnOk P w K mg base CX (k + 1) fI fd ["self", "value"] (spInit K fI D) := by
  obtain ⟨cc, cda, kV, doc, pm, ct, oc, an, od, osl, e0, lk, cod, hcell, hcode⟩ := F.fn
  refine ⟨fun vs H Q E h => ?_, fun A outer s H args us vs Q E hr e1 hb hv hs => ?_⟩
  · obtain ⟨a, C, v, rfl, _⟩ := h
    rfl
  obtain ⟨a, C, v, rfl, T, ea, hq⟩ := hs
  have KX : K.In s.heap := e1.mod.kin.keeps fun b o e => (e1.bs b o e).1
  have lim : s.heap.NoLimit := e1.mod.nolimit.keeps fun b o e => (e1.bs b o e).1
  match us, hv with
  | [ua, u], .cons ra (.cons ru .nil) =>
    obtain rfl : ua = Value.ref a := ra
    subst e0
    refine ks_codeAny_call_defAt (fd := PySem.W.fnX "__init__" qual params (supBody p0 p1 p2 p3 p4 p5 q1 q2 q3 q4) scope [("__class__", cc)] .none kV doc pm an (.ref cda) ct) (body := supBody p0 p1 p2 p3 p4 p5 q1 q2 q3 q4) (binds := (["self", "value"] : List Str).zip [Value.ref a, u]) hr.depth (KX _ _ lk) rfl lim (PySem.W.codeRec_of KX cod) rfl hb F.s5 (fun x hx => ?_) (fun h1 hns hk => ?_) F.co F.gen F.kind
    · simp at hx
      rcases hx with rfl | rfl
      · exact F.s3
      · exact F.s4
    have J := inv_sup (CX := CX) (qual := qual) (scope := scope) (fI := fI) (cda := cda) (cc := cc) (E := E) (tk := s.toks + ((["self", "value"] : List Str).zip [Value.ref a, u]).length) (v1 := V.ref a) (v2 := v) (u1 := Value.ref a) (u2 := u) e1 hr.hd F.kind hcell F.s5 F.s6 F.s3 F.s4 rfl ru hns hk
    show _root_.PySem.wpAt (model P w) (supCx CX P w K mg base qual scope fI cda cc A outer s H E).A (.func (supBody p0 p1 p2 p3 p4 p5 q1 q2 q3 q4) (supCx CX P w K mg base qual scope fI cda cc A outer s H E).env) (execs (supBody p0 p1 p2 p3 p4 p5 q1 q2 q3 q4) (supCx CX P w K mg base qual scope fI cda cc A outer s H E).env) _ _ _
    refine ks_wpAt_execs_cons (sup_call (X := supCx CX P w K mg base qual scope fI cda cc A outer s H E) (v := v) (u := u) F T rfl ⟨rfl, rfl⟩ hev J ea hns (fun s' J' => ?_))
    have hN0 : (supCx CX P w K mg base qual scope fI cda cc A outer s H E).N[0]? = some ("self" : Str) := rfl
    have hN1 : (supCx CX P w K mg base qual scope fI cda cc A outer s H E).N[1]? = some ("value" : Str) := rfl
    have st := pss_one (ps_ost (pos := q4) (p' := q2) (f := "value") (pe_var (pos := q1) (i := 0) hN0 (.inl F.s3) (by decide) (by decide)) (pe_var (pos := q3) (i := 1) hN1 (.inl F.s4) (by decide) (by decide)))
    refine wpAt_of_wpAny (wpAny_mono (st.run [] s' _ H ⟨fun _ H' => Q .non H', Q, fun _ _ => False, fun _ _ => False⟩ J' ?_) (fun fl s2 r => ?_) fun _ _ r => r)
    · refine ⟨v, rfl, .ref a, rfl, a, C, rfl, T.oex, T.val, .inl ⟨ea, fun dx n1 n2 => hq dx n1 n2⟩⟩
    · match fl, r with
      | .ret u', ⟨v', σ', H', J2, rv, q⟩ => exact ⟨v', H', J2.os, J2.bare, J2.base, J2.hok, rv, q⟩
      | .next, ⟨σ', H', J2, q⟩ => exact ⟨V.non, H', J2.os, J2.bare, J2.base, J2.hok, rfl, q⟩
      | .brk, ⟨_, _, _, q⟩ => exact q.elim
      | .cont, ⟨_, _, _, q⟩ => exact q.elim
end
end Rf
namespace Rf
open PySem PySem.Spec PyProof.Rows L2
structure Rse (P : Program) (w : World) (K : PySem.W.Frag) (mg : Str → Option Value) (base : Heap) (k : Nat) (c : Str) : Prop where
  ex : ∃ (fI D : Addr) (fd : FuncData), mg c = some (.ref (He.ga K c)) ∧ ErC K fI D (He.ga K c) ∧ PySem.W.typeIn K (.ref fI) = some (.type "function") ∧
    FnOk P w K mg base (L2.CX P w) k fI fd ["self", "value"] (spInit K fI D) ∧ Binds K fd ["self", "value"] []
abbrev RseX (X : Cx) := Rse X.prog X.w X.K X.mg X.base
theorem Rse.mono {P : Program} {w : World} {K : PySem.W.Frag} {mg : Str → Option Value} {base : Heap} {j k : Nat} {c : Str} (h : Rse P w K mg base j c) (hk : j ≤ k) : Rse P w K mg base k c := by
  obtain ⟨fI, D, fd, h1, h2, h3, h4, h5⟩ := h.ex
  exact ⟨fI, D, fd, h1, h2, h3, h4.mono hk, h5⟩
theorem exo_gone {H1 : Hp} {a dx : Addr} {C : Addr} {v : V} (ha : H1 a = none) (hd : H1 dx = none) (ne : dx ≠ a) :
    upd (del (upd (upd (upd H1 a (exo a C none)) dx (exd dx [("value", v)])) a (exo a C (some dx))) a) dx (.xd [("value", v)]) = upd H1 dx (.xd [("value", v)]) := by
  funext b
  by_cases hb : b = dx
  · rw [hb, upd_same, upd_same]
  · rw [upd_ne hb, upd_ne hb]
    by_cases hba : b = a
    · rw [hba, del_same, ha]
    · rw [del_ne hba, upd_ne hba, upd_ne hb, upd_ne hba]
section
variable {X : Cx} {G : Pl} {M : List Nat} {W : WX} {k : Nat} {c : Str} {e : Expr} {F : Env → R D} {p pos rpos : Pos}
end
end Rf
namespace Rf
open PySem PySem.Spec PyProof.Rows L2
section
variable {X : Cx} {pins : List (Addr × Obj)} {σ : L2.St} {H : Hp} {s : Shared}
theorem inv_track {a : Addr} {o : HO} (I : Inv X pins σ H s) (hn : H a = none) (h0 : X.s_0.heap.get? a = none) (nL : a ≠ X.env.locals) (nC : ∀ x c, X.env.cells.lookup x = some c → c ≠ a) (nP : ∀ p ∈ X.pn ++ pins, p.1 ≠ a) (new : ObjOk X.prog X.w (upd H a o) s.heap a o) : Inv X pins σ (upd H a o) s := by
  have n0 : ∀ {b : Addr} {ob : Obj}, X.s_0.heap.get? b = some ob → b ≠ a := fun {b ob} e z => by rw [z, h0] at e; cases e
  refine ⟨I.ok, I.os, I.bare, ⟨I.base.keep, I.base.slot, fun b o e n hx => by rw [upd_ne (n0 e)]; exact I.base.free b o e n hx, I.base.there, fun b xs e => ?_, fun b o u e => ?_, fun b ps e => ?_⟩, I.loc, I.cell, by rw [upd_ne (Ne.symm nL)]; exact I.free, fun x c e => by rw [upd_ne (nC x c e)]; exact I.freeC x c e, fun p hp => ?_, fun b u e => ?_, I.len⟩
  · have q := I.base.tups b xs e
    rw [upd_ne (ne_of_none q hn)]; exact q
  · have q := I.base.frzs b o u e
    rw [upd_ne (ne_of_none q hn)]; exact q
  · obtain ⟨m, q⟩ := I.base.tbls b ps e
    exact ⟨m, by rw [upd_ne (ne_of_none q hn)]; exact q⟩
  · obtain ⟨e, n, ne, nf, d⟩ := I.pin p hp
    exact ⟨e, by rw [upd_ne (nP p hp)]; exact n, ne, nf, d⟩
  · by_cases hb : b = a
    · subst hb
      rw [upd_same] at e
      cases e
      exact new
    · rw [upd_ne hb] at e
      exact (I.hok b u e).stay (fun _ _ _ q => q) (fun c q => by rw [upd_ne (ne_of_none q hn)]; exact q) fun c xs q => by rw [upd_ne (ne_of_none q hn)]; exact q
end
section
variable {X : Cx} {x n : Str} {c : Value} {i : Nat} {body suite : List Stmt} {b₀ : Stmt} {np pos pos' : Pos} {tb : WX → TS} {ts : Addr → Value → Option Addr → TS}
end
section
variable {X : Cx} {G : Pl} {W : WX} {st : List Stmt} {B B2 : Env → Fl}
end
end Rf
namespace Rf
open PySem PySem.Spec PyProof.Rows L2
open LamX (TabS TabB CodeO LamS lamCx lamEnv)
section
variable {X : Cx} {pins : List (Addr × Obj)} {σ : L2.St} {H : Hp} {s : Shared}
end
end Rf
namespace Rf
open PySem PySem.Spec PyProof.Rows L2
open LamX (TabB CodeO LamS)
section
variable {prog : Program} {w : World} {A : Around} {s : Shared}
end
section
variable {X : Cx} {pins : List (Addr × Obj)} {σ : L2.St} {H HZ : Hp} {s s1 : Shared}
end
end Rf
namespace Rf
open PySem PySem.Spec PyProof.Rows L2
open LamX (TabB CodeO LamS)
section
variable {P : Program} {w : World} {K : PySem.W.Frag} {mg : Str → Option Value} {base : Heap}
end
section
variable {X : Cx} {c Pt : Addr} {params : Arguments} {body : Expr} {scope : Scope} {pos : Pos}
end
section
variable {X : Cx} {pins : List (Addr × Obj)} {σ : L2.St} {H : Hp} {s : Shared} {N : List Str} {qual lk cg bk er pe : Str} {scope : Scope} {g f c' CE : Addr} {cdg : Value} {Eg : XK} {l : LamD} {k : Nat} {tb : XK → TE} {k1 k2 k3 : Nat} {j1 j2 : Nat} {p1 p2 p3 p4 p5 p6 p7 p8 p9 p10 p11 p12 p13 p14 p15 p16 p17 p18 p19 p20 p21 : Pos}
end
end Rf
namespace Rf
open PySem PySem.Spec PyProof.Rows L2
open LamX (TabB CodeO LamS)
section
variable {X : Cx} {M : List Nat} {W : WX} {k : Nat} {x : Str} {errs : List Str} {CE c Pt : Addr} {params : Arguments} {body : Expr} {scope : Scope} {p pos lpos : Pos} {F : Env → R D}
end
end Rf
namespace Rf
open PySem PySem.Spec PyProof.Rows L2
def scrO (vs : List Value) : Obj := { cls := .type "list", data := .seq vs.toArray }
def scrH (K : PySem.W.Frag) (a : Addr) (vs : List Value) (ns : List Int) : Hp := fun b => if b = a ∧ K.lookup a = none then some (.frz (scrO vs) (.lst (ns.map V.int))) else none
theorem scrH_some {K : PySem.W.Frag} {a b : Addr} {vs : List Value} {ns : List Int} {u : HO} (h : scrH K a vs ns b = some u) : (b = a ∧ K.lookup a = none) ∧ u = .frz (scrO vs) (.lst (ns.map V.int)) := by
  unfold scrH at h
  split at h
  · rename_i q
    exact ⟨q, (Option.some.inj h).symm⟩
  · cases h
theorem calG_of {P : Program} {w : World} {K : PySem.W.Frag} {mg : Str → Option Value} {base : Heap} {k n : Nat} {x : Str} {f : Addr} {fd : FuncData} {ps : List Str} {io : List Nat} {ro : Bool} {g : List D → C} (hm : mg x = some (.ref f)) (hk : PySem.W.keepIn K (.ref f) = true) (hl : ps.length = n) (F : FnG P w K mg base k f fd ps (spC K n io ro g)) (b : Binds K fd ps []) : CalG P w K mg base k x n io ro [] g :=
  ⟨f, fd, ps, [], [], hm, hk, by simpa using hl, by simpa using F, b, .nil, fun _ => .nil⟩
end Rf
namespace Rh
open PySem PySem.Spec PyProof.Rows L2
end Rh
namespace Rf
open PySem PySem.Spec PyProof.Rows L2
open LamX (TabB CodeO LamS)
def TbK (K : PySem.W.Frag) (mg : Str → Option Value) (base : Heap) : Prop := ∀ t ∈ tabsOf K, TabB base mg t.1 t.2
section
variable {P : Program} {w : World} {K : PySem.W.Frag} {mg : Str → Option Value} {base : Heap}
end
section
variable {P : Program} {w : World} {K : PySem.W.Frag} {mg : Str → Option Value} {base : Heap} {x qual : Str} {params : Arguments} {body : List Stmt} {scope : Scope} {dvs : List V} {kws : List (Str × V)} {f : Addr} {fd : FuncData}
end
end Rf
namespace Rf
open PySem PySem.Spec PyProof.Rows L2
open LamX (TabB CodeO LamS)
def tblH (T : List Addr) (H : Hp) : Hp := fun b => if b ∈ T then some (.tbl #[]) else H b
theorem law_goT {P : Program} {w : World} {K : PySem.W.Frag} {mg mb : Str → Option Value} {k : Nat} {fa a : Addr} {fd : FuncData} {x : Str} {sp : Sp} {s0 : Shared} {vs : List Value} {ns : List Int} {cs : List (Addr × Addr)}
    (kin : K.In s0.heap) (gns : s0.heap.Ns mainGlobals mg) (bns : s0.heap.Ns builtinsNs mb) (bb : ∀ y : Str, y ≠ "__name__" → mb y = bootBuiltins y) (nl : s0.heap.NoLimit) (gens : s0.gens = #[])
    (hT : ∀ t ∈ cs, s0.heap.get? t.2 = some { cls := .none, data := .fields #[] }) (nT : ∀ t ∈ cs, K.lookup t.2 = none) (hC : ∀ t ∈ cs, PySem.W.codeHdIn K t.1 t.2 = true)
    (hbm : ∃ (bm : Addr) (ob : Obj), mg "__builtins__" = some (.ref bm) ∧ bm ≠ builtinsNs ∧ s0.heap.get? bm = some ob ∧ ob.cls = .type "module" ∧ ob.dict = some builtinsNs ∧ ob.data = .plain)
    (ha : s0.heap.get? a = some (scrO vs)) (hi : IntsAre vs ns) (hl : ns.length ≤ sizeLine) (room : Room k callerA)
    (F : ∀ B : Heap, K.In B → B.Ns mainGlobals mg → (∀ t ∈ cs, TabB B mg t.1 t.2) → FnG P w K mg B k fa fd [x] sp) (bind : ∀ (s : Shared) (u : Value), BindsTo s fd ⟨[u], []⟩ [(x, u)])
    (prom : ∀ H : Hp, (∀ t ∈ cs, H t.2 = some (.tbl #[])) → SqL K H a (ns.map V.int) → sp [.ref a] H (fun v _ => v = .bl true) fun _ _ _ => False)
    (no : ∀ H e s', L2.CX P w [] H s0 (fun _ _ _ => False) e s' → False) :
    codeAny (model P w) callerA (.call (.ref fa) ⟨[.ref a], []⟩) (fun r s' => r = .ok (.ret (.bool true)) ∧ OldK s0.heap s'.heap ∧ s'.os = s0.os ∧ AllBare s'.gens) s0 := by
  have vals := vals_ints hi
  have len := hi.length
  have isT : ∀ b, b ∈ cs.map (·.2) → s0.heap.get? b = some { cls := .none, data := .fields #[] } := fun b hb => by
    obtain ⟨t, ht, rfl⟩ := List.mem_map.mp hb
    exact hT t ht
  have inT : ∀ t ∈ cs, t.2 ∈ cs.map (·.2) := fun t ht => List.mem_map.mpr ⟨t, ht, rfl⟩
  have aT : a ∉ cs.map (·.2) := fun z => by
    have q := (isT a z).symm.trans ha
    have z' : Data.fields #[] = Data.seq vs.toArray _ := congrArg Obj.data (Option.some.inj q)
    cases z'
  obtain ⟨H0, eH⟩ : ∃ H0, H0 = tblH (cs.map (·.2)) (scrH K a vs ns) := ⟨_, rfl⟩
  have cs_of : ∀ {b : Addr} {u : HO}, H0 b = some u → (b ∈ cs.map (·.2) ∧ u = .tbl #[]) ∨ ((b = a ∧ K.lookup a = none) ∧ u = .frz (scrO vs) (.lst (ns.map V.int))) := fun {b u} h => by
    rw [eH] at h
    unfold tblH at h
    split at h
    · rename_i q
      exact .inl ⟨q, (Option.some.inj h).symm⟩
    · exact .inr (scrH_some h)
  have hH : ∀ t ∈ cs, H0 t.2 = some (.tbl #[]) := fun t ht => by
    rw [eH]
    exact if_pos (inT t ht)
  have seq : SqL K H0 a (ns.map V.int) := by
    cases q : K.lookup a with
    | none =>
      refine .inl (.inr ⟨scrO vs, ?_⟩)
      rw [eH]
      exact (if_neg aT).trans (if_pos ⟨rfl, q⟩)
    | some o =>
      have e := (kin a o q).symm.trans ha
      cases e
      exact .inr ⟨_, vs.toArray, _, q, rfl, rfl, rfl, by rw [List.size_toArray, len]; exact hl, by simpa using vals⟩
  have hok : HOk P w H0 s0.heap := fun b u z => by
    rcases cs_of z with ⟨hb, rfl⟩ | ⟨⟨rfl, _⟩, rfl⟩
    · exact isT b hb
    · exact ⟨ha, by rw [List.length_map]; exact hl, vs, _, vals, ha⟩
  have shown : ∀ {b : Addr} {o : Obj}, s0.heap.get? b = some o → H0 b = none → (hidT s0.heap H0).get? b = some o := fun e z => hidT_get e z
  have plain : ∀ {b : Addr} {o : Obj}, s0.heap.get? b = some o → (∀ ws n, o.data ≠ .seq ws n) → o.data ≠ .fields #[] → H0 b = none := fun {b o} e d1 d2 => by
    cases q : H0 b with
    | none => rfl
    | some u =>
      rcases cs_of q with ⟨hb, _⟩ | ⟨⟨rfl, _⟩, _⟩
      · have z := Option.some.inj ((isT b hb).symm.trans e)
        rw [← z] at d2
        exact absurd rfl d2
      · have z : scrO vs = o := Option.some.inj (ha.symm.trans e)
        rw [← z] at d1
        exact absurd rfl (d1 _ _)
  have space : ∀ {b : Addr} {m : Str → Option Value}, s0.heap.Ns b m → (hidT s0.heap H0).Ns b m := fun z => by
    obtain ⟨o, es, ep, e, d, r⟩ := z
    exact ⟨o, es, ep, shown e (plain e (fun _ _ z => by rw [d] at z; cases z) fun z => by rw [d] at z; cases z), d, r⟩
  have kinB : K.In (hidT s0.heap H0) := fun b o e => shown (kin b o e) (by
    cases q : H0 b with
    | none => rfl
    | some u =>
      rcases cs_of q with ⟨hb, _⟩ | ⟨⟨rfl, z⟩, _⟩
      · obtain ⟨t, ht, rfl⟩ := List.mem_map.mp hb
        rw [nT t ht] at e
        cases e
      · rw [z] at e
        cases e)
  obtain ⟨mc, m1, m2⟩ := nl
  have md : Mod K mg (hidT s0.heap H0) := ⟨kinB, space gns, ⟨mb, space bns, bb⟩, mc, space m1, m2⟩
  have env : Env0 P w K mg (hidT s0.heap H0) callerA [] s0 H0 := ⟨rfl, md, fun _ _ e => of_hidT e, Nat.le_of_eq (hidT_size _ _), trivial, (fun b hb => by cases hb), hok, .of_eq gens⟩
  have TB : ∀ t ∈ cs, TabB (hidT s0.heap H0) mg t.1 t.2 := fun t ht => by
    refine ⟨PySem.W.codeHd_of_K kinB (hC t ht), ?_, fun z => ?_⟩
    · obtain ⟨bm, ob, b1, b2, b3, b4, b5, b6⟩ := hbm
      refine ⟨bm, ob, b1, b2, fun z => ?_, fun z => ?_, shown b3 (plain b3 (fun _ _ z => by rw [b6] at z; cases z) fun z => by rw [b6] at z; cases z), b4, b5, b6⟩
      · obtain ⟨o, es, ep, e, d, _⟩ := gns
        rw [z, e] at b3
        cases b3
        rw [d] at b6
        cases b6
      · rw [z, hT t ht] at b3
        cases b3
        cases b6
    · obtain ⟨o, es, ep, e, d, _⟩ := gns
      rw [z, hT t ht] at e
      cases e
      cases d
  refine codeAny_mono ((F _ kinB (space gns) TB).go callerA [] s0 _ ⟨[.ref a], []⟩ [.ref a] [.ref a] _ _ rfl room env (bind s0 (.ref a)) (.cons rfl .nil) (prom _ hH seq)) fun r s' h => ?_
  match r, h with
  | .error e, h => exact (no _ e s' h).elim
  | .ok .next, h => exact h.elim
  | .ok .brk, h => exact h.elim
  | .ok .cont, h => exact h.elim
  | .ok (.ret u), ⟨v, H', os, bare, un, hok', rv, q⟩ =>
    have qv : v = .bl true := q
    subst qv
    obtain rfl : u = Value.bool true := rv
    have kept : ∀ b o, b ∉ cs.map (·.2) → s0.heap.get? b = some o → s'.heap.get? b = some o := fun b o nb e => by
      cases z : H0 b with
      | none => exact un.keep b o e z (by intro y; cases y) (by simp)
      | some u =>
        rcases cs_of z with ⟨hb, _⟩ | ⟨_, rfl⟩
        · exact absurd hb nb
        · have z2 := un.frzs b _ _ z
          have e1 := (hok b _ z).1
          have e2 := (hok' b _ z2).1
          rw [e] at e1
          cases e1
          exact e2
    have tabs : ∀ t ∈ cs, ∃ more : Array Value, s'.heap.get? t.2 = some { cls := .none, data := .fields more } := fun t ht => by
      obtain ⟨more, z⟩ := un.tbls t.2 #[] (hH t ht)
      exact ⟨_, hok' t.2 _ z⟩
    refine ⟨rfl, ⟨fun b o e => ?_, fun b o e => ?_⟩, os, bare⟩
    · by_cases hb : b ∈ cs.map (·.2)
      · obtain ⟨t, ht, rfl⟩ := List.mem_map.mp hb
        obtain ⟨more, z⟩ := tabs t ht
        have e1 := Option.some.inj ((hT t ht).symm.trans e)
        subst e1
        exact .inr (.inl ⟨((PySem.W.codeHd_of_K kin (hC t ht)).tab (hT t ht)).isCodeTable, rfl, #[], more, rfl, by rw [Array.empty_append]; exact z⟩)
      · exact .inl (kept b o hb e)
    · by_cases hb : b ∈ cs.map (·.2)
      · obtain ⟨t, ht, rfl⟩ := List.mem_map.mp hb
        obtain ⟨more, z⟩ := tabs t ht
        exact ⟨_, z⟩
      · exact ⟨o, kept b o hb e⟩
end Rf
namespace Rh
open PySem PySem.Spec PyProof.Rows L2
def tabsL (g : Addr → Option Obj) (K : PySem.W.Frag) : Bool := (Rf.tabsOf K).all fun t => PySem.W.codeHdIn K t.1 t.2 && (match g t.2 with
  | some o => He.emptyTab o
  | none => false)
structure SaysL (fx : List Fx) (fn : List DX) (h : Heap) (K : PySem.W.Frag) : Prop where
  c : SaysX fx fn K
  hd : ∀ t ∈ Rf.tabsOf K, PySem.W.codeHdIn K t.1 t.2 = true
  out : ∀ t ∈ Rf.tabsOf K, K.lookup t.2 = none
  empty : ∀ t ∈ Rf.tabsOf K, h.get? t.2 = some { cls := .none, data := .fields #[] }
def obsL (fx : List Fx) (fn : List DX) (g : Addr → Option Obj) (K : PySem.W.Frag) : He.AlD := ((fx.all fun f => f K) && (fn.all fun d => d.ok K) && tabsL g K, fn.map fun d => fnX K d.at_)
theorem saysL_of {as : List Addr} {fx : List Fx} {fn : List DX} {h : Heap} (e : obsL fx fn h.get? (He.frT h.get? as) = valX fn) : SaysL fx fn h (He.frT h.get? as) := by
  have e1 : ((fx.all fun f => f (He.frT h.get? as)) && (fn.all fun d => d.ok (He.frT h.get? as)) && tabsL h.get? (He.frT h.get? as)) = true := congrArg (fun z : He.AlD => z.1) e
  have e2 : fn.map (fun d => fnX (He.frT h.get? as) d.at_) = fn.map DX.val := congrArg (fun z : He.AlD => z.2) e
  obtain ⟨h1, h2⟩ := He.ba e1
  have key : ∀ t ∈ Rf.tabsOf (He.frT h.get? as), PySem.W.codeHdIn (He.frT h.get? as) t.1 t.2 = true ∧ ∃ o, h.get? t.2 = some o ∧ He.emptyTab o = true := fun t ht => by
    obtain ⟨h3, h4⟩ := He.ba (List.all_eq_true.mp h2 t ht)
    refine ⟨h3, ?_⟩
    cases q : h.get? t.2 with
    | none =>
      rw [q] at h4
      cases h4
    | some o =>
      rw [q] at h4
      exact ⟨o, rfl, h4⟩
  refine ⟨?_, fun t ht => (key t ht).1, fun t ht => ?_, fun t ht => ?_⟩
  · show ((fx.all fun f => f (He.frT h.get? as)) && fn.all fun d => d.ok (He.frT h.get? as), fn.map fun d => fnX (He.frT h.get? as) d.at_) = (true, fn.map DX.val)
    rw [h1, e2]
  · obtain ⟨_, o, q, z⟩ := key t ht
    exact He.frT_none q z
  · obtain ⟨_, o, q, z⟩ := key t ht
    rw [q, He.emptyTab_eq z]
theorem walk_gT {l : PySem.W.OpenLaw} {m lv : Nat} {q : Program} {lo : List Str} {XP : (Str → Option Value) → Heap → Prop} {YP : World → Heap → Prop} {df : DefRec} {p : Str}
    (h1 : l.most = some m) (h2 : m ≤ sizeLine) (h3 : df.params.defaults = []) (room : Room lv callerA)
    (G : ∀ (w : World) (mg : Str → Option Value) (f : Addr) (h : Heap), YP w h → h.Ns mainGlobals mg → mg df.name = some (.ref f) →
      ∃ (K : PySem.W.Frag) (fd : FuncData) (sp : Sp), K.In h ∧ (∀ (s : Shared) (u : Value), BindsTo s fd ⟨[u], []⟩ [(p, u)]) ∧
        (∀ t ∈ Rf.tabsOf K, h.get? t.2 = some { cls := .none, data := .fields #[] }) ∧ (∀ t ∈ Rf.tabsOf K, K.lookup t.2 = none) ∧ (∀ t ∈ Rf.tabsOf K, PySem.W.codeHdIn K t.1 t.2 = true) ∧
        (∀ (H : Hp) (a : Addr) (ns : List Int), ns.length ≤ m → (∀ t ∈ Rf.tabsOf K, Rf.TabA H t.2) → SqL K H a (ns.map V.int) → sp [.ref a] H (fun v _ => v = .bl true) fun _ _ _ => False) ∧
        ∀ B : Heap, K.In B → B.Ns mainGlobals mg → Rf.TbK K mg B → Rf.FnG l.prog w K mg B lv f fd [p] sp) :
    PySem.W.WalkO q lo XP YP l.row.toRowW df [] (fun f vs => PySem.call f vs) := by
  refine Att.attach_call h1 h3 fun w t₀ t₁ mg mb f o pm cd doc a vs ns T Y ho hd hcd hm hob hin hle hg => ?_
  obtain ⟨K, fd, sp, KX, hb, hT, nT, hC, hs, hF⟩ := G w mg f _ Y T.T.g hm
  refine Rf.law_goT KX T.T.g T.T.b T.T.builtins T.T.nolimit hg hT nT hC T.T.bmain hob hin (Nat.le_trans hle h2) room hF hb (fun H hH hS => hs H a ns hle (fun t ht => ⟨#[], hH t ht, trivial, fun pos cv z => ?_⟩) hS) fun H e s' z => by
    obtain ⟨_, _, _, _, _, _, _, _, _, _, _, _, z⟩ := z
    exact z
  cases z
end Rh
namespace Rf
open PySem PySem.Spec PyProof.Rows L2
section
variable {X : Cx} {e : Expr} {t : L2.St → Hp → XK → Prop}
theorem pe_of_mk (hex : X.ex = []) (he : PMk X e t) : PE X e (fun σ H Q => t σ H fun cls d H' => ∀ a, H' a = none → Q (.ref a) (upd H' a (ExV cls d a))) := by
  refine ⟨fun pins s σ H Q I h => wpAny_mono (he pins s σ H _ I h) (fun u s' hm => ?_) fun _ _ z => z⟩
  obtain ⟨a, oe, vs, sI, H', cls, d, rfl, J, k, hne, ha, hz, hd, h1, na, os, ag, r, q⟩ := hm
  have J2 := J.kept (h' := s'.heap) (t' := s'.toks) k
  have J3 : Inv X pins σ H' s' := ⟨J2.ok, os.trans J2.os, ag, J2.base, J2.loc, J2.cell, J2.free, J2.freeC, J2.pin, J2.hok, J2.len⟩
  have n0 : X.s_0.heap.get? a = none := by
    cases q : X.s_0.heap.get? a with
    | none => rfl
    | some o =>
      obtain ⟨o', z⟩ := J.base.there a o q (by rw [hex]; exact fun z => nomatch z)
      rw [hne] at z
      cases z
  have nL : a ≠ X.env.locals := fun z => by
    obtain ⟨m, ⟨o, _, _, e, _⟩, _⟩ := J.loc
    rw [← z, hne] at e
    cases e
  refine ⟨.ref a, _, inv_track (o := ExV cls d a) J3 na n0 nL (fun y c e z => ?_) (fun p hp z => ?_) ⟨⟨oe, vs, ha, hz, hd⟩, ⟨oe, ha⟩, fun _ _ ⟨o, v, q, r⟩ k => ⟨o, v, k o q, r⟩⟩, rfl, q a na⟩
  · obtain ⟨v, o, q, _⟩ := J.cell y c e
    rw [z, hne] at q
    cases q
  · obtain ⟨q, _⟩ := J.pin p hp
    rw [z, hne] at q
    cases q
end
section
variable {X : Cx} {M : List Nat} {W : WX} {b : Bool} {k : Nat} {c f : Str} {e : Expr} {F : Env → O D} {p pn pos : Pos}
def eMkE (c : Str) (F : Env → O D) : Env → O D := fun env => match F env with
  | .ok d => .ok (.exc c d)
  | .exc c d => .exc c d
  | .bad => .bad
theorem sp_mkE (gd : Gd X W (k + 1)) (hex : X.ex = []) (r : RseX X k c) (hg : Gl X c) (h : SP X M W b e F) (hs : noStar [e] = true := by rfl) (hdb : (c == ("__debug__" : Str)) = false := by decide) :
    SP X M W b (.Call (.Name c p) [e] [] pos) (eMkE c F) := by
  obtain ⟨t, pe, q⟩ := h
  obtain ⟨fI, D, fd, hm, T, tI, F1, hb⟩ := r.ex
  obtain ⟨n1, n2⟩ := noStar_head hs X.env
  have mk := pmk_oex (p := p) (pos := pos) T.oex T.init tI F1 gd.room hb .nil (passes_call (E := fun _ _ _ => False) gd.takes fun _ _ _ _ z => z.elim) hg hm (pa_cons pe pa_nil n1) hdb n1 (noStar_plain n2 pos X.env)
  refine ⟨_, pe_of_mk hex mk, fun σ H env U S rl Q hp => ?_⟩
  refine q σ H env U S rl _ ?_
  unfold eMkE at hp
  cases hF : F env with
  | bad => rw [hF] at hp; exact hp.elim
  | exc c' d => rw [hF] at hp; exact hp
  | ok d =>
    rw [hF] at hp
    intro v H1 ex rp
    refine ⟨by simp, fun a ha => ⟨a, _, v, rfl, T, upd_same, fun dx hdx ne => ?_⟩⟩
    have hd1 : H1 dx = none := by rw [upd_ne ne] at hdx; exact hdx
    refine ⟨rfl, dx, [("value", v)], upd_same, by rw [upd_ne ne, upd_same], hd1, ?_⟩
    rw [exo_gone ha hd1 ne]
    intro a2 ha2
    have nt := (rl.ntb b).new ex
    have e1 : Ex H1 (upd H1 dx (.xd [("value", v)])) := Ex.new hd1
    have e2 := e1.trans (Ex.new (o := ExV (.ref (He.ga X.K c)) (some dx) a2) ha2)
    have nad : dx ≠ a2 := fun z => by rw [← z, upd_same] at ha2; cases ha2
    have ha1 : H1 a2 = none := by rw [upd_ne (Ne.symm nad)] at ha2; exact ha2
    refine hp (.ref a2) _ (ex.trans e2) (.exc (vis_in upd_same fun z => (nt.hid a2 z).1 ha1) (vis_in (o := .xd [("value", v)]) (by rw [upd_ne nad, upd_same]) fun z => (nt.hid dx z).1 hd1) (rp.mono (vis_mono e2)))
def rXv (K : PySem.W.Frag) (f : Str) : V → Hp → VK → Prop := fun x H Q => ∃ (a C dx : Addr) (fs : List (Str × V)) (v : V), x = .ref a ∧ H a = some (ExV (.ref C) (some dx) a) ∧ H dx = some (.xd fs) ∧ ExcC K C ∧ PySem.W.findIn K (.ref C) f = some none ∧ fs.lookup f = some v ∧ Q v H
theorem exv_inst {pins : List (Addr × Obj)} {σ : L2.St} {H : Hp} {s : Shared} {a C dx : Addr} {fs : List (Str × V)} (I : Inv X pins σ H s) (ha : H a = some (ExV (.ref C) (some dx) a)) (hx : H dx = some (.xd fs)) :
    ∃ (oe od : Obj) (mA : Str → Option Value), PySem.W.InstAt s.heap a oe C (some od) ∧ s.heap.Ns1 dx mA ∧ (∀ f, RelO (fs.lookup f) (mA f)) ∧ s.heap.get? dx = some od := by
  obtain ⟨⟨oe, vs, he, hz, hd⟩, _, _⟩ := (show ObjOk X.prog X.w H s.heap a (ExV (.ref C) (some dx) a) from I.hok a _ ha)
  obtain ⟨mA, hns, hr⟩ := (show ObjOk X.prog X.w H s.heap dx (.xd fs) from I.hok dx _ hx)
  obtain ⟨od, ho, hl⟩ := lookIn_ns hns
  exact ⟨oe, od, mA, ⟨he, hz.1, by unfold PySem.W.notCls; rw [hd] <;> rfl, by rw [hz.2]; exact ho⟩, hns, hr, ho⟩
theorem node_xv (hb : attributeBase e f X.env (eval e X.env) = eval e X.env) : Node X [e] (.Attribute e f pos) (r1 (rXv X.K f)) := by
  intro ts h
  obtain ⟨t, h1, rfl⟩ : ∃ t, PE X e t ∧ ts = [t] := by
    cases h with | cons h1 h => cases h with | nil => exact ⟨_, h1, rfl⟩
  refine ⟨fun σ H Q => t σ H fun x H1 => rXv X.K f x H1 Q, ⟨fun pins s σ H Q I hh => ?_⟩, fun σ H Q h => h⟩
  refine attr_of hb (thn (h1.run pins s σ H _ I hh) fun u s1 hq => ?_)
  obtain ⟨x, H1, I1, rx, a, C, dx, fs, v, rfl, ha, hx, T, hno, l, q⟩ := hq
  obtain rfl : u = Value.ref a := rx
  obtain ⟨⟨oe, vs, he, hz, hd⟩, _, _⟩ := (show ObjOk X.prog X.w H1 s1.heap a (ExV (.ref C) (some dx) a) from I1.hok a _ ha)
  obtain ⟨mA, hns, hr⟩ := (show ObjOk X.prog X.w H1 s1.heap dx (.xd fs) from I1.hok dx _ hx)
  obtain ⟨od, ho, hl⟩ := lookIn_ns hns
  obtain ⟨u, hu, ru⟩ := RelO.some_of (v := v) (o := mA f) (by rw [← l]; exact hr f)
  have J : PySem.W.InstAt s1.heap a oe C (some od) := ⟨he, hz.1, by unfold PySem.W.notCls; rw [hd] <;> rfl, by rw [hz.2]; exact ho⟩
  exact HandSPX.exc_get I1.kIn J T.hg T.hk T.hs (PySem.W.findObj_own T.hd hno rfl (by rw [hl, hu])) (handed_of ru) ⟨v, H1, I1.tok _, ru, q⟩
def fXv (errs : List Str) : D → O D
  | .exc c d => match errs.any (fun x => nbeq x.cps.toList c.cps.toList) with
    | true => .ok d
    | false => .bad
  | _ => .bad
theorem any_mem {errs : List Str} {c : Str} (h : errs.any (fun x => nbeq x.cps.toList c.cps.toList) = true) : c ∈ errs := by
  obtain ⟨y, hy, hz⟩ := List.any_eq_true.mp h
  rw [← (nbeq_str y c).mp hz]
  exact hy
theorem v1_xv {K : PySem.W.Frag} {errs : List Str} (hx : ∀ c ∈ errs, ExcC K (He.ga K c) ∧ PySem.W.findIn K (.ref (He.ga K c)) "value" = some none) : V1 K W (rXv K "value") (fXv errs) := by
  intro H Z σ x d Q n h hp
  cases h <;> try exact hp.elim
  rename_i a dx c v d ha hdx r
  simp only [fXv] at hp
  split at hp
  · rename_i hc
    obtain ⟨T, hno⟩ := hx c (any_mem hc)
    exact ⟨a, _, dx, _, v, rfl, of_some_vis ha, of_some_vis hdx, T, hno, rfl, hp v H (Ex.refl H) r⟩
  · exact hp.elim
theorem sp_xv {errs : List Str} (hx : ∀ c ∈ errs, ExcC X.K (He.ga X.K c) ∧ PySem.W.findIn X.K (.ref (He.ga X.K c)) "value" = some none) (h : SP X M W b e F) (hb : attributeBase e "value" X.env (eval e X.env) = eval e X.env := by rfl) : SP X M W b (.Attribute e "value" pos) (nd (g1 (fXv errs)) [F]) :=
  sp_node (node_xv hb) (v1_xv hx).val (.cons h .nil)
inductive TyE (K : PySem.W.Frag) (H : Hp) : V → Value → Prop where
  | x {v : V} {t : Value} : TyY K H v t → TyE K H v t
  | e {a C dx : Addr} {fs : List (Str × V)} : H a = some (ExV (.ref C) (some dx) a) → H dx = some (.xd fs) → ExcC K C → TyE K H (.ref a) (.ref C)
def rIsEE (K : PySem.W.Frag) : List V → Hp → VK → Prop := fun xs H Q => ∃ (x c : V) (t u : Value) (b : Bool), xs = [x, c] ∧ ClsV c u ∧ TyE K H x t ∧ PySem.W.kitOne K t u = some b ∧ Q (.bl b) H
theorem call_isEE : CallR X (.builtin "isinstance") (rIsEE X.K) := by
  intro pins s σ H xs us Q I r h
  obtain ⟨x, c, t, u, b, rfl, k, ty, e, q⟩ := h
  cases ty with
  | x ty => exact call_isiY pins s σ H _ us Q I r ⟨x, c, t, u, b, rfl, k, ty, e, q⟩
  | @e a C dx fs ha hx T =>
    obtain ⟨u1, u2, rfl, r1, r2⟩ := vals2 r
    have e2 := k.eq r2
    subst e2
    obtain rfl : u1 = Value.ref a := r1
    obtain ⟨oe, od, mA, J, _⟩ := exv_inst I ha hx
    have hc : (PySem.W.clsIn X.K C).isSome = true := by
      obtain ⟨cd, hc, _⟩ := PySem.W.any_some T.hd
      rw [hc]
      rfl
    exact PySem.W.kia_one (PySem.W.kitx_exc hc T.hg T.hk T.hs T.ha T.hn T.ht T.hm) I.kIn J e (fun z => nomatch z) fun tk => ⟨.bl b, H, I.tok tk, rfl, q⟩
def fIsE (errs : List Str) (p : Str → Bool) : D → O D
  | .ins _ _ => .bad
  | .exc c _ => match errs.any (fun x => nbeq x.cps.toList c.cps.toList) with
    | true => .ok (.bl (p c))
    | false => .bad
  | d => match tyD d with
    | .b _ => .ok (.bl false)
    | .own _ => .bad
theorem sp_isE {errs : List Str} {pf : Str → Bool} {cv : V} {u : Value} {ec : Expr} (k : ClsV cv u) (pc : PE X ec (tC cv)) (hx : ∀ c ∈ errs, ExcC X.K (He.ga X.K c) ∧ PySem.W.kitOne X.K (.ref (He.ga X.K c)) u = some (pf c)) (ht : ∀ t ∈ tagsB, PySem.W.kitOne X.K (.type t) u = some false)
    (hg : Gl X "isinstance") (hm : X.mg "isinstance" = none) (h : SP X M W b e F) (hs : noStar [e, ec] = true := by rfl) :
    SP X M W b (.Call (.Name "isinstance" p) [e, ec] [] pos) (nd (g1 (fIsE errs pf)) [F]) := by
  obtain ⟨t, pp, q⟩ := h
  obtain ⟨n1, n2⟩ := noStar_head hs X.env
  obtain ⟨n3, n4⟩ := noStar_head n2 X.env
  refine ⟨_, pe_callB call_isEE hg hm (by decide +kernel) (pa_cons pp (pa_cons pc pa_nil n3) n1) (by decide) (by decide) n1 (noStar_plain n2 pos X.env), fun σ H env U S r Q hp => q σ H env U S r _ ?_⟩
  have hp' : Po X.K W (zb b U S) H σ (rpZ X.K (zb b U S)) Q ((F env).bind fun d => fIsE errs pf d) := by
    have : nd (g1 (fIsE errs pf)) [F] env = (F env).bind fun d => fIsE errs pf d := by
      unfold nd seqF seqF
      cases F env <;> rfl
    rw [← this]
    exact hp
  refine Po.step hp' fun d v H1 _ e1 r1 h1 => ?_
  have key : ∀ t', tyD d = .b t' → (∀ c fs, d ≠ .ins c fs) → (∀ c e, d ≠ .exc c e) → t' ∈ tagsB → fIsE errs pf d = .ok (.bl false) → ∃ x c t u b', [v, cv] = [x, c] ∧ ClsV c u ∧ TyE X.K H1 x t ∧ PySem.W.kitOne X.K t u = some b' ∧ Q (.bl b') H1 := by
    intro t' h2 h3 h4 h5 h6
    rw [h6] at h1
    exact ⟨v, cv, _, _, false, rfl, k, .x (tyX_of (r1.mono vis_ex) h2 h3 h4), ht _ h5, h1 _ H1 (Ex.refl H1) (.bl _)⟩
  cases d with
  | dtt _ => exact h1.elim
  | clo _ _ _ => exact h1.elim
  | clv _ _ _ => exact h1.elim
  | slt _ _ => exact h1.elim
  | ins _ _ => exact h1.elim
  | exc c d' =>
    simp only [fIsE] at h1
    cases hc : errs.any (fun x => nbeq x.cps.toList c.cps.toList) with
    | false => rw [hc] at h1; exact h1.elim
    | true =>
      rw [hc] at h1
      obtain ⟨T, e2⟩ := hx c (any_mem hc)
      cases r1 with
      | exc ha hdx rr => exact ⟨_, cv, _, u, _, rfl, k, .e (of_some_vis ha) (of_some_vis hdx) T, e2, h1 _ H1 (Ex.refl H1) (.bl _)⟩
  | fdc => exact key "dict" rfl (fun _ _ h => by cases h) (fun _ _ h => by cases h) (by decide) rfl
  | non => exact key "NoneType" rfl (fun _ _ h => by cases h) (fun _ _ h => by cases h) (by decide) rfl
  | bl _ => exact key "bool" rfl (fun _ _ h => by cases h) (fun _ _ h => by cases h) (by decide) rfl
  | int _ => exact key "int" rfl (fun _ _ h => by cases h) (fun _ _ h => by cases h) (by decide) rfl
  | str _ => exact key "str" rfl (fun _ _ h => by cases h) (fun _ _ h => by cases h) (by decide) rfl
  | tup _ => exact key "tuple" rfl (fun _ _ h => by cases h) (fun _ _ h => by cases h) (by decide) rfl
  | lst _ => exact key "list" rfl (fun _ _ h => by cases h) (fun _ _ h => by cases h) (by decide) rfl
  | scr _ => exact key "list" rfl (fun _ _ h => by cases h) (fun _ _ h => by cases h) (by decide) rfl
  | fls _ => exact key "list" rfl (fun _ _ h => by cases h) (fun _ _ h => by cases h) (by decide) rfl
  | dic _ => exact key "dict" rfl (fun _ _ h => by cases h) (fun _ _ h => by cases h) (by decide) rfl
theorem sp_isEo {errs : List Str} {pf : Str → Bool} (hx : ∀ y ∈ errs, ExcC X.K (He.ga X.K y) ∧ PySem.W.kitOne X.K (.ref (He.ga X.K y)) (.ref (He.ga X.K c)) = some (pf y)) (ht : ∀ t ∈ tagsB, PySem.W.kitOne X.K (.type t) (.ref (He.ga X.K c)) = some false)
    (hg : Gl X "isinstance") (hm : X.mg "isinstance" = none) (hgC : Gl X c) (hmC : X.mg c = some (.ref (He.ga X.K c))) (h : SP X M W b e F) (hs : noStar [e, .Name c pn] = true := by rfl) (hd : (c == ("__debug__" : Str)) = false := by decide) :
    SP X M W b (.Call (.Name "isinstance" p) [e, .Name c pn] [] pos) (nd (g1 (fIsE errs pf)) [F]) :=
  sp_isE (.own _) (pe_glob (v := .ref (He.ga X.K c)) hgC hmC rfl hd) hx ht hg hm h hs
theorem sp_isEt {errs : List Str} {pf : Str → Bool} {T : Str} {n : String} (hx : ∀ y ∈ errs, ExcC X.K (He.ga X.K y) ∧ PySem.W.kitOne X.K (.ref (He.ga X.K y)) (.type n) = some (pf y)) (ht : ∀ t ∈ tagsB, PySem.W.kitOne X.K (.type t) (.type n) = some false)
    (hg : Gl X "isinstance") (hm : X.mg "isinstance" = none) (hgT : Gl X T) (hmT : X.mg T = none) (hT : bootBuiltins T = some (.type n)) (h : SP X M W b e F) (hs : noStar [e, .Name T pn] = true := by rfl) (hTn : T ≠ "__name__" := by decide) (hTd : (T == ("__debug__" : Str)) = false := by decide) :
    SP X M W b (.Call (.Name "isinstance" p) [e, .Name T pn] [] pos) (nd (g1 (fIsE errs pf)) [F]) :=
  sp_isE (.ty n) (pe_bltn hgT hmT hT (v := .ty n) rfl hTn hTd) hx ht hg hm h hs
end
end Rf
namespace Rh
open PySem PySem.Spec PyProof.Rows L2
open Rf (ErC Rse SupI)
def fxOex (c : Str) : Fx := fun K => (match K.lookup (He.ga K c) with
  | some ⟨.type t, _, .cls cd, sl⟩ => decide (t = "type") && (match cd.mro, sl.toList with
    | .ref C :: bm, [_, _, _, _, some (.builtin n), _] => Nat.beq C (He.ga K c) && (decide (n = "ValueError.__new__") && (!cd.hasDel && (cd.hasDict && PySem.HandSPX.refsVE bm)))
    | _, _ => false)
  | _ => false) && (He.eqO (PySem.W.findIn K (.ref (He.ga K c)) "__setattr__") (some (some (.builtin "object.__setattr__"))) && (decide (PySem.W.subIn K (.ref (He.ga K c)) (.type "BaseException") = some true) && (decide (PySem.W.typeIn K (.ref (He.ga K c)) = some (.type "type")) && PySem.W.keepIn K (.ref (He.ga K c)))))
theorem oex_ok {K : PySem.W.Frag} {c : Str} (h : fxOex c K = true) : OexC K (He.ga K c) := by
  obtain ⟨h1, h2⟩ := He.ba h
  obtain ⟨h2, h3⟩ := He.ba h2
  obtain ⟨h3, h4⟩ := He.ba h3
  obtain ⟨h4, h5⟩ := He.ba h4
  refine ⟨?_, He.eqO_ok h2, of_decide_eq_true h3, of_decide_eq_true h4, h5⟩
  split at h1
  · rename_i t dd cd sl ho
    obtain ⟨e1, h1⟩ := He.ba h1
    split at h1
    · rename_i C bm k0 k1 k2 k3 n k5 hm hs
      obtain ⟨e2, h1⟩ := He.ba h1
      obtain ⟨e3, h1⟩ := He.ba h1
      obtain ⟨e4, h1⟩ := He.ba h1
      obtain ⟨e5, e6⟩ := He.ba h1
      have e1 := of_decide_eq_true e1
      have e2 : C = He.ga K c := Nat.eq_of_beq_eq_true e2
      have e3 := of_decide_eq_true e3
      have e7 : cd.hasDel = false := by
        cases q : cd.hasDel with
        | false => rfl
        | true => rw [q] at e4; cases e4
      subst e1 e2 e3
      obtain ⟨nm, bs, mro, ns, qn, hd, sn, sub, ab, col, del⟩ := cd
      dsimp only at hm e7 e5
      subst hm e7 e5
      have hsl : sl = #[k0, k1, k2, k3, some (.builtin "ValueError.__new__"), k5] := by
        obtain ⟨l⟩ := sl
        simp only at hs
        rw [hs]
      subst hsl
      exact ⟨nm, qn, ns, bs, bm, sn, sub, ab, col, dd, k0, k1, k2, k3, k5, ho, e6⟩
    · cases h1
  · cases h1
def fxErC (b c : Str) : Fx := fun K => fxOex c K && (He.eqO (PySem.W.findIn K (.ref (He.ga K c)) "__init__") (some (some (.ref (He.ma K (He.ga K b) "__init__")))) && (He.eqO (PySem.W.findIn K (.ref (He.ga K c)) "value") (some none) &&
  (He.eqO (PySem.W.ks_superIn K (He.ga K c) (He.ga K b) "__init__") (some (some (.builtin "ValueError.__init__"))) && (decide (PySem.W.subIn K (.ref (He.ga K c)) (.type "ValueError") = some true) && decide (PySem.W.mroIn K (He.ga K c) (.ref (He.ga K b)) = some true)))))
theorem erC_ok {K : PySem.W.Frag} {b c : Str} (h : fxErC b c K = true) : ErC K (He.ma K (He.ga K b) "__init__") (He.ga K b) (He.ga K c) := by
  obtain ⟨h1, h2⟩ := He.ba h
  obtain ⟨h2, h3⟩ := He.ba h2
  obtain ⟨h3, h4⟩ := He.ba h3
  obtain ⟨h4, h5⟩ := He.ba h4
  obtain ⟨h5, h6⟩ := He.ba h5
  exact ⟨oex_ok h1, He.eqO_ok h2, He.eqO_ok h3, He.eqO_ok h4, of_decide_eq_true h5, of_decide_eq_true h6⟩
def fxExcC (c : Str) : Fx := fun K => He.eqO (PySem.W.findIn K (.ref (He.ga K c)) "__getattribute__") (some (some (.builtin "BaseException.__getattribute__"))) && (He.eqO (PySem.W.findIn K (.ref (He.ga K c)) "__getattr__") (some none) && (decide (PySem.W.subIn K (.ref (He.ga K c)) (.type "BaseException") = some true) &&
  (PySem.W.hasDictIn K (He.ga K c) && (He.eqO (PySem.W.findIn K (.ref (He.ga K c)) "__class__") (some (some (.builtin "object.__class__"))) && (He.eqO (PySem.W.specialIn K (.builtin "object.__class__") "__get__") (some (some (.builtin "getset_descriptor.__get__"))) &&
  (decide (PySem.W.takesIn K (.builtin "object.__class__") = some true) && decide (PySem.W.mroIn K (He.ga K c) (.type "object") = some true)))))))
theorem excC_ok {K : PySem.W.Frag} {c : Str} (h : fxExcC c K = true) : ExcC K (He.ga K c) := by
  obtain ⟨h1, h2⟩ := He.ba h
  obtain ⟨h2, h3⟩ := He.ba h2
  obtain ⟨h3, h4⟩ := He.ba h3
  obtain ⟨h4, h5⟩ := He.ba h4
  obtain ⟨h5, h6⟩ := He.ba h5
  obtain ⟨h6, h7⟩ := He.ba h6
  obtain ⟨h7, h8⟩ := He.ba h7
  exact ⟨He.eqO_ok h1, He.eqO_ok h2, of_decide_eq_true h3, h4, He.eqO_ok h5, He.eqO_ok h6, of_decide_eq_true h7, of_decide_eq_true h8⟩
def fxKit (cs : List Str) (u : PySem.W.Frag → Value) (p : Str → Bool) : Fx := fun K => (cs.all fun y => decide (PySem.W.kitOne K (.ref (He.ga K y)) (u K) = some (p y))) && Rf.tagsB.all fun t => decide (PySem.W.kitOne K (.type t) (u K) = some false)
theorem kit_ok {K : PySem.W.Frag} {cs : List Str} {u : PySem.W.Frag → Value} {p : Str → Bool} (h : fxKit cs u p K = true) : (∀ y ∈ cs, PySem.W.kitOne K (.ref (He.ga K y)) (u K) = some (p y)) ∧ ∀ t ∈ Rf.tagsB, PySem.W.kitOne K (.type t) (u K) = some false := by
  obtain ⟨h1, h2⟩ := He.ba h
  exact ⟨fun y hy => of_decide_eq_true (List.all_eq_true.mp h1 y hy), fun t ht => of_decide_eq_true (List.all_eq_true.mp h2 t ht)⟩
structure SX where
  base : Str
  qual : Str
  params : Arguments
  body : List Stmt
  scope : Scope
  file : Str
def SX.ad (K : PySem.W.Frag) (d : SX) : Addr := He.ma K (He.ga K d.base) "__init__"
def SX.val (d : SX) : He.FnW := some ("__init__", d.qual, d.params, .stmts d.body, d.scope, mainGlobals, [("__class__", 0)], builtinsNs)
def fnS (K : PySem.W.Frag) (p : Addr) : He.FnW := match K.lookup p with
  | some ⟨_, _, .func fd, _⟩ => some (fd.name, fd.qualname, fd.params, fd.body, fd.scope, fd.globals, fd.closure.map fun q => (q.1, 0), fd.builtins)
  | _ => none
def fileB (K : PySem.W.Frag) (cd : Value) (f : Str) : Bool := match cd with
  | .ref c => (match K.lookup c with
    | some ⟨_, _, .fields vs, _⟩ => (match (vs[2]? : Option Value) with
      | some (.str g _) => f == g
      | _ => false)
    | _ => false)
  | _ => false
def cellB (K : PySem.W.Frag) (cl : List (Str × Addr)) (D : Addr) : Bool := match cl with
  | [(_, cc)] => (match K.lookup cc with
    | some ⟨_, _, .cell (some (.ref E)), _⟩ => Nat.beq E D
    | _ => false)
  | _ => false
def noneB : Value → Bool
  | .none => true
  | _ => false
def SX.ok (K : PySem.W.Frag) (d : SX) : Bool := (match K.lookup (d.ad K) with
  | some ⟨_, _, .func fd, _⟩ => PySem.W.codeIn K fd.code d.qual && (noneB fd.defaults && (cellB K fd.closure (He.ga K d.base) && fileB K fd.code d.file))
  | _ => false) && ((PySem.W.clsIn K (He.ga K d.base)).isSome && (He.eqO (PySem.W.nsIn K cStatics "thirdparty.any") (some none) && (He.eqO (PySem.W.nsIn K mainGlobals "super") (some none) && decide (PySem.W.typeIn K (.ref (d.ad K)) = some (.type "function")))))
theorem SX.supI {P : Program} {K : PySem.W.Frag} {d : SX} (e : fnS K (d.ad K) = d.val) (c : d.ok K = true) (hf : P.main.file = d.file)
    (par : (d.params.posonlyargs ++ d.params.args).head?.map (·.arg) = some "self") (top : (P.main.scope.names.lookup ("super" : Str)).isSome = false) (kind : d.scope.kind = .function) (co : d.scope.isCoroutine = false) (gen : d.scope.isGenerator = false)
    (s1 : d.scope.names.lookup ("super" : Str) = some .globalImplicit) (s2 : d.scope.names.lookup ("__class__" : Str) = some .free) (s3 : d.scope.names.lookup ("self" : Str) = some .local) (s4 : d.scope.names.lookup ("value" : Str) = some .local) (s5 : ∀ x ∈ d.scope.names, x.2 ≠ .cell) (s6 : ∀ x ∈ d.scope.names, x.2 = .free → x.1 = "__class__")
    (hb : ∀ (kV doc pm ct cdv : Value) (an : Option Addr) (cc : Addr) (us : List Value), us.length = 2 → bindArgs (PySem.W.fnX "__init__" d.qual d.params d.body d.scope [("__class__", cc)] .none kV doc pm an cdv ct) ⟨us, []⟩ = pure ((["self", "value"] : List Str).zip us)) :
    (∃ fd, SupI P K d.qual d.params d.body d.scope (d.ad K) (He.ga K d.base) fd ∧ Binds K fd ["self", "value"] []) ∧ PySem.W.typeIn K (.ref (d.ad K)) = some (.type "function") := by
  obtain ⟨c1, c2⟩ := He.ba c
  obtain ⟨c2, c3⟩ := He.ba c2
  obtain ⟨c3, c4⟩ := He.ba c3
  obtain ⟨c4, c5⟩ := He.ba c4
  refine ⟨?_, of_decide_eq_true c5⟩
  unfold fnS at e
  cases q : K.lookup (d.ad K) with
  | none => rw [q] at c1; cases c1
  | some o =>
    obtain ⟨oc, od, dt, osl⟩ := o
    rw [q] at c1 e
    cases dt with
    | func fd =>
      obtain ⟨n1, n2, n3, n4, n5, n6, n7, n8, n9, n10, n11, n12, n13, n14, n15⟩ := fd
      have e2 : (some (n1, n2, n3, n4, n5, n6, n7.map fun q => (q.1, 0), n15) : He.FnW) = (some (("__init__" : Str), d.qual, d.params, FuncBody.stmts d.body, d.scope, mainGlobals, [(("__class__" : Str), 0)], builtinsNs) : He.FnW) := e
      simp only [Option.some.injEq, Prod.mk.injEq] at e2
      obtain ⟨h1, h2, h3, h4, h5, h6, h7, h8⟩ := e2
      subst h1 h2 h3 h4 h5 h6 h8
      have c6 : (PySem.W.codeIn K n13 d.qual && (noneB n8 && (cellB K n7 (He.ga K d.base) && fileB K n13 d.file))) = true := c1
      obtain ⟨k1, r1⟩ := He.ba c6
      obtain ⟨k2, r2⟩ := He.ba r1
      obtain ⟨k3, k4⟩ := He.ba r2
      clear r1 r2 c6 c1
      have e8 : n8 = .none := by
        cases n8 with
        | none => rfl
        | _ => cases k2
      subst e8
      obtain ⟨cda, rfl⟩ := He.codeIn_ref k1
      match n7, h7 with
      | [(x, cc)], h7 =>
        have ex : x = ("__class__" : Str) := by
          simp only [List.map_cons, List.map_nil, List.cons.injEq, Prod.mk.injEq, and_true] at h7
          exact h7
        subst ex
        unfold cellB at k3
        unfold fileB at k4
        simp only at k3 k4
        split at k3
        · rename_i z1 z2 E z3 hc
          have eE : E = He.ga K d.base := Nat.eq_of_beq_eq_true k3
          subst eE
          split at k4
          · rename_i y1 y2 vs y3 hcode
            split at k4
            · rename_i g tf hv
              refine ⟨_, ⟨⟨cc, cda, n9, n10, n11, n14, oc, n12, od, osl, rfl, q, k1, ⟨z1, z2, z3, hc⟩, ⟨y1, y2, vs, y3, g, tf, hcode, hv, by rw [hf]; exact k4⟩⟩, par, Option.isSome_iff_exists.mp c2, He.eqO_ok c3, He.eqO_ok c4, top, kind, co, gen, s1, s2, s3, s4, s5, s6⟩, .all fun us hl => hb _ _ _ _ _ _ _ us hl⟩
            · cases k4
          · cases k4
        · cases k3
    | _ => cases c1
theorem rses {P : Program} {w : World} {K : PySem.W.Frag} {mg : Str → Option Value} {base : Heap} {k : Nat} {d : SX} {fd : FuncData} {c : Str} {p0 p1 p2 p3 p4 p5 q1 q2 q3 q4 : Pos} (hb : d.body = Rf.supBody p0 p1 p2 p3 p4 p5 q1 q2 q3 q4) (hev : Rf.SupEv p0 p1 p2 p3 p4) (S : SupI P K d.qual d.params d.body d.scope (d.ad K) (He.ga K d.base) fd) (tI : PySem.W.typeIn K (.ref (d.ad K)) = some (.type "function"))
    (bd : Binds K fd ["self", "value"] []) (hm : mg c = some (.ref (He.ga K c))) (T : ErC K (d.ad K) (He.ga K d.base) (He.ga K c)) : Rse P w K mg base (k + 1) c := by
  rw [hb] at S
  exact ⟨d.ad K, He.ga K d.base, fd, hm, T, tI, Rf.sup_fn S hev, bd⟩
def obsE (fx : List Fx) (fn : List DX) (sn : List SX) (g : Addr → Option Obj) (K : PySem.W.Frag) : He.AlD := ((fx.all fun f => f K) && (fn.all fun d => d.ok K) && tabsL g K && (sn.all fun d => d.ok K), (fn.map fun d => fnX K d.at_) ++ sn.map fun d => fnS K (d.ad K))
def valE (fn : List DX) (sn : List SX) : He.AlD := (true, fn.map DX.val ++ sn.map SX.val)
def obsEG (n : Nat) (fx : List Fx) (fn : List DX) (sn : List SX) (g : Addr → Option Obj) : He.AlD := obsE fx fn sn g (He.frT g (asX g n ++ [cStatics]))
structure SaysE (fx : List Fx) (fn : List DX) (sn : List SX) (h : Heap) (K : PySem.W.Frag) : Prop where
  l : SaysL fx fn h K
  s : ∀ d ∈ sn, fnS K (d.ad K) = d.val ∧ d.ok K = true
theorem saysE_of {as : List Addr} {fx : List Fx} {fn : List DX} {sn : List SX} {h : Heap} (e : obsE fx fn sn h.get? (He.frT h.get? as) = valE fn sn) : SaysE fx fn sn h (He.frT h.get? as) := by
  have e1 : ((fx.all fun f => f (He.frT h.get? as)) && (fn.all fun d => d.ok (He.frT h.get? as)) && tabsL h.get? (He.frT h.get? as) && (sn.all fun d => d.ok (He.frT h.get? as))) = true := congrArg (fun z : He.AlD => z.1) e
  have e2 : (fn.map fun d => fnX (He.frT h.get? as) d.at_) ++ (sn.map fun d => fnS (He.frT h.get? as) (d.ad (He.frT h.get? as))) = fn.map DX.val ++ sn.map SX.val := congrArg (fun z : He.AlD => z.2) e
  obtain ⟨h1, h2⟩ := He.ba e1
  obtain ⟨e3, e4⟩ := List.append_inj e2 (by simp)
  refine ⟨saysL_of ?_, fun d hd => ⟨?_, List.all_eq_true.mp h2 d hd⟩⟩
  · show ((fx.all fun f => f (He.frT h.get? as)) && (fn.all fun d => d.ok (He.frT h.get? as)) && tabsL h.get? (He.frT h.get? as), fn.map fun d => fnX (He.frT h.get? as) d.at_) = (true, fn.map DX.val)
    rw [h1, e3]
  · exact List.map_inj_left.mp e4 d hd
def hookE (n : Nat) (fx : List Fx) (fn : List DX) (sn : List SX) : PySem.W.Hook where
  α := He.AlD
  obs := fun s => obsEG n fx fn sn s.heap.get?
  val := fun _ => valE fn sn
  says := fun _ h => ∃ K : PySem.W.Frag, K.In h ∧ SaysE fx fn sn h K
  of := fun _ _ e => ⟨_, He.frT_in, saysE_of e⟩
  keeps := fun _ _ _ ⟨K, hK, c⟩ k => ⟨K, PySem.W.Frag.In.keeps hK k, ⟨⟨c.l.c, c.l.hd, c.l.out, fun t ht => k _ _ (c.l.empty t ht)⟩, c.s⟩⟩
theorem obsEG_eq {n : Nat} {fx : List Fx} {fn : List DX} {sn : List SX} {g : Addr → Option Obj} {s : Shared} (h : ∀ a, g a = s.heap.get? a) : obsEG n fx fn sn g = (hookE n fx fn sn).obs s := by
  have e : g = s.heap.get? := funext h
  rw [e] <;> rfl
end Rh
namespace K00
open PySem PySem.Spec PyProof.Rows L2 Rh
def top (i : Nat) : Stmt := PySem.Challenge.pw_partedroles_k00_errors_and_what_they_kee.main.body.getD i (.Pass ⟨0, 0, 0, 0⟩)
def inCls (i j : Nat) : Stmt := match top i with
  | .ClassDef _ _ _ body _ _ _ _ _ _ _ => body.getD j (.Pass ⟨0, 0, 0, 0⟩)
  | _ => .Pass ⟨0, 0, 0, 0⟩
abbrev Rw : PySem.W.OpenRow := PySem.W.OpenLaw.row PySem.Challenge.rw_partedroles_k00_errors_and_what_they_kee
abbrev erL : List Str := ["BadBook", "NoRole", "BadRule", "Full", "NoRule", "BadRight", "BadRoles", "BadHand", "BadDealing", "NoDuty", "NotKept", "BadStaff", "TooMany", "OtherSize", "BadOffers", "NoPerson", "Left", "Dealt", "Barred", "NotDealt", "NothingToUndo", "NothingToRedo", "NoTrial", "BadJournal", "BadLine", "PartError"]
def pE (c : Str) : Str → Bool := fun y => Rf.nbeq y.cps.toList c.cps.toList
def pT : Str → Bool := fun _ => true
def fileS : Str := Rw.prog.main.file
def sup : SX := ⟨"PartError", "PartError.__init__", defArgs (inCls 1 0), defBody (inCls 1 0), defScope (inCls 1 0), fileS⟩
def sn : List SX := [sup]
def x__law_places : DX := ⟨.glo "_law_places", "_law_places", "_law_places", defArgs (top 31), defBody (top 31), defScope (top 31), []⟩
def x__law_take : DX := ⟨.glo "_law_take", "_law_take", "_law_take", defArgs (top 29), defBody (top 29), defScope (top 29), []⟩
def x__law_of : DX := ⟨.glo "_law_of", "_law_of", "_law_of", defArgs (top 30), defBody (top 30), defScope (top 30), []⟩
def x__law_odd : DX := ⟨.glo "_law_odd", "_law_odd", "_law_odd", defArgs (top 33), defBody (top 33), defScope (top 33), []⟩
def x__law_bent : DX := ⟨.glo "_law_bent", "_law_bent", "_law_bent", defArgs (top 32), defBody (top 32), defScope (top 32), []⟩
def x__law_errors : DX := ⟨.glo "_law_errors", "_law_errors", "_law_errors", defArgs (top 34), defBody (top 34), defScope (top 34), []⟩
def x__law_marks : DX := ⟨.glo "_law_marks", "_law_marks", "_law_marks", defArgs (top 35), defBody (top 35), defScope (top 35), []⟩
def x__law_right : DX := ⟨.glo "_law_right", "_law_right", "_law_right", defArgs (top 36), defBody (top 36), defScope (top 36), []⟩
def x__law_pot : DX := ⟨.glo "_law_pot", "_law_pot", "_law_pot", defArgs (top 28), defBody (top 28), defScope (top 28), []⟩
def x_law : DX := ⟨.glo "law", "law", "law", defArgs (top 37), defBody (top 37), defScope (top 37), []⟩
def fn0 : List DX := [x__law_places, x__law_take, x__law_of, x__law_odd, x__law_bent, x__law_errors, x__law_marks, x__law_right, x__law_pot, x_law]
def fn : List DX := fn0
def fx0 : List Fx := [fxFa (.free "len"), fxFa (.free "abs"), fxFa (.free "all"), fxFa (.free "any"), fxFa (.free "sum"), fxFa (.free "int"), fxFa (.free "str"), fxFa (.free "tuple"), fxFa (.free "list"), fxFa (.free "sorted"), fxFa (.free "min"), fxFa (.free "max")]
def fx1 : List Fx := [fxFa (.free "range"), fxFa (.free "enumerate"), fxFa (.free "zip"), fxFa (.free "isinstance"), fxFa (.free "bool"), fxFa (.free "set"), fxFa (.free "dict"), fxFa (.free "repr"), fxFa (.glo "_law_places"), fxFa (.glo "_law_take"), fxFa (.glo "_law_of"), fxFa (.glo "_law_odd")]
def fx2 : List Fx := [fxFa (.glo "_law_bent"), fxFa (.glo "_law_errors"), fxFa (.glo "_law_marks"), fxFa (.glo "_law_right"), fxFa (.glo "_law_pot"), fxFa (.glo "law"), fxFa (.free "ValueError"), (fun K => erL.all fun y => fxExcC y K), (fun K => erL.all fun y => He.eqO (PySem.W.findIn K (.ref (He.ga K y)) "value") (some none)), fxKit erL (fun _ => .type "ValueError") pT, fxFa (.glo "BadBook"), fxErC "PartError" "BadBook"]
def fx3 : List Fx := [fxKit erL (fun K => .ref (He.ga K "BadBook")) (pE "BadBook"), fxFa (.glo "NoRole"), fxErC "PartError" "NoRole", fxKit erL (fun K => .ref (He.ga K "NoRole")) (pE "NoRole"), fxFa (.glo "BadRule"), fxErC "PartError" "BadRule", fxKit erL (fun K => .ref (He.ga K "BadRule")) (pE "BadRule"), fxFa (.glo "Full"), fxErC "PartError" "Full", fxKit erL (fun K => .ref (He.ga K "Full")) (pE "Full"), fxFa (.glo "NoRule"), fxErC "PartError" "NoRule"]
def fx4 : List Fx := [fxKit erL (fun K => .ref (He.ga K "NoRule")) (pE "NoRule"), fxFa (.glo "BadRight"), fxErC "PartError" "BadRight", fxKit erL (fun K => .ref (He.ga K "BadRight")) (pE "BadRight"), fxFa (.glo "BadRoles"), fxErC "PartError" "BadRoles", fxKit erL (fun K => .ref (He.ga K "BadRoles")) (pE "BadRoles"), fxFa (.glo "BadHand"), fxErC "PartError" "BadHand", fxKit erL (fun K => .ref (He.ga K "BadHand")) (pE "BadHand"), fxFa (.glo "BadDealing"), fxErC "PartError" "BadDealing"]
def fx5 : List Fx := [fxKit erL (fun K => .ref (He.ga K "BadDealing")) (pE "BadDealing"), fxFa (.glo "NoDuty"), fxErC "PartError" "NoDuty", fxKit erL (fun K => .ref (He.ga K "NoDuty")) (pE "NoDuty"), fxFa (.glo "NotKept"), fxErC "PartError" "NotKept", fxKit erL (fun K => .ref (He.ga K "NotKept")) (pE "NotKept"), fxFa (.glo "BadStaff"), fxErC "PartError" "BadStaff", fxKit erL (fun K => .ref (He.ga K "BadStaff")) (pE "BadStaff"), fxFa (.glo "TooMany"), fxErC "PartError" "TooMany"]
def fx6 : List Fx := [fxKit erL (fun K => .ref (He.ga K "TooMany")) (pE "TooMany"), fxFa (.glo "OtherSize"), fxErC "PartError" "OtherSize", fxKit erL (fun K => .ref (He.ga K "OtherSize")) (pE "OtherSize"), fxFa (.glo "BadOffers"), fxErC "PartError" "BadOffers", fxKit erL (fun K => .ref (He.ga K "BadOffers")) (pE "BadOffers"), fxFa (.glo "NoPerson"), fxErC "PartError" "NoPerson", fxKit erL (fun K => .ref (He.ga K "NoPerson")) (pE "NoPerson"), fxFa (.glo "Left"), fxErC "PartError" "Left"]
def fx7 : List Fx := [fxKit erL (fun K => .ref (He.ga K "Left")) (pE "Left"), fxFa (.glo "Dealt"), fxErC "PartError" "Dealt", fxKit erL (fun K => .ref (He.ga K "Dealt")) (pE "Dealt"), fxFa (.glo "Barred"), fxErC "PartError" "Barred", fxKit erL (fun K => .ref (He.ga K "Barred")) (pE "Barred"), fxFa (.glo "NotDealt"), fxErC "PartError" "NotDealt", fxKit erL (fun K => .ref (He.ga K "NotDealt")) (pE "NotDealt"), fxFa (.glo "NothingToUndo"), fxErC "PartError" "NothingToUndo"]
def fx8 : List Fx := [fxKit erL (fun K => .ref (He.ga K "NothingToUndo")) (pE "NothingToUndo"), fxFa (.glo "NothingToRedo"), fxErC "PartError" "NothingToRedo", fxKit erL (fun K => .ref (He.ga K "NothingToRedo")) (pE "NothingToRedo"), fxFa (.glo "NoTrial"), fxErC "PartError" "NoTrial", fxKit erL (fun K => .ref (He.ga K "NoTrial")) (pE "NoTrial"), fxFa (.glo "BadJournal"), fxErC "PartError" "BadJournal", fxKit erL (fun K => .ref (He.ga K "BadJournal")) (pE "BadJournal"), fxFa (.glo "BadLine"), fxErC "PartError" "BadLine"]
def fx9 : List Fx := [fxKit erL (fun K => .ref (He.ga K "BadLine")) (pE "BadLine"), fxFa (.glo "PartError"), fxErC "PartError" "PartError", fxKit erL (fun K => .ref (He.ga K "PartError")) (pT)]
def fx : List Fx := fx0 ++ (fx1 ++ (fx2 ++ (fx3 ++ (fx4 ++ (fx5 ++ (fx6 ++ (fx7 ++ (fx8 ++ (fx9)))))))))
def loose0 : List Str := ["__name__", "PartError", "BadBook", "NoRole", "BadRule", "Full", "NoRule", "BadRight", "BadRoles", "BadHand", "BadDealing", "NoDuty"]
def loose1 : List Str := ["NotKept", "BadStaff", "TooMany", "OtherSize", "BadOffers", "NoPerson", "Left", "Dealt", "Barred", "NotDealt", "NothingToUndo", "NothingToRedo"]
def loose2 : List Str := ["NoTrial", "BadJournal", "BadLine", "_law_pot", "_law_take", "_law_of", "_law_places", "_law_bent", "_law_odd", "_law_errors", "_law_marks", "_law_right"]
def loose : List Str := loose0 ++ (loose1 ++ (loose2))
abbrev hk : PySem.W.Hook := hookE 4 fx fn sn
def ob (s : PySem.W.SharedT) : He.AlD := obsEG 4 fx fn sn (HandSHeadRun.getT s)
theorem ob_eq (s : PySem.W.SharedT) : ob s = hk.obs s.abs := obsEG_eq (HandSHeadRun.getT_eq s)
theorem run (w : World) : HandSHeadRun.RunEq Rw (PySem.W.view Rw.prog [37]) hk ob 20000 loose w := by
  intro os
  kernel_rfl
end K00
namespace Pg
open PySem PySem.Spec PyProof.Rows L2 Rf
end Pg
namespace Rf
open PySem PySem.Spec PyProof.Rows L2
section
variable {K : PySem.W.Frag} {M : List Nat} {U T : AS} {S S1 : Nat → AS} {H H1 : Hp} {σ : L2.St} {env e1 : Env} {d : D} {v : V}
end
section
variable {X : Cx} {M : List Nat} {W : WX} {k i : Nat} {x z : Str} {g : List D → C} {p pos pz : Pos} {e : Expr} {F : Env → R D}
end
end Rf
namespace Rf
open PySem PySem.Spec PyProof.Rows L2
section
variable {X : Cx} {M : List Nat} {W : WX} {e e' : Expr} {F F' : Env → R D} {p pos : Pos}
end
end Rf
namespace Rf
open PySem PySem.Spec PyProof.Rows L2
inductive OTg
  | put (i : Nat) (z : Str)
  | nam (i : Nat)
section
variable {X : Cx} {G : Pl} {W : WX} {os : List Bool} {es tgs : List Expr} {Fs : List (Env → R D)} {ts : List OTg} {pos pt pt2 : Pos} {kt k2 : Nat}
end
end Rf
namespace Rf
open PySem PySem.Spec PyProof.Rows L2
section
variable {K : PySem.W.Frag} {M M' V P : List Nat} {U : AS} {S S' : Nat → AS} {H H' : Hp} {σ σ' : L2.St} {env e' : Env}
end
section
variable {X : Cx} {G : Pl} {W : WX} {st : Stmt} {B : Env → Fl}
end
section
variable {X : Cx} {M M' : List Nat} {W : WX} {own : List (Str × Nat)} {tg iter elt : Expr} {ifs : List Expr} {scope : Scope} {I : Env → O (List D)} {g : D → Env → Option Env} {E : Env → R D}
end
section
variable {X : Cx} {G : Pl} {W : WX} {i : Nat} {x : Str} {e : Expr} {F : Env → O D} {p1 apos cpos pos : Pos}
end
end Rf
namespace Ns
open PySem PySem.Spec PyProof.Rows L2
section
variable {P : Program} {w : World} {s : Shared}
end
end Ns
namespace Ns
open PySem PySem.Spec PyProof.Rows L2
abbrev Row := Value × NestedKey
section
variable {P : Program} {w : World} {A : Around} {E : Value → Shared → Prop} {s : Shared} {a : Addr} {L : List Row} {es : Array (Int × Value)} {ep : Nat} {t : SetTable}
end
end Ns
namespace Ns
open PySem PySem.Spec PyProof.Rows L2
section
variable {P : Program} {w : World} {A : Around} {E : Value → Shared → Prop} {s : Shared} {a : Addr} {L : List Row} {es : Array (Int × Value)} {ep : Nat} {t : SetTable}
end
end Ns
namespace Ns
open PySem PySem.Spec PyProof.Rows L2
section
variable {P : Program} {w : World} {A : Around} {E : Value → Shared → Prop} {s : Shared} {a : Addr} {L : List Row} {es : Array (Int × Value)} {ep : Nat} {t : SetTable}
end
end Ns
namespace Ns
open PySem PySem.Spec PyProof.Rows L2
section
variable {P : Program} {w : World} {A : Around} {E : Value → Shared → Prop}
end
end Ns
namespace Ns
open PySem PySem.Spec PyProof.Rows L2
section
variable {P : Program} {w : World} {A : Around} {E : Value → Shared → Prop} {s : Shared}
end
end Ns
namespace Ns
open PySem PySem.Spec PyProof.Rows L2 Rf
end Ns
namespace Ns
open PySem PySem.Spec PyProof.Rows L2 Rf
section
variable {P : Program} {w : World} {A : Around} {E : Value → Shared → Prop} {s : Shared} {a : Addr} {es : Array (Int × Value)} {ep : Nat} {t : SetTable}
end
end Ns
namespace Ns
open PySem PySem.Spec PyProof.Rows L2 Rf
section
variable {X : Cx} {pins : List (Addr × Obj)} {σ : L2.St} {H H0 : Hp} {s : Shared}
end
end Ns
namespace Ns
open PySem PySem.Spec PyProof.Rows L2 Rf
section
variable {X : Cx} {M : List Nat} {W : WX} {b : Bool} {k : Nat} {e : Expr} {F : Rf.Env → O D} {p p2 q pos : Pos}
end
end Ns
namespace Rf
open PySem PySem.Spec PyProof.Rows L2
section
variable {X : Cx} {e : Expr} {te : TE} {p apos cpos pos : Pos}
end
section
variable {X : Cx} {M : List Nat} {W : WX} {b : Bool} {k : Nat} {e : Expr} {F : Env → O D} {p apos cpos pos : Pos}
end
section
variable {K : PySem.W.Frag} {W : WX}
end
end Rf
namespace Rf
open PySem PySem.Spec PyProof.Rows L2
section
variable {X : Cx} {M M' : List Nat} {W : WX} {own : List (Str × Nat)} {tg iter elt : Expr} {ifs : List Expr} {scope : Scope} {I : Env → O (List D)} {g : D → Env → Option Env} {T : Env → R Bool} {E : Env → R D}
end
end Rf
namespace Rf
open PySem PySem.Spec PyProof.Rows L2
section
variable {X : Cx} {M : List Nat} {W : WX} {k m : Nat} {x : Str} {ro : Bool} {io : List Nat} {g : List D → C} {p pos : Pos} {e : Expr} {es : List Expr} {as : List Arg}
theorem val_lst {K : PySem.W.Frag} {W : WX} : Val K W (fun vs _ H Q => vs.length ≤ sizeLine ∧ ∀ p, H p = none → Q (.ref p) (upd H p (.lst vs))) (fun ds => mkL (gLstD ds)) := by
  intro H Z σ vs ds Q n rp hp
  simp only [gLstD] at hp
  split at hp
  · rename_i hl
    refine ⟨by rw [rp.length]; exact hl, fun p hn => ?_⟩
    exact Po_new hp hn (.lst (fresh_vis n hn) (rp.mono (vis_mono (Ex.new hn))))
  · exact hp.elim
theorem se_lst {es : List Expr} {Fs : List (Env → R D)} (h : SEs X M W es Fs) (hs : noStar es = true := by rfl) : SE X M W (.List es pos) (nr (fun ds => mkL (gLstD ds)) Fs) := se_node (node_lst hs) val_lst h
end
end Rf
namespace Rf
open PySem PySem.Spec PyProof.Rows L2
section
variable {X : Cx} {G : Pl} {W : WX} {M' vs : List Nat} {e : Expr} {pos : Pos}
end
end Rf
namespace Rf
open PySem PySem.Spec PyProof.Rows L2
instance : Qk (List Key) := ⟨@instDecidableEqList Key (Qk.dec (κ := Key))⟩
section
variable {X : Cx} {pins : List (Addr × Obj)} {σ : L2.St} {H : Hp} {s : Shared} {a b : Addr} {y d v : V} {u r : Value} {o : Option V} {A : Around} {E : Value → Shared → Prop} {k : List Key}
end
section
variable {X : Cx} {o i e f : Expr} {apos pos cpos : Pos} {td ty tx : TE}
end
section
variable {K : PySem.W.Frag} {X : Cx} {M : List Nat} {G : Pl} {W : WX} {b : Bool} {pos apos cpos : Pos}
variable {i : Nat} {x : Str} {e ke : Expr} {F : Env → R D} {p1 : Pos}
end
section
variable {X : Cx} {M : List Nat} {W : WX} {b : Bool} {o e : Expr} {S F : Env → O D} {apos cpos : Pos}
end
end Rf
namespace Rf
open PySem PySem.Spec PyProof.Rows L2
section
variable {K : PySem.W.Frag} {W : WX}
end
end Rf
namespace Rf
open PySem PySem.Spec PyProof.Rows L2
section
variable {K : PySem.W.Frag} {H : Hp}
end
section
variable {X : Cx} {M : List Nat} {W : WX} {e : Expr}
end
section
variable {X : Cx} {M : List Nat} {W : WX} {b : Bool} {e : Expr} {F : Env → O D} {k : Nat}
end
end Rf
namespace Rf
open PySem PySem.Spec PyProof.Rows L2
section
variable {K : PySem.W.Frag} {H : Hp}
end
section
variable {X : Cx} {G : Pl} {W : WX} {tg : Expr} {x : Str} {px pos apos cpos : Pos} {i : Nat} {vs : List Nat} {g : D → Env → Option Env} {B : Env → Fl} {body : List Stmt}
end
end Rf
namespace Rf
open PySem PySem.Spec PyProof.Rows L2
section
variable {K : PySem.W.Frag} {W : WX}
end
section
variable {X : Cx} {M : List Nat} {W : WX} {b : Bool} {apos cpos : Pos}
end
section
variable {X : Cx} {M : List Nat} {W : WX} {b : Bool} {apos cpos : Pos}
end
end Rf
namespace Ns
open PySem PySem.Spec PyProof.Rows L2 Rf
section
variable {P : Program} {w : World} {A : Around} {E : Value → Shared → Prop} {s : Shared}
end
section
variable {X : Cx}
end
section
variable {P : Program} {w : World} {A : Around} {E : Value → Shared → Prop} {s : Shared} {a : Addr}
end
section
variable {X : Cx}
end
section
variable {X : Cx} {M : List Nat} {W : WX} {b : Bool} {k : Nat} {e : Expr} {F : Rf.Env → O D} {p p2 q pos : Pos}
end
end Ns
namespace Rf
open PySem PySem.Spec PyProof.Rows L2
section
variable {X : Cx} {G : Pl} {W : WX} {os : List Bool} {es tgs : List Expr} {Fs : List (Env → R D)} {is : List Nat} {pos pt pt2 : Pos} {kt k2 : Nat}
end
end Rf
namespace Rf
open PySem PySem.Spec PyProof.Rows L2
def lkD (a : Addr) (od : Obj) : HO := .frz od (.ext fun h => h.get? a = some od)
theorem inv_lockD {X : Cx} {pins : List (Addr × Obj)} {σ : L2.St} {H : Hp} {s : Shared} {d : Addr} (I : Inv X pins σ H s) (h : H d = some (.dK [])) : ∃ od, FdE od d ∧ Inv X pins σ (upd H d (lkD d od)) s := by
  have x := I.hok d _ h
  obtain ⟨_, sy, vs, kv, od, es, ep, e, ex, hd, _, pr, _⟩ := (show ObjOk X.prog X.w H s.heap d (.dK []) from x)
  cases kv
  have e0 : es = #[] := by
    obtain ⟨l⟩ := es
    cases pr
    rfl
  have new : ObjOk X.prog X.w (upd H d (lkD d od)) s.heap d (lkD d od) := ⟨e, e, ⟨od, e⟩, fun h1 h2 q k => k od q⟩
  exact ⟨od, ⟨ex.1, ⟨ep, by rw [hd, e0]⟩, sy⟩, I.write (x := d) (e := d) (t' := s.toks) (h' := s.heap) (by rw [h]; trivial) (.inl rfl) (fun b v _ q => q) ⟨od, e⟩ new⟩
def frzD (F : Env → R D) : Env → R D := fun env => match F env with
  | .ok (.dic []) e => .ok .fdc e
  | _ => .bad
def tFrzD (t : TE) : TE := fun σ H Q => t σ H fun v H1 => ∃ a, v = .ref a ∧ H1 a = some (.dK []) ∧ ∀ od, FdE od a → Q v (upd H1 a (lkD a od))
theorem dic_ow2 {K : PySem.W.Frag} {H : Hp} {v : V} {S : AS} (h : Ow K H v (.dic []) S) : ∃ a, v = .ref a ∧ H a = some (.dK []) ∧ S a := by
  cases h with
  | leaf i _ _ => simp [imm] at i
  | @dic a kvs _ _ _ h1 h2 h3 h4 h5 =>
    have : kvs = [] := by
      cases kvs with
      | nil => rfl
      | cons _ _ => cases h2
    subst this
    exact ⟨_, rfl, h1, (h5 _).mpr (.inl rfl)⟩
section
variable {X : Cx} {M : List Nat} {W : WX} {e : Expr}
theorem pe_frzD {t : TE} (h : PE X e t) : PE X e (tFrzD t) := by
  refine ⟨fun pins s σ H Q I hw => ?_⟩
  refine thn (h.run pins s σ H _ I hw) fun u s' ⟨x, H', I', rx, a, ex, hl, q⟩ => ?_
  obtain ⟨od, hc, I2⟩ := inv_lockD I' hl
  exact ⟨x, _, I2, rx, q od hc⟩
theorem SO.frzD {F : Env → R D} (h : SO X M W e F) : SE X M W e (frzD F) := by
  obtain ⟨t, p, q⟩ := h
  refine ⟨tFrzD t, pe_frzD p, fun σ H env U S r Q hp => q σ H env U S r _ ?_⟩
  unfold Rf.frzD at hp
  cases hF : F env with
  | exc c d e' => rw [hF] at hp; exact hp.elim
  | bad => rw [hF] at hp; exact hp.elim
  | ok d e' =>
    rw [hF] at hp
    cases d with
    | dic ds =>
     cases ds with
     | cons _ _ => exact hp.elim
     | nil =>
      simp only at hp
      intro v H' S' T po rl ow nu gr
      obtain ⟨a, rfl, hl, Ta⟩ := dic_ow2 ow
      refine ⟨a, rfl, hl, fun od hc => ?_⟩
      have st : Stay H' (upd H' a (lkD a od)) := ow_tup (K := X.K) (oth_at (by assumption))
      have rel : Rel X.K M U S' (upd H' a (lkD a od)) σ e' := by
        refine ⟨fun i d hi he => ?_, fun i d hi he => ?_, rl.dis, fun i b z u => rl.out i b z (.inl u), Nt.of (tab_upd rl.nt.tab (by assumption)) fun b z => ?_, rl.len⟩
        · obtain ⟨v, h1, h2⟩ := rl.own i d hi he
          refine ⟨v, h1, h2.carry st fun b o sb hb => ?_⟩
          have ne : b ≠ a := fun e => by rw [e] at sb; exact rl.out i a sb (.inr Ta)
          exact hb.upd ne (oth_at (by assumption))
        · obtain ⟨v, h1, h2⟩ := rl.frz i d hi he
          refine ⟨v, h1, h2.mono fun b o t hb => ?_⟩
          obtain ⟨w1, w2⟩ := of_vis hb
          have ne : b ≠ a := fun e => by rw [e] at w2; exact w2 (.inl (.inr Ta))
          refine vis_in (by rw [upd_ne ne]; exact w1) fun z => w2 ?_
          exact z.elim (fun z => .inl (.inl z)) .inr
        · have zb : zo (un U T) S' b := z.elim (fun z => .inl (.inl z)) .inr
          have ne : b ≠ a := fun e => by
            rw [e] at z
            rcases z with z | ⟨j, z⟩
            · exact nu a Ta z
            · exact rl.out j a z (.inr Ta)
          obtain ⟨n1, n2⟩ := rl.nt.hid b zb
          exact ⟨by rw [upd_ne ne]; exact n1, fun o q => n2 o (by rw [upd_ne ne] at q; exact q)⟩
      refine hp _ _ S' ⟨rel, fun b o hb nb => ?_, po.grow⟩ (.fdc (vis_in upd_same fun z => ?_) hc)
      · have hb' := po.keep b o hb nb
        have ne : b ≠ a := fun e => by
          rcases gr a Ta with ⟨j, z⟩ | z
          · exact nb j (by rw [e]; exact z)
          · exact hb.ne (by rw [e]; exact z)
        exact hb'.upd ne (oth_at (by assumption))
      · rcases z with z | ⟨j, z⟩
        · exact nu a Ta z
        · exact rl.out j a z (.inr Ta)
    | _ => exact hp.elim
end
section
variable {K : PySem.W.Frag} {W : WX} {H : Hp}
theorem RpL.rev : ∀ {vs : List V} {ds : List D}, RpL K H vs ds → RpL K H vs.reverse ds.reverse
  | _, _, .nil => .nil
  | _, _, .cons r t => by
    rw [List.reverse_cons, List.reverse_cons]
    exact (RpL.rev t).append (.cons r .nil)
end
def revS (z : Str) : Str := ⟨z.cps.toList.reverse.toArray⟩
def fRev : D → O D
  | .tup xs => .ok (.tup xs.reverse)
  | .str z => if z.length ≤ sizeLine then .ok (.str (revS z)) else .bad
  | _ => .bad
def rRev (K : PySem.W.Frag) (x : V) (H : Hp) (Q : VK) : Prop := (∃ a xs, x = .ref a ∧ SqT K H a xs ∧ ∀ p, H p = none → Q (.ref p) (upd H p (.tup xs.reverse))) ∨ ∃ z, x = .str z ∧ z.length ≤ sizeLine ∧ Q (.str (revS z)) H
def tRev (K : PySem.W.Frag) (te : TE) : TE := fun σ H Q => te σ H fun x H1 => rRev K x H1 Q
section
variable {prog : Program} {w : World} {A : Around} {E : Value → Shared → Prop} {s : Shared}
theorem sliceApplied_rev {sl : Addr} {vs : Value} {n : Nat} {Q : Int × Int × Nat → Shared → Prop} (hs : s.heap.IsSliceOf sl .none .none vs) (ps : IsPart vs (some (-1)))
    (h : Q ((n : Int) - 1, -1, n) s) : wpAny (model prog w) A (Builtin.Slice.sliceApplied (.ref sl) (pure (n : Int))) Q E s := by
  obtain ⟨os, hos, hcs, hds⟩ := id hs
  unfold Builtin.Slice.sliceApplied Builtin.Slice.sliceFields
  refine wpAny_bind (wpAny_bind (wpAny_field hos hds (x := .none) rfl (wpAny_bind (wpAny_field hos hds (x := .none) rfl (wpAny_bind (wpAny_field hos hds (x := vs) rfl (wpAny_pure ?_)))))))
  refine wpAny_bind (HT.slicePart_ ps ?_)
  show wpAny _ _ (if ((-1 : Int) == 0) = true then _ else _) _ _ s
  rw [if_neg (by decide)]
  refine wpAny_bind (HT.slicePart_ .none (wpAny_bind (HT.slicePart_ .none (wpAny_bind (wpAny_pure ?_)))))
  have e1 : Builtin.Slice.sliceAdjust none none (-1) (n : Int) = ((n : Int) - 1, -1) := rfl
  have e2 : Builtin.Slice.slicePlaces ((n : Int) - 1) (-1) (-1) = n := by
    unfold Builtin.Slice.slicePlaces
    have h1 : ¬ ((-1 : Int) > 0) := by omega
    have h2 : (-(-1 : Int)) = 1 := by omega
    simp only [h1, if_false, h2, Int.ediv_one]
    split <;> omega
  show wpAny _ _ (match Builtin.Slice.sliceAdjust none none (-1) (n : Int) with | (lo, hi) => pure (lo, (-1 : Int), Builtin.Slice.slicePlaces lo hi (-1))) _ _ s
  rw [e1]
  show wpAny _ _ (pure ((n : Int) - 1, (-1 : Int), Builtin.Slice.slicePlaces ((n : Int) - 1) (-1) (-1))) _ _ s
  rw [e2]
  exact wpAny_pure h
theorem pick_rev (xs : Array Value) : ((List.range xs.size).filterMap fun (m : Nat) => xs[(((xs.size : Int) - 1) + (m : Int) * (-1)).toNat]?).toArray = xs.toList.reverse.toArray := by
  have e : (fun (m : Nat) => xs[(((xs.size : Int) - 1) + (m : Int) * (-1)).toNat]?) = (fun k => xs[k]?) ∘ fun (m : Nat) => (((xs.size : Int) - 1) + (m : Int) * (-1)).toNat := rfl
  rw [e, ← List.filterMap_map]
  have e2 : (List.range xs.size).map (fun (m : Nat) => (((xs.size : Int) - 1) + (m : Int) * (-1)).toNat) = (List.range xs.size).map (fun k => xs.size - 1 - k) := by
    apply List.map_congr_left
    intro m hm
    have := List.mem_range.mp hm
    omega
  rw [e2, PySem.W.krv_range, List.filterMap_reverse, PySem.W.krv_all]
theorem getItem_tuple_rev {t sl : Addr} {items : Array Value} {vs : Value} {Q : Value → Shared → Prop} (ht : IsTup s.heap t items) (hs : s.heap.IsSliceOf sl .none .none vs) (ps : IsPart vs (some (-1)))
    (h : Q (.ref s.heap.objs.size) { s with heap := s.heap.push { cls := .type "tuple", data := .seq items.toList.reverse.toArray } })
    (hsz : items.size ≤ sizeLine) : wpAny (model prog w) A (getItem (.ref t) (.ref sl)) Q E s := by
  have htake : sizeOk (.seq items.toList.reverse.toArray) := by
    show items.toList.reverse.toArray.size ≤ sizeLine
    rw [List.size_toArray, List.length_reverse, Array.length_toList]
    exact hsz
  obtain ⟨os, hos, hcs, hds⟩ := id hs
  have hTs : s.TypeIs (.ref sl) "slice" := ⟨os, hos, hcs⟩
  unfold getItem
  try with_reducible refine wpAny_holding ?_
  first | refine wpAny_bind (wpAny_pure ?_) | skip
  refine wpAny_bind (wpAny_sequenceKey ht.typeIs (by decide) ?_)
  refine wpAny_bind (wpAny_callSpecial?_slot (name := Str.ofString "__getitem__") ht.typeIs PyProof.Rows.slot_tuple_getitem
    (wpAny_call_entry PyProof.Rows.slot_tuple_getitem ht.typeIs entry_tuple_getitem ?_ (args_tuple_getitem _ _)))
  show wpAny _ _ (Builtin.Tuple.tupleItemsOf (.ref t) >>= _) _ _ s
  refine wpAny_bind (tupleItemsOf_ ht ?_)
  refine wpAny_bind (wpAny_typeOf hTs ?_)
  rw [if_pos (by decide)]
  refine wpAny_bind (sliceApplied_rev hs ps ?_)
  have hno : ¬ ((((items.size : Int) - 1) == 0 && (-1 : Int) == 1 && items.size == items.size) = true) := by
    intro q
    rw [Bool.and_eq_true, Bool.and_eq_true] at q
    exact absurd q.1.2 (by decide)
  show wpAny _ _ (if (((items.size : Int) - 1) == 0 && (-1 : Int) == 1 && items.size == items.size) = true then _ else _) _ _ s
  rw [if_neg hno, pick_rev]
  first
    | exact wpAny_bind (m := Builtin.Tuple.tupleExact _) (wpAny_newObj_type (wpAny_pure ⟨_, rfl, wpAny_pure h⟩) htake)
    | exact wpAny_bind (m := Builtin.Tuple.tupleExact _) (wpAny_newObj_type (wpAny_bind (wpAny_pure (wpAny_pure ⟨_, rfl, wpAny_pure h⟩))) htake)
    | exact wpAny_bind (wpAny_bind (m := Builtin.Tuple.tupleExact _) (wpAny_newObj_type (wpAny_pure (wpAny_pure ⟨_, rfl, wpAny_pure h⟩)) htake))
    | exact wpAny_bind (wpAny_bind (m := Builtin.Tuple.tupleExact _) (wpAny_newObj_type (wpAny_pure ⟨_, rfl, wpAny_pure h⟩) htake))
end
theorem sidx_rev (n : Nat) : Builtin.Str.strSliceIndices none none (-1) n = (List.range n).reverse := by
  rw [← PySem.W.krv_range, ← PySem.W.krv_sliceRange]
  rfl
theorem pick_revS (z : Str) : ((Builtin.Str.strSliceIndices none none (-1) z.length).filterMap (z.cps[·]?)).toArray = z.cps.toList.reverse.toArray := by
  rw [sidx_rev, List.filterMap_reverse]
  have := PySem.W.krv_all z.cps
  rw [show z.length = z.cps.size from rfl, this]
section
variable {X : Cx} {M : List Nat} {W : WX} {b : Bool} {e : Expr}
theorem pe_rev {te : TE} {k : Nat} {p1 p2 p3 pos : Pos} (he : PE X e te) : PE X (.Subscript e (.Slice none none (some (.UnaryOp .USub (.Constant (.int 1) k p1) p2)) p3) pos) (tRev X.K te) := by
  refine ⟨fun pins s σ H Q I h => ?_⟩
  refine Subscript_ (thn (he.run pins s σ H _ I h) fun v s1 ⟨x, H1, I1, r1, q1⟩ => ?_)
  have hst : PO X (some (.UnaryOp .USub (.Constant (.int 1) k p1) p2)) (tPart (tUn (rU fun i => .int (-i)) (tC (.int 1)))) := po_some (pe_un un_neg pe_int)
  refine wpAny_Slice (thn (po_none.run pins s1 σ H1 (fun o H2 => o = none ∧ H2 = H1) I1 ⟨rfl, rfl⟩) fun vl s2 ⟨l, H2, I2, pl, el, e2⟩ => ?_)
  subst el e2
  refine thn (po_none.run pins s2 σ H2 (fun o H3 => o = none ∧ H3 = H2) I2 ⟨rfl, rfl⟩) fun vu s3 ⟨u, H3, I3, pu, eu, e3⟩ => ?_
  subst eu e3
  refine thn (hst.run pins s3 σ H3 (fun o H4 => o = some (-1) ∧ H4 = H3) I3 ⟨1, rfl, -1, rfl, rfl, rfl⟩) fun vs s4 ⟨o, H4, I4, ps, eo, e4⟩ => ?_
  subst eo e4
  have I5 : Inv X pins σ H4 { s4 with heap := s4.heap.push { cls := .type "slice", data := .fields #[vl, vu, vs] } } := I4.kept (t' := s4.toks) fun b ob q => Heap.get?_push_of_some _ q
  cases pl
  cases pu
  rcases q1 with ⟨a, xs, ex, hx, q⟩ | ⟨z, ex, hz, q⟩
  · subst ex
    cases r1
    obtain ⟨its, r, ht, hz⟩ := I5.tuple hx
    have hlen := r.length
    show wpAny (model X.prog X.w) X.A (subscriptTail e (.Slice none none (some (.UnaryOp .USub (.Constant (.int 1) k p1) p2)) p3) (.ref a) (.ref s4.heap.objs.size)) (EP X pins σ Q) X.xe { s4 with heap := s4.heap.push { cls := .type "slice", data := .fields #[.none, .none, vs] } }
    refine tail_any (ops := [.ref a, .ref s4.heap.objs.size]) ht.typeIs (PyProof.Rows.slot_tuple_getitem.lookup) ?_ (by with_unfolding_all rfl)
    refine getItem_tuple_rev ht (Heap.IsSliceOf.new _ .none .none vs) ps ?_ (by rw [List.size_toArray]; omega)
    refine ⟨.ref _, _, I5.laid (t' := s4.toks) (o := .tup xs.reverse) (fun b ob q => Heap.get?_push_of_some _ q) (Nat.le_refl _) ?_, rfl, q _ (I5.hok.fresh (Nat.le_refl _))⟩
    exact ⟨by rw [List.length_reverse]; exact hz, _, r.reverse, IsTup.new _ _⟩
  · subst ex
    obtain ⟨t, rfl⟩ := r1
    obtain ⟨i, t2, rfl⟩ : ∃ i t2, vs = .int i t2 := by cases ps; exact ⟨_, _, rfl⟩
    cases ps
    show wpAny (model X.prog X.w) X.A (subscriptTail e (.Slice none none (some (.UnaryOp .USub (.Constant (.int 1) k p1) p2)) p3) (.str z t) (.ref s4.heap.objs.size)) (EP X pins σ Q) X.xe { s4 with heap := s4.heap.push { cls := .type "slice", data := .fields #[.none, .none, .int (-1) t2] } }
    refine tail_any (ops := [.str z t, .ref s4.heap.objs.size]) (typeIs_str _ _ _) F.slot_str_getitem.lookup ?_ (by with_unfolding_all rfl)
    refine wpAny_getItem_str_slice (l := none) (u := none) (st := some (-1, t2)) ⟨_, Heap.get?_push_size _ rfl, rfl, rfl⟩ rfl ?_
    show Made.post (if ((-1 : Int) == 1 && _) = true then Made.val (.str z t) else Made.str ⟨((Builtin.Str.strSliceIndices none none (-1) z.length).filterMap (z.cps[·]?)).toArray⟩) (EP X pins σ Q) _
    rw [if_neg (by rw [show ((-1 : Int) == 1) = false from rfl]; simp), pick_revS]
    have hl : (revS z).length ≤ sizeLine := by
      show z.cps.toList.reverse.toArray.size ≤ sizeLine
      rw [List.size_toArray, List.length_reverse, Array.length_toList]
      exact hz
    exact ⟨hl, .str (revS z), H4, I5.tok _, ⟨_, rfl⟩, q⟩
theorem sp_rev {k : Nat} {p1 p2 p3 pos : Pos} {F : Env → O D} (h : SP X M W b e F) : SP X M W b (.Subscript e (.Slice none none (some (.UnaryOp .USub (.Constant (.int 1) k p1) p2)) p3) pos) (nd (g1 fRev) [F]) := by
  obtain ⟨t, pp, q⟩ := h
  refine ⟨_, pe_rev pp, fun σ H env U S r Q hp => q σ H env U S r _ ?_⟩
  have hp' : Po X.K W (zb b U S) H σ (rpZ X.K (zb b U S)) Q ((F env).bind fun d => fRev d) := by
    have : nd (g1 fRev) [F] env = (F env).bind fun d => fRev d := by
      unfold nd seqF seqF
      cases F env <;> rfl
    rw [← this]
    exact hp
  refine Po.step hp' fun d v H1 _ e1 r1 h1 => ?_
  have n1 := (r.ntb b).new e1
  cases r1 with
  | @tup a vs ds ha rr =>
    refine .inl ⟨a, vs, rfl, SqT.up ha, fun p hn => ?_⟩
    exact Po_new h1 hn (.tup (SqQ.of (fresh_vis n1 hn)) (rr.rev.mono (vis_mono (Ex.new hn))))
  | str z =>
    simp only [fRev] at h1
    split at h1
    · rename_i hz
      exact .inr ⟨z, rfl, hz, h1 _ H1 (Ex.refl H1) (.str _)⟩
    · exact h1.elim
  | _ => exact h1.elim
end
section
variable {P : Program} {w : World} {K : PySem.W.Frag} {mg : Str → Option Value} {base : Heap} {x qual : Str} {params : Arguments} {body : List Stmt} {scope : Scope} {dvs : List V} {kws : List (Str × V)} {f : Addr} {fd : FuncData}
theorem fn_bad {N ps : List Str} {k : Nat} {io : List Nat} {ro : Bool} (F : FunD K x qual params body scope dvs kws f fd) (SC : FnScope N ps scope) : FnOk P w K mg base (L2.CX P w) (k + 1) f fd ps (spC K ps.length io ro fun _ => .bad) := by
  refine F.ok SC (fun vs H Q E h => h.1) fun cdv A outer s H vs Q E hr h => ?_
  obtain ⟨hl, ds, U, S, hd, rel, po⟩ := h
  exact (show False from po).elim
end
def rReprS (K : PySem.W.Frag) : List V → Hp → VK → Prop := fun vs H Q => rReprD K vs H Q ∨ (∃ b, vs = [.bl b] ∧ Q (.str (if b then "True" else "False")) H) ∨ (vs = [.non] ∧ Q (.str "None") H) ∨ ∃ i, vs = [.int i] ∧ i.natAbs.log2 < 1920 ∧ Q (.str (Str.ofString (toString i))) H
theorem cr_reprS {X : Cx} (gg : X.A.guards = some []) (hu : X.A.units + 65 < cLine) : CallR X (.builtin "repr") (rReprS X.K) := by
  intro pins s σ H vs us Q I r h
  rcases h with h | ⟨b, rfl, q⟩ | ⟨rfl, q⟩ | ⟨i, rfl, hi, q⟩
  · exact cr_reprD gg hu pins s σ H vs us Q I r h
  · obtain ⟨u, rfl, ru⟩ := vals1 r
    obtain rfl : u = Value.bool b := ru
    exact PySem.P.repr_of_bool ⟨.str _, H, I.tok _, ⟨_, rfl⟩, q⟩
  · obtain ⟨u, rfl, ru⟩ := vals1 r
    obtain rfl : u = Value.none := ru
    exact PySem.P.repr_of_none ⟨.str _, H, I.tok _, ⟨_, rfl⟩, q⟩
  · obtain ⟨u, rfl, ru⟩ := vals1 r
    obtain ⟨t, rfl⟩ := ru
    exact PySem.P.repr_of_int hi ⟨.str _, H, I.tok _, ⟨_, rfl⟩, q⟩
def fReprS : D → O D
  | .bl b => .ok (.str (if b then "True" else "False"))
  | .non => .ok (.str "None")
  | .int i => if i.natAbs.log2 < 1920 then .ok (.str (Str.ofString (toString i))) else .bad
  | d => fRepr d
theorem vc_reprS {K : PySem.W.Frag} {W : WX} : VC1 K W (rReprS K) fReprS := by
  intro H Z σ x d Q n h hp
  cases h with
  | bl b => exact .inr (.inl ⟨b, rfl, hp _ H (Ex.refl H) (.str _)⟩)
  | non => exact .inr (.inr (.inl ⟨rfl, hp _ H (Ex.refl H) (.str _)⟩))
  | int i =>
    simp only [fReprS] at hp
    split at hp
    · rename_i hi
      exact .inr (.inr (.inr ⟨i, rfl, hi, hp _ H (Ex.refl H) (.str _)⟩))
    · exact hp.elim
  | tup a b => exact .inl (vc_reprD H Z σ _ _ Q n (.tup a b) hp)
  | lst a b => exact .inl (vc_reprD H Z σ _ _ Q n (.lst a b) hp)
  | fls a b => exact .inl (vc_reprD H Z σ _ _ Q n (.fls a b) hp)
  | _ => exact hp.elim
end Rf
namespace Rf
open PySem PySem.Spec PyProof.Rows L2
section
variable {K : PySem.W.Frag} {X : Cx} {M : List Nat} {W : WX} {b : Bool} {e : Expr} {lo : Option Expr}
end
section
variable {X : Cx} {M : List Nat} {W : WX} {b : Bool} {e e2 : Expr} {F F2 : Env → O D} {elts : List Expr} {kk} {tpos p pos : Pos}
end
end Rf
namespace Ns
open PySem PySem.Spec PyProof.Rows L2 Rf
section
variable {P : Program} {w : World} {A : Around} {E : Value → Shared → Prop} {s : Shared}
end
section
variable {X : Cx}
end
section
variable {X : Cx} {M : List Nat} {W : WX} {b : Bool} {k : Nat} {e : Expr} {F : Rf.Env → O D} {p p2 q pos : Pos}
end
end Ns
namespace Rf
open PySem PySem.Spec PyProof.Rows L2
section
variable {X : Cx} {M : List Nat} {W : WX} {b : Bool} {e e2 : Expr} {F F2 : Env → O D} {elts : List Expr} {kk} {tpos p pos : Pos}
end
end Rf
namespace Rf
open PySem PySem.Spec PyProof.Rows L2
mutual
def pdF : Nat → D → Bool
  | _, .non => true
  | _, .bl _ => true
  | _, .int _ => true
  | _, .str x => okL x.cps.toList
  | n + 1, .tup xs => pdFL n xs
  | n + 1, .lst xs => pdFL n xs
  | n + 1, .fls xs => pdFL n xs
  | _, _ => false
def pdFL : Nat → List D → Bool
  | _, [] => true
  | n, x :: xs => pdF n x && pdFL n xs
end
mutual
def toPF : D → PyData
  | .bl b => .bool b
  | .int i => .int i
  | .str x => .str x
  | .tup xs => .tuple (toPFL xs)
  | .lst xs => .list (toPFL xs)
  | .fls xs => .list (toPFL xs)
  | _ => .none
def toPFL : List D → List PyData
  | [] => []
  | x :: xs => toPF x :: toPFL xs
end
section
variable {K : PySem.W.Frag} {H : Hp}
mutual
theorem pdF_dp : ∀ (n : Nat) (d : D) (v : V), pdF n d = true → Rp K H v d → Dp K H v (toPF d)
  | n, .non, _, _, .non => by simp only [toPF]; exact .non
  | n, .bl _, _, _, .bl b => by simp only [toPF]; exact .bl b
  | n, .int _, _, _, .int i => by simp only [toPF]; exact .int i
  | n, .str _, _, _, .str x => by simp only [toPF]; exact .str x
  | 0, .tup _, _, h, .tup _ _ => by simp [pdF] at h
  | n + 1, .tup xs, _, h, .tup a r => by simp only [toPF]; exact .tup a (pdFL_dp n xs _ (by simpa [pdF] using h) r)
  | 0, .lst _, _, h, .lst _ _ => by simp [pdF] at h
  | n + 1, .lst xs, _, h, .lst a r => by simp only [toPF]; exact .lst (SqL.of a) (pdFL_dp n xs _ (by simpa [pdF] using h) r)
  | 0, .fls _, _, h, .fls _ _ => by simp [pdF] at h
  | n + 1, .fls xs, _, h, .fls a r => by simp only [toPF]; exact .lst (sql_frz a) (pdFL_dp n xs _ (by simpa [pdF] using h) r)
  | n, .scr _, _, h, _ => by simp [pdF] at h
  | n, .dic _, _, h, _ => by simp [pdF] at h
  | n, .dtt _, _, h, _ => by simp [pdF] at h
  | n, .fdc, _, h, _ => by simp [pdF] at h
  | n, .ins _ _, _, h, _ => by simp [pdF] at h
  | n, .exc _ _, _, h, _ => by simp [pdF] at h
  | n, .clo _ _ _, _, h, _ => by simp [pdF] at h
  | n, .clv _ _ _, _, h, _ => by simp [pdF] at h
  | n, .slt _ _, _, h, _ => by simp [pdF] at h
theorem pdFL_dp : ∀ (n : Nat) (d : List D) (v : List V), pdFL n d = true → RpL K H v d → DpAll K H v (toPFL d)
  | n, [], _, _, .nil => by simp only [toPFL]; exact .nil
  | n, x :: xs, _, h, .cons r t => by
    simp only [pdFL, Bool.and_eq_true] at h
    simp only [toPFL]
    exact .cons (pdF_dp n x _ h.1 r) (pdFL_dp n xs _ h.2 t)
end
end
mutual
theorem pdF_lay : ∀ (n : Nat) (d : D), pdF n d = true → (toPF d).canLay0 = true ∧ (toPF d).depth ≤ n
  | n, .non, _ => by simp [toPF, PyData.canLay0, PyData.depth]
  | n, .bl _, _ => by simp [toPF, PyData.canLay0, PyData.depth]
  | n, .int _, _ => by simp [toPF, PyData.canLay0, PyData.depth]
  | n, .str _, h => by simpa [toPF, PyData.canLay0, PyData.depth, pdF, okL_eq] using h
  | 0, .tup _, h => by simp [pdF] at h
  | n + 1, .tup xs, h => by
    have := pdFL_lay n xs (by simpa [pdF] using h)
    simp only [toPF, PyData.canLay0, PyData.depth]
    exact ⟨this.1, by omega⟩
  | 0, .lst _, h => by simp [pdF] at h
  | n + 1, .lst xs, h => by
    have := pdFL_lay n xs (by simpa [pdF] using h)
    simp only [toPF, PyData.canLay0, PyData.depth]
    exact ⟨this.1, by omega⟩
  | 0, .fls _, h => by simp [pdF] at h
  | n + 1, .fls xs, h => by
    have := pdFL_lay n xs (by simpa [pdF] using h)
    simp only [toPF, PyData.canLay0, PyData.depth]
    exact ⟨this.1, by omega⟩
  | n, .scr _, h => by simp [pdF] at h
  | n, .dic _, h => by simp [pdF] at h
  | n, .dtt _, h => by simp [pdF] at h
  | n, .fdc, h => by simp [pdF] at h
  | n, .ins _ _, h => by simp [pdF] at h
  | n, .exc _ _, h => by simp [pdF] at h
  | n, .clo _ _ _, h => by simp [pdF] at h
  | n, .clv _ _ _, h => by simp [pdF] at h
  | n, .slt _ _, h => by simp [pdF] at h
theorem pdFL_lay : ∀ (n : Nat) (d : List D), pdFL n d = true → PyData.canLayAll0 (toPFL d) = true ∧ PyData.depthAll (toPFL d) ≤ n
  | n, [], _ => by simp [toPFL, PyData.canLayAll0, PyData.depthAll]
  | n, x :: xs, h => by
    simp only [pdFL, Bool.and_eq_true] at h
    have h1 := pdF_lay n x h.1
    have h2 := pdFL_lay n xs h.2
    simp only [toPFL, PyData.canLayAll0, PyData.depthAll]
    exact ⟨by simp [h1.1, h2.1], by omega⟩
end
def okRpF (d : D) : Bool := pdF 59 d && ((toPF d).showable && decide ((toPF d).shown.length ≤ sizeLine))
def fReprX : D → O D
  | .bl b => .ok (.str (if b then "True" else "False"))
  | .non => .ok (.str "None")
  | .int i => if i.natAbs.log2 < 1920 then .ok (.str (Str.ofString (toString i))) else .bad
  | .str x => if (reprText x).length ≤ sizeLine then .ok (.str (reprText x)) else .bad
  | .tup xs => if okRpF (.tup xs) then .ok (.str (toPF (.tup xs)).shown) else .bad
  | .lst xs => if okRpF (.lst xs) then .ok (.str (toPF (.lst xs)).shown) else .bad
  | .fls xs => if okRpF (.fls xs) then .ok (.str (toPF (.fls xs)).shown) else .bad
  | .fdc => .ok (.str (PyData.dict []).shown)
  | _ => .bad
def rReprX (K : PySem.W.Frag) : List V → Hp → VK → Prop := fun vs H Q => rReprS K vs H Q ∨ (∃ x, vs = [.str x] ∧ (reprText x).length ≤ sizeLine ∧ Q (.str (reprText x)) H) ∨
  (∃ (a : Addr) (d : D) (H0 : Hp), vs = [.ref a] ∧ Exo H0 H ∧ Rp K H0 (.ref a) d ∧ okRpF d = true ∧ Q (.str (toPF d).shown) H) ∨ ∃ (a : Addr) (od : Obj) (φ : Heap → Prop), vs = [.ref a] ∧ H a = some (.frz od (.ext φ)) ∧ FdE od a ∧ Q (.str (PyData.dict []).shown) H
theorem cr_reprX {X : Cx} (gg : X.A.guards = some []) (hu : X.A.units + 65 < cLine) : CallR X (.builtin "repr") (rReprX X.K) := by
  intro pins s σ H vs us Q I r h
  rcases h with h | ⟨x, rfl, hz, q⟩ | ⟨a, d, H0, rfl, e0, rp, ok, q⟩ | ⟨a, od, φ, rfl, ha, fd, q⟩
  · exact cr_reprS gg hu pins s σ H vs us Q I r h
  · obtain ⟨u, rfl, ru⟩ := vals1 r
    obtain ⟨t, rfl⟩ := ru
    exact PySem.P.repr_of_str ⟨.str _, H, I.tok _, ⟨_, rfl⟩, q⟩ hz
  · obtain ⟨u, rfl, ru⟩ := vals1 r
    obtain rfl : u = Value.ref a := ru
    simp only [okRpF, Bool.and_eq_true, decide_eq_true_eq] at ok
    obtain ⟨ok1, ok2, ok3⟩ := ok
    obtain ⟨as, rd⟩ := Dp.reads I _ _ _ (pdF_dp 59 d _ ok1 (rp.mono e0)) rfl
    have lay := pdF_lay 59 d ok1
    have nd : (toPF d).hasDict = false := PyData.hasDict_of_canLay _ lay.1
    have dp := lay.2
    exact repr_of_reads' rd ok2 (fun z => absurd (nd.symm.trans z) Bool.false_ne_true) gg (by omega) (fun _ _ z => z) (fun h' t tk hk => ⟨.str _, H, I.kept hk, ⟨t, rfl⟩, q⟩) ok3
  · obtain ⟨u, rfl, ru⟩ := vals1 r
    obtain rfl : u = Value.ref a := ru
    obtain ⟨n, hn⟩ := fd.data
    obtain ⟨e, _⟩ := (show ObjOk X.prog X.w H s.heap a (.frz od (.ext φ)) from I.hok a _ ha)
    have rd : Reads s.heap (.ref a) (.dict []) (a :: [] ++ []) := Reads.dict e fd.cls hn .nil .nil
    have ns : sysModules ∉ (a :: [] ++ [] : List Addr) := fun z => by
      have z : sysModules = a := by simpa using z
      have := fd.sys
      rw [z] at this
      simp at this
    exact repr_of_reads' rd (by decide +kernel) (fun _ => ns) gg (by show X.A.units + (1 + 1) < cLine; omega) (fun _ _ z => z) (fun h' t tk hk => ⟨.str _, H, I.kept hk, ⟨t, rfl⟩, q⟩) (by decide +kernel)
theorem vc_reprX {K : PySem.W.Frag} {W : WX} : VC1 K W (rReprX K) fReprX := by
  intro H Z σ x d Q n h hp
  cases h with
  | bl b => exact .inl (vc_reprS H Z σ _ _ Q n (.bl b) hp)
  | non => exact .inl (vc_reprS H Z σ _ _ Q n .non hp)
  | int i => exact .inl (vc_reprS H Z σ _ _ Q n (.int i) hp)
  | str x =>
    simp only [fReprX] at hp
    split at hp
    · rename_i ok
      exact .inr (.inl ⟨x, rfl, ok, hp _ H (Ex.refl H) (.str _)⟩)
    · exact hp.elim
  | @tup a vs xs ha r =>
    simp only [fReprX] at hp
    split at hp
    · rename_i ok
      exact .inr (.inr (.inl ⟨a, _, vis H Z, rfl, vis_ex, .tup ha r, ok, hp _ H (Ex.refl H) (.str _)⟩))
    · exact hp.elim
  | @lst a vs xs ha r =>
    simp only [fReprX] at hp
    split at hp
    · rename_i ok
      exact .inr (.inr (.inl ⟨a, _, vis H Z, rfl, vis_ex, .lst ha r, ok, hp _ H (Ex.refl H) (.str _)⟩))
    · exact hp.elim
  | @fls a od vs xs ha r =>
    simp only [fReprX] at hp
    split at hp
    · rename_i ok
      exact .inr (.inr (.inl ⟨a, _, vis H Z, rfl, vis_ex, .fls ha r, ok, hp _ H (Ex.refl H) (.str _)⟩))
    · exact hp.elim
  | @fdc a od φ ha fd => exact .inr (.inr (.inr ⟨a, od, φ, rfl, of_some_vis ha, fd, hp _ H (Ex.refl H) (.str _)⟩))
  | _ => exact hp.elim
end Rf
namespace K00
open PySem PySem.Spec PyProof.Rows L2 Rf Pg Ns
structure Fc (K : PySem.W.Frag) (mg : Str → Option Value) : Prop where
  n_len : mg "len" = none
  n_abs : mg "abs" = none
  n_all : mg "all" = none
  n_any : mg "any" = none
  n_sum : mg "sum" = none
  n_int : mg "int" = none
  n_str : mg "str" = none
  n_tuple : mg "tuple" = none
  n_list : mg "list" = none
  n_sorted : mg "sorted" = none
  n_min : mg "min" = none
  n_max : mg "max" = none
  n_range : mg "range" = none
  n_enumerate : mg "enumerate" = none
  n_zip : mg "zip" = none
  n_isinstance : mg "isinstance" = none
  n_bool : mg "bool" = none
  n_set : mg "set" = none
  n_dict : mg "dict" = none
  n_repr : mg "repr" = none
  n_ValueError : mg "ValueError" = none
  x_er : ∀ y ∈ erL, ExcC K (He.ga K y)
  v_er : ∀ y ∈ erL, PySem.W.findIn K (.ref (He.ga K y)) "value" = some none
  g_BadBook : mg "BadBook" = some (.ref (He.ga K "BadBook"))
  i_BadBook : ∀ y ∈ erL, PySem.W.kitOne K (.ref (He.ga K y)) (.ref (He.ga K "BadBook")) = some (pE "BadBook" y)
  t_BadBook : ∀ t ∈ tagsB, PySem.W.kitOne K (.type t) (.ref (He.ga K "BadBook")) = some false
  g_NoRole : mg "NoRole" = some (.ref (He.ga K "NoRole"))
  i_NoRole : ∀ y ∈ erL, PySem.W.kitOne K (.ref (He.ga K y)) (.ref (He.ga K "NoRole")) = some (pE "NoRole" y)
  t_NoRole : ∀ t ∈ tagsB, PySem.W.kitOne K (.type t) (.ref (He.ga K "NoRole")) = some false
  g_BadRule : mg "BadRule" = some (.ref (He.ga K "BadRule"))
  i_BadRule : ∀ y ∈ erL, PySem.W.kitOne K (.ref (He.ga K y)) (.ref (He.ga K "BadRule")) = some (pE "BadRule" y)
  t_BadRule : ∀ t ∈ tagsB, PySem.W.kitOne K (.type t) (.ref (He.ga K "BadRule")) = some false
  g_Full : mg "Full" = some (.ref (He.ga K "Full"))
  i_Full : ∀ y ∈ erL, PySem.W.kitOne K (.ref (He.ga K y)) (.ref (He.ga K "Full")) = some (pE "Full" y)
  t_Full : ∀ t ∈ tagsB, PySem.W.kitOne K (.type t) (.ref (He.ga K "Full")) = some false
  g_NoRule : mg "NoRule" = some (.ref (He.ga K "NoRule"))
  i_NoRule : ∀ y ∈ erL, PySem.W.kitOne K (.ref (He.ga K y)) (.ref (He.ga K "NoRule")) = some (pE "NoRule" y)
  t_NoRule : ∀ t ∈ tagsB, PySem.W.kitOne K (.type t) (.ref (He.ga K "NoRule")) = some false
  g_BadRight : mg "BadRight" = some (.ref (He.ga K "BadRight"))
  i_BadRight : ∀ y ∈ erL, PySem.W.kitOne K (.ref (He.ga K y)) (.ref (He.ga K "BadRight")) = some (pE "BadRight" y)
  t_BadRight : ∀ t ∈ tagsB, PySem.W.kitOne K (.type t) (.ref (He.ga K "BadRight")) = some false
  g_BadRoles : mg "BadRoles" = some (.ref (He.ga K "BadRoles"))
  i_BadRoles : ∀ y ∈ erL, PySem.W.kitOne K (.ref (He.ga K y)) (.ref (He.ga K "BadRoles")) = some (pE "BadRoles" y)
  t_BadRoles : ∀ t ∈ tagsB, PySem.W.kitOne K (.type t) (.ref (He.ga K "BadRoles")) = some false
  g_BadHand : mg "BadHand" = some (.ref (He.ga K "BadHand"))
  i_BadHand : ∀ y ∈ erL, PySem.W.kitOne K (.ref (He.ga K y)) (.ref (He.ga K "BadHand")) = some (pE "BadHand" y)
  t_BadHand : ∀ t ∈ tagsB, PySem.W.kitOne K (.type t) (.ref (He.ga K "BadHand")) = some false
  g_BadDealing : mg "BadDealing" = some (.ref (He.ga K "BadDealing"))
  i_BadDealing : ∀ y ∈ erL, PySem.W.kitOne K (.ref (He.ga K y)) (.ref (He.ga K "BadDealing")) = some (pE "BadDealing" y)
  t_BadDealing : ∀ t ∈ tagsB, PySem.W.kitOne K (.type t) (.ref (He.ga K "BadDealing")) = some false
  g_NoDuty : mg "NoDuty" = some (.ref (He.ga K "NoDuty"))
  i_NoDuty : ∀ y ∈ erL, PySem.W.kitOne K (.ref (He.ga K y)) (.ref (He.ga K "NoDuty")) = some (pE "NoDuty" y)
  t_NoDuty : ∀ t ∈ tagsB, PySem.W.kitOne K (.type t) (.ref (He.ga K "NoDuty")) = some false
  g_NotKept : mg "NotKept" = some (.ref (He.ga K "NotKept"))
  i_NotKept : ∀ y ∈ erL, PySem.W.kitOne K (.ref (He.ga K y)) (.ref (He.ga K "NotKept")) = some (pE "NotKept" y)
  t_NotKept : ∀ t ∈ tagsB, PySem.W.kitOne K (.type t) (.ref (He.ga K "NotKept")) = some false
  g_BadStaff : mg "BadStaff" = some (.ref (He.ga K "BadStaff"))
  i_BadStaff : ∀ y ∈ erL, PySem.W.kitOne K (.ref (He.ga K y)) (.ref (He.ga K "BadStaff")) = some (pE "BadStaff" y)
  t_BadStaff : ∀ t ∈ tagsB, PySem.W.kitOne K (.type t) (.ref (He.ga K "BadStaff")) = some false
  g_TooMany : mg "TooMany" = some (.ref (He.ga K "TooMany"))
  i_TooMany : ∀ y ∈ erL, PySem.W.kitOne K (.ref (He.ga K y)) (.ref (He.ga K "TooMany")) = some (pE "TooMany" y)
  t_TooMany : ∀ t ∈ tagsB, PySem.W.kitOne K (.type t) (.ref (He.ga K "TooMany")) = some false
  g_OtherSize : mg "OtherSize" = some (.ref (He.ga K "OtherSize"))
  i_OtherSize : ∀ y ∈ erL, PySem.W.kitOne K (.ref (He.ga K y)) (.ref (He.ga K "OtherSize")) = some (pE "OtherSize" y)
  t_OtherSize : ∀ t ∈ tagsB, PySem.W.kitOne K (.type t) (.ref (He.ga K "OtherSize")) = some false
  g_BadOffers : mg "BadOffers" = some (.ref (He.ga K "BadOffers"))
  i_BadOffers : ∀ y ∈ erL, PySem.W.kitOne K (.ref (He.ga K y)) (.ref (He.ga K "BadOffers")) = some (pE "BadOffers" y)
  t_BadOffers : ∀ t ∈ tagsB, PySem.W.kitOne K (.type t) (.ref (He.ga K "BadOffers")) = some false
  g_NoPerson : mg "NoPerson" = some (.ref (He.ga K "NoPerson"))
  i_NoPerson : ∀ y ∈ erL, PySem.W.kitOne K (.ref (He.ga K y)) (.ref (He.ga K "NoPerson")) = some (pE "NoPerson" y)
  t_NoPerson : ∀ t ∈ tagsB, PySem.W.kitOne K (.type t) (.ref (He.ga K "NoPerson")) = some false
  g_Left : mg "Left" = some (.ref (He.ga K "Left"))
  i_Left : ∀ y ∈ erL, PySem.W.kitOne K (.ref (He.ga K y)) (.ref (He.ga K "Left")) = some (pE "Left" y)
  t_Left : ∀ t ∈ tagsB, PySem.W.kitOne K (.type t) (.ref (He.ga K "Left")) = some false
  g_Dealt : mg "Dealt" = some (.ref (He.ga K "Dealt"))
  i_Dealt : ∀ y ∈ erL, PySem.W.kitOne K (.ref (He.ga K y)) (.ref (He.ga K "Dealt")) = some (pE "Dealt" y)
  t_Dealt : ∀ t ∈ tagsB, PySem.W.kitOne K (.type t) (.ref (He.ga K "Dealt")) = some false
  g_Barred : mg "Barred" = some (.ref (He.ga K "Barred"))
  i_Barred : ∀ y ∈ erL, PySem.W.kitOne K (.ref (He.ga K y)) (.ref (He.ga K "Barred")) = some (pE "Barred" y)
  t_Barred : ∀ t ∈ tagsB, PySem.W.kitOne K (.type t) (.ref (He.ga K "Barred")) = some false
  g_NotDealt : mg "NotDealt" = some (.ref (He.ga K "NotDealt"))
  i_NotDealt : ∀ y ∈ erL, PySem.W.kitOne K (.ref (He.ga K y)) (.ref (He.ga K "NotDealt")) = some (pE "NotDealt" y)
  t_NotDealt : ∀ t ∈ tagsB, PySem.W.kitOne K (.type t) (.ref (He.ga K "NotDealt")) = some false
  g_NothingToUndo : mg "NothingToUndo" = some (.ref (He.ga K "NothingToUndo"))
  i_NothingToUndo : ∀ y ∈ erL, PySem.W.kitOne K (.ref (He.ga K y)) (.ref (He.ga K "NothingToUndo")) = some (pE "NothingToUndo" y)
  t_NothingToUndo : ∀ t ∈ tagsB, PySem.W.kitOne K (.type t) (.ref (He.ga K "NothingToUndo")) = some false
  g_NothingToRedo : mg "NothingToRedo" = some (.ref (He.ga K "NothingToRedo"))
  i_NothingToRedo : ∀ y ∈ erL, PySem.W.kitOne K (.ref (He.ga K y)) (.ref (He.ga K "NothingToRedo")) = some (pE "NothingToRedo" y)
  t_NothingToRedo : ∀ t ∈ tagsB, PySem.W.kitOne K (.type t) (.ref (He.ga K "NothingToRedo")) = some false
  g_NoTrial : mg "NoTrial" = some (.ref (He.ga K "NoTrial"))
  i_NoTrial : ∀ y ∈ erL, PySem.W.kitOne K (.ref (He.ga K y)) (.ref (He.ga K "NoTrial")) = some (pE "NoTrial" y)
  t_NoTrial : ∀ t ∈ tagsB, PySem.W.kitOne K (.type t) (.ref (He.ga K "NoTrial")) = some false
  g_BadJournal : mg "BadJournal" = some (.ref (He.ga K "BadJournal"))
  i_BadJournal : ∀ y ∈ erL, PySem.W.kitOne K (.ref (He.ga K y)) (.ref (He.ga K "BadJournal")) = some (pE "BadJournal" y)
  t_BadJournal : ∀ t ∈ tagsB, PySem.W.kitOne K (.type t) (.ref (He.ga K "BadJournal")) = some false
  g_BadLine : mg "BadLine" = some (.ref (He.ga K "BadLine"))
  i_BadLine : ∀ y ∈ erL, PySem.W.kitOne K (.ref (He.ga K y)) (.ref (He.ga K "BadLine")) = some (pE "BadLine" y)
  t_BadLine : ∀ t ∈ tagsB, PySem.W.kitOne K (.type t) (.ref (He.ga K "BadLine")) = some false
  g_PartError : mg "PartError" = some (.ref (He.ga K "PartError"))
  i_PartError : ∀ y ∈ erL, PySem.W.kitOne K (.ref (He.ga K y)) (.ref (He.ga K "PartError")) = some (pT y)
  t_PartError : ∀ t ∈ tagsB, PySem.W.kitOne K (.type t) (.ref (He.ga K "PartError")) = some false
  i_ValueError : ∀ y ∈ erL, PySem.W.kitOne K (.ref (He.ga K y)) (.type "ValueError") = some (pT y)
  t_ValueError : ∀ t ∈ tagsB, PySem.W.kitOne K (.type t) (.type "ValueError") = some false
section
variable {P : Program} {w : World} {K : PySem.W.Frag} {mg : Str → Option Value} {base : Heap} {f : Addr} {fd : FuncData}
variable {cdv : Value} {A : Around} {outer : List PySem.Env} {s : Shared} {H : Hp} {E : XK}
def b__law_places : Rf.Env → Fl := (sRet (lift (fun env => mkL ((fun env => rgD ((nd (g2 fMax2) [(eC (.int 1)), (nd (g2 fMin2) [(eVar 1), (nd (g1 fLenX) [(eVar 0)])])]) env)) env))))
def c0__law_places : List D → C := runB 2 2 [] b__law_places
def p__law_places : Pe2 c0__law_places where
  f := fun a b => c0__law_places [a, b]
  ok := fun _ _ => rfl
def c__law_places : List D → C := p__law_places.c
abbrev N__law_places : List Str := ["_law_script", "_law_most"]
theorem sc__law_places : FnScope N__law_places ["_law_script", "_law_most"] (defScope (top 31)) := ⟨rfl, rfl, rfl, by decide +kernel, rfl, by decide +kernel, by decide +kernel⟩
theorem d__law_places {k : Nat} (h : Fc K mg)  (gd : Gd (cxOf (L2.CX P w) P w K mg base N__law_places "_law_places" (defScope (top 31)) f cdv A outer s H E) (fun c d _ H => E c d H) (k + 1)) :
    SSs (cxOf (L2.CX P w) P w K mg base N__law_places "_law_places" (defScope (top 31)) f cdv A outer s H E) ⟨[], [], false⟩ (fun c d _ H => E c d H) (defBody (top 31)) b__law_places :=
  (ss_one (s_ret rfl (SP.se (SPL.sp (spl_lstRg gd rfl h.n_list rfl h.n_range (sp_b2 (call_max2 gd.calm) vc_max2 rfl h.n_max boot_max sp_int (sp_b2 (call_min2 gd.calm) vc_min2 rfl h.n_min boot_min svz (sp_b1 call_lenX vc_lenX rfl h.n_len boot_len svz))))))))
theorem f__law_places {k : Nat} (h : Fc K mg)  (F : FunD K "_law_places" "_law_places" (defArgs (top 31)) (defBody (top 31)) (defScope (top 31)) [] [] f fd) : FnOk P w K mg base (L2.CX P w) (k + 2) f fd ["_law_script", "_law_most"] (spC K 2 [] false c__law_places) :=
  spC_cong p__law_places.eq ▸ fn_mk F sc__law_places rfl (by decide) fun cdv A outer s H E hr => d__law_places h  (gd_of sc__law_places.nd hr)
def b__law_take : Rf.Env → Fl := (seqB (sIf (liftB (fun env => noX ((fun env => asB ((nd (g2 fGt) [(nd (g2 fIx) [(eVar 0), (eC (.int 0))]), (eC (.int 0))]) env)) env))) (seqB (sSet 2 (lift (fun env => keepI ((nd (g2 fMod) [(nd (g1 fInt) [(nd (g2 fIx) [(eVar 0), (eC (.int 0))])]), (eVar 1)]) env))))
  (seqB (sSetIx 0 (lift (fun env => keepI ((nd (g2 fDiv) [(nd (g2 fIx) [(eVar 0), (eC (.int 0))]), (eVar 1)]) env))) (eC (.int 0)))
  (sRet (lift (eVar 2))))) sNil)
  (seqB (sSetIx 0 (lift (fun env => keepI ((nd (g2 fAdd) [(nd (g2 fIx) [(eVar 0), (eC (.int 2))]), (eC (.int 1))]) env))) (eC (.int 2)))
  (seqB (sSet 3 (lift (fun env => keepI ((nd (g2 fIx) [(fun env => mkL ((nd gLstD [(eC (.int 2147483647)), (eC (.int 2147483629)), (eC (.int 2147483587)), (eC (.int 2147483579)), (eC (.int 2147483563))]) env)), (nd (g2 fMod) [(nd (g1 fInt) [(nd (g2 fIx) [(eVar 0), (eC (.int 2))])]), (eC (.int 5))])]) env))))
  (seqB (sSet 4 (lift (fun env => keepI ((nd (g2 fMod) [(nd (g1 fInt) [(nd (g2 fPow) [(nd (g1 fInt) [(nd (g2 fAdd) [(nd (g2 fAdd) [(nd (g2 fIx) [(eVar 0), (eC (.int 1))]), (nd (g2 fMulI) [(nd (g2 fMulI) [(eC (.int 92003)), (nd (g2 fIx) [(eVar 0), (eC (.int 2))])]), (nd (g2 fIx) [(eVar 0), (eC (.int 2))])])]), (eC (.int 3))])]), (eC (.int 3))])]), (eVar 3)]) env))))
  (sRet (lift (fun env => keepI ((nd (g2 fMod) [(nd (g1 fInt) [(nd (g2 fDiv) [(nd (g2 fMulI) [(eVar 4), (nd (g2 fAdd) [(nd (g2 fMod) [(nd (g1 fInt) [(eVar 4)]), (eC (.int 10007))]), (nd (g2 fMulI) [(eC (.int 97)), (nd (g2 fIx) [(eVar 0), (eC (.int 2))])])])]), (eC (.int 127))])]), (eVar 1)]) env))))))))
def c__law_take : List D → C := runB 5 2 [0] b__law_take
abbrev N__law_take : List Str := ["_law_pot_here", "_law_upto", "_law_digit", "_law_prime", "_law_blend"]
theorem sc__law_take : FnScope N__law_take ["_law_pot_here", "_law_upto"] (defScope (top 29)) := ⟨rfl, rfl, rfl, by decide +kernel, rfl, by decide +kernel, by decide +kernel⟩
theorem d__law_take {k : Nat} (h : Fc K mg)  (gd : Gd (cxOf (L2.CX P w) P w K mg base N__law_take "_law_take" (defScope (top 29)) f cdv A outer s H E) (fun c d _ H => E c d H) (k + 1)) :
    SSs (cxOf (L2.CX P w) P w K mg base N__law_take "_law_take" (defScope (top 29)) f cdv A outer s H E) ⟨[0], [0], false⟩ (fun c d _ H => E c d H) (defBody (top 29)) b__law_take :=
  (ss_cons (s_if (STp.ste (STp.look (st_cmp op_gt v2_gt (sp_ix (sp_own rfl rfl (by first|exact .inl rfl|exact .inr (.inl rfl)|exact .inr (.inr rfl))) sp_int) sp_int))) (ss_cons (s_set rfl rfl (asgE gd.nd rfl (by first|exact .inl rfl|exact .inr rfl) (SP.se (SP.kept (sp_op op_mod v2_mod (sp_t1 call_intAll vc_int rfl h.n_int boot_int (sp_ix (sp_own rfl rfl (by first|exact .inl rfl|exact .inr (.inl rfl)|exact .inr (.inr rfl))) sp_int)) svz)))))
  (ss_cons (s_setIx rfl rfl (by first|exact .inl rfl|exact .inr (.inl rfl)|exact .inr (.inr rfl)) (SP.se (SP.kept (sp_op op_fdiv v2_div (sp_ix (sp_own rfl rfl (by first|exact .inl rfl|exact .inr (.inl rfl)|exact .inr (.inr rfl))) sp_int) svz))) sp_int)
  (ss_one (s_ret rfl (SP.se svz))))) ss_nil)
  (ss_cons (s_setIx rfl rfl (by first|exact .inl rfl|exact .inr (.inl rfl)|exact .inr (.inr rfl)) (SP.se (SP.kept (sp_op op_addAll v2_add (sp_ix (sp_own rfl rfl (by first|exact .inl rfl|exact .inr (.inl rfl)|exact .inr (.inr rfl))) sp_int) sp_int))) sp_int)
  (ss_cons (s_set rfl rfl (asgE gd.nd rfl (by first|exact .inl rfl|exact .inr rfl) (SP.se (SP.kept (sp_ix (SPL.sp (spl_lst (SPs.cons sp_int (SPs.cons sp_int (SPs.cons sp_int (SPs.cons sp_int (SPs.cons sp_int SPs.nil))))))) (sp_op op_mod v2_mod (sp_t1 call_intAll vc_int rfl h.n_int boot_int (sp_ix (sp_own rfl rfl (by first|exact .inl rfl|exact .inr (.inl rfl)|exact .inr (.inr rfl))) sp_int)) sp_int))))))
  (ss_cons (s_set rfl rfl (asgE gd.nd rfl (by first|exact .inl rfl|exact .inr rfl) (SP.se (SP.kept (sp_op op_mod v2_mod (sp_t1 call_intAll vc_int rfl h.n_int boot_int (sp_op op_powW v2_pow (sp_t1 call_intAll vc_int rfl h.n_int boot_int (sp_op op_addAll v2_add (sp_op op_addAll v2_add (sp_ix (sp_own rfl rfl (by first|exact .inl rfl|exact .inr (.inl rfl)|exact .inr (.inr rfl))) sp_int) (sp_op op_mulW v2_mul (sp_op op_mulW v2_mul sp_int (sp_ix (sp_own rfl rfl (by first|exact .inl rfl|exact .inr (.inl rfl)|exact .inr (.inr rfl))) sp_int)) (sp_ix (sp_own rfl rfl (by first|exact .inl rfl|exact .inr (.inl rfl)|exact .inr (.inr rfl))) sp_int))) sp_int)) sp_int)) svz)))))
  (ss_one (s_ret rfl (SP.se (SP.kept (sp_op op_mod v2_mod (sp_t1 call_intAll vc_int rfl h.n_int boot_int (sp_op op_fdiv v2_div (sp_op op_mulW v2_mul svz (sp_op op_addAll v2_add (sp_op op_mod v2_mod (sp_t1 call_intAll vc_int rfl h.n_int boot_int svz) sp_int) (sp_op op_mulW v2_mul sp_int (sp_ix (sp_own rfl rfl (by first|exact .inl rfl|exact .inr (.inl rfl)|exact .inr (.inr rfl))) sp_int)))) sp_int)) svz)))))))))
theorem f__law_take {k : Nat} (h : Fc K mg)  (F : FunD K "_law_take" "_law_take" (defArgs (top 29)) (defBody (top 29)) (defScope (top 29)) [] [] f fd) : FnOk P w K mg base (L2.CX P w) (k + 2) f fd ["_law_pot_here", "_law_upto"] (spC K 2 [0] false c__law_take) :=
  fn_mk F sc__law_take rfl (by decide) fun cdv A outer s H E hr => d__law_take h  (gd_of sc__law_take.nd hr)
def b__law_of : Rf.Env → Fl := (sRet (nr (g2 fIx) [(lift (eVar 1)), (eCallR [.io 0, .ex (lift (nd (g1 fLenX) [(eVar 1)]))] c__law_take)]))
def c__law_of : List D → C := runB 2 2 [0] b__law_of
abbrev N__law_of : List Str := ["_law_pot_here", "_law_some"]
theorem sc__law_of : FnScope N__law_of ["_law_pot_here", "_law_some"] (defScope (top 30)) := ⟨rfl, rfl, rfl, by decide +kernel, rfl, by decide +kernel, by decide +kernel⟩
theorem d__law_of {k : Nat} (h : Fc K mg) (k__law_take : Cal P w K mg base (k + 1) "_law_take" 2 [0] false [] c__law_take) (gd : Gd (cxOf (L2.CX P w) P w K mg base N__law_of "_law_of" (defScope (top 30)) f cdv A outer s H E) (fun c d _ H => E c d H) (k + 1)) :
    SSs (cxOf (L2.CX P w) P w K mg base N__law_of "_law_of" (defScope (top 30)) f cdv A outer s H E) ⟨[0], [0], false⟩ (fun c d _ H => E c d H) (defBody (top 30)) b__law_of :=
  (ss_one (s_ret rfl (se_ix (SP.se svz) (se_callR gd k__law_take rfl (SAs.io rfl (by first|exact .inl rfl|exact .inr (.inl rfl)|exact .inr (.inr rfl)) (by decide) (by decide) rfl (SAs.ex (SP.se (sp_b1 call_lenX vc_lenX rfl h.n_len boot_len svz)) SAs.nil))))))
theorem f__law_of {k : Nat} (h : Fc K mg) (k__law_take : Cal P w K mg base (k + 1) "_law_take" 2 [0] false [] c__law_take) (F : FunD K "_law_of" "_law_of" (defArgs (top 30)) (defBody (top 30)) (defScope (top 30)) [] [] f fd) : FnOk P w K mg base (L2.CX P w) (k + 2) f fd ["_law_pot_here", "_law_some"] (spC K 2 [0] false c__law_of) :=
  fn_mk F sc__law_of rfl (by decide) fun cdv A outer s H E hr => d__law_of h k__law_take (gd_of sc__law_of.nd hr)
def b__law_odd : Rf.Env → Fl := (seqB (sSet 1 (nr (fun ds => mkL (gLstD ds)) [(lift (eC .non)), (lift (eC (.bl true))), (lift (eC (.bl false))), (lift (eC (.int 0))), (lift (eC (.int 1))), (lift (nd (g1 fNeg) [(eC (.int 1))])), (lift (nd (g2 fPow) [(eC (.int 10)), (eC (.int 8))])), (lift (eC (.str ""))), (lift (eC (.str "a"))), (lift (eC (.str "role"))), (lift (nd gTupD [])), (frzL (liftL (nd gLstD []))), (frzD (lift (eC (.dic [])))), (lift (nd gTupD [(nd gTupD [])])), (lift (nd gTupD [(eC (.int 0))])), (lift (nd gTupD [(eC (.str ""))])), (frzL (liftL (nd gLstD [(eC (.int 0))]))), (lift (nd gTupD [(eC (.int 1)), (eC (.int 0))]))]))
  (sRet (eCallR [.io 0, .ex (lift (nd (g2 fAdd) [(eVar 1), (fun env => mkL ((nd gLstD [(nd gTupD [(eC (.str "let"))]), (nd gTupD [(eC (.str "a"))]), (nd gTupD [(eC (.int 2)), (nd gTupD [(eC (.str "a"))])]), (eC (.str "0")), (nd gTupD [(nd gTupD [(eC (.str "a"))]), (nd gTupD [])]), (eC (.int 2)), (eC (.int 9)), (eC (.str "A"))]) env))]))] c__law_of)))
def c__law_odd : List D → C := runB 2 1 [0] b__law_odd
abbrev N__law_odd : List Str := ["_law_pot_here", "_law_some"]
theorem sc__law_odd : FnScope N__law_odd ["_law_pot_here"] (defScope (top 33)) := ⟨rfl, rfl, rfl, by decide +kernel, rfl, by decide +kernel, by decide +kernel⟩
theorem d__law_odd {k : Nat} (h : Fc K mg) (k__law_of : Cal P w K mg base (k + 1) "_law_of" 2 [0] false [] c__law_of) (gd : Gd (cxOf (L2.CX P w) P w K mg base N__law_odd "_law_odd" (defScope (top 33)) f cdv A outer s H E) (fun c d _ H => E c d H) (k + 1)) :
    SSs (cxOf (L2.CX P w) P w K mg base N__law_odd "_law_odd" (defScope (top 33)) f cdv A outer s H E) ⟨[0], [0], false⟩ (fun c d _ H => E c d H) (defBody (top 33)) b__law_odd :=
  (ss_cons (s_set rfl rfl (asgE gd.nd rfl (by first|exact .inl rfl|exact .inr rfl) (se_lst (SEs.cons (SP.se sp_non) (SEs.cons (SP.se sp_bl) (SEs.cons (SP.se sp_bl) (SEs.cons (SP.se sp_int) (SEs.cons (SP.se sp_int) (SEs.cons (SP.se (sp_un un_neg v1_neg sp_int)) (SEs.cons (SP.se (sp_op op_powW v2_pow sp_int sp_int)) (SEs.cons (SP.se sp_str) (SEs.cons (SP.se sp_str) (SEs.cons (SP.se sp_str) (SEs.cons (SP.se (sp_tup SPs.nil)) (SEs.cons (SO.frz (SPL.so (b := true) (spl_lst SPs.nil))) (SEs.cons (SO.frzD (SPN.so spn_dict0)) (SEs.cons (SP.se (sp_tup (SPs.cons (sp_tup SPs.nil) SPs.nil))) (SEs.cons (SP.se (sp_tup (SPs.cons sp_int SPs.nil))) (SEs.cons (SP.se (sp_tup (SPs.cons sp_str SPs.nil))) (SEs.cons (SO.frz (SPL.so (b := true) (spl_lst (SPs.cons sp_int SPs.nil)))) (SEs.cons (SP.se (sp_tup (SPs.cons sp_int (SPs.cons sp_int SPs.nil)))) SEs.nil)))))))))))))))))))))
  (ss_one (s_ret rfl (se_callR gd k__law_of rfl (SAs.io rfl (by first|exact .inl rfl|exact .inr (.inl rfl)|exact .inr (.inr rfl)) (by decide) (by decide) rfl (SAs.ex (SP.se (sp_op op_addAll v2_add svz (SPL.sp (spl_lst (SPs.cons (sp_tup (SPs.cons sp_str SPs.nil)) (SPs.cons (sp_tup (SPs.cons sp_str SPs.nil)) (SPs.cons (sp_tup (SPs.cons sp_int (SPs.cons (sp_tup (SPs.cons sp_str SPs.nil)) SPs.nil))) (SPs.cons sp_str (SPs.cons (sp_tup (SPs.cons (sp_tup (SPs.cons sp_str SPs.nil)) (SPs.cons (sp_tup SPs.nil) SPs.nil))) (SPs.cons sp_int (SPs.cons sp_int (SPs.cons sp_str SPs.nil)))))))))))) SAs.nil))))))
theorem f__law_odd {k : Nat} (h : Fc K mg) (k__law_of : Cal P w K mg base (k + 1) "_law_of" 2 [0] false [] c__law_of) (F : FunD K "_law_odd" "_law_odd" (defArgs (top 33)) (defBody (top 33)) (defScope (top 33)) [] [] f fd) : FnOk P w K mg base (L2.CX P w) (k + 2) f fd ["_law_pot_here"] (spC K 1 [0] false c__law_odd) :=
  fn_mk F sc__law_odd rfl (by decide) fun cdv A outer s H E hr => d__law_odd h k__law_of (gd_of sc__law_odd.nd hr)
def b__law_bent (cc : List D → C) : Rf.Env → Fl := (seqB (sIf (andR (liftB (fun env => asB ((nd (g1 (fIsi "tuple")) [(eVar 1)]) env))) (andR (liftB (fun env => asB ((nd (g2 (fEq true)) [(eVar 1), (nd gTupD [])]) env))) (fun env => asBR ((nr (g2 fGt) [(eCallR [.io 0, .ex (lift (eC (.int 6)))] c__law_take), (lift (eC (.int 0)))]) env)))) (seqB (sSet 2 (eCallR [.io 0, .ex (lift (nd (g1 fLenX) [(eVar 1)]))] c__law_take))
  (sRet (nr (g2 fAdd) [(nr (g2 fAdd) [(lift (eSl (eVar 1) oNone (oSome (eVar 2)))), (nr gTupD [(eCallR [.io 0, .ex (lift (nd (g2 fIx) [(eVar 1), (eVar 2)]))] cc)])]), (lift (eSl (eVar 1) (oSome (nd (g2 fAdd) [(eVar 2), (eC (.int 1))])) oNone))]))) sNil)
  (seqB (sIf (liftB (fun env => asB ((nd (g1 (fIsi "tuple")) [(eVar 1)]) env))) (sRet (eCallR [.io 0, .ex (nr (fun ds => mkL (gLstD ds)) [(frzL (liftL (nd (g1 fListL) [(eVar 1)]))), (lift (eSl (eVar 1) (oSome (eC (.int 1))) oNone)), (lift (eSl (eVar 1) oNone (oSome (nd (g1 fNeg) [(eC (.int 1))])))), (lift (nd (g2 fAdd) [(eVar 1), (eSl (eVar 1) (oSome (nd (g1 fNeg) [(eC (.int 1))])) oNone)])), (lift (nd (g1 fRev) [(eVar 1)])), (lift (nd gTupD [])), (lift (nd (g2 fAdd) [(eVar 1), (nd gTupD [(eC (.int 0))])]))])] c__law_of)) sNil)
  (seqB (sIf (liftB (bAnd (fun env => asB ((nd (g1 (fIsi "int")) [(eVar 1)]) env)) (bNot (fun env => asB ((nd (g1 (fIsi "bool")) [(eVar 1)]) env))))) (sRet (eCallR [.io 0, .ex (lift (fun env => mkL ((nd gLstD [(nd (g2 fAdd) [(eVar 1), (eC (.int 1))]), (nd (g2 fSub) [(eVar 1), (eC (.int 1))]), (nd (g1 fNeg) [(eVar 1)]), (nd (g2 (fEq false)) [(eVar 1), (eC (.int 1))]), (eC (.str "7")), (eC (.int 0)), (eC .non), (nd (g2 fAdd) [(eVar 1), (eC (.int 60))]), (nd (g2 fSub) [(eVar 1), (eC (.int 60))])]) env)))] c__law_of)) sNil)
  (seqB (sIf (liftB (fun env => asB ((nd (g1 (fIsi "str")) [(eVar 1)]) env))) (sRet (eCallR [.io 0, .ex (nr (fun ds => mkL (gLstD ds)) [(lift (nd (g2 fAdd) [(eVar 1), (eC (.str "x"))])), (lift (eSl (eVar 1) oNone (oSome (nd (g1 fNeg) [(eC (.int 1))])))), (lift (nd (g1 fRev) [(eVar 1)])), (lift (eC (.str "ask"))), (lift (eC (.str "tell"))), (lift (eC (.str "both"))), (lift (eC .non)), (lift (eC (.int 0))), (frzL (liftL (nd gLstD [(eVar 1)]))), (lift (eC (.str "hand")))])] c__law_of)) sNil)
  (sRet (eCallR [.io 0] c__law_odd))))))
def cR__law_bent : Nat → List D → C
  | 0 => fun _ => .bad
  | n + 1 => runB 3 2 [0] (b__law_bent (cR__law_bent n))
def c__law_bent : List D → C := cR__law_bent 6
abbrev N__law_bent : List Str := ["_law_pot_here", "_law_value", "_law_at"]
theorem sc__law_bent : FnScope N__law_bent ["_law_pot_here", "_law_value"] (defScope (top 32)) := ⟨rfl, rfl, rfl, by decide +kernel, rfl, by decide +kernel, by decide +kernel⟩
theorem d__law_bent {cc : List D → C} {cdv : Value} {A : Around} {outer : List PySem.Env} {s : Shared} {H : Hp} {E : XK} {k : Nat} (h : Fc K mg) (k__law_take : Cal P w K mg base (k + 1) "_law_take" 2 [0] false [] c__law_take) (k__law_bent : Cal P w K mg base (k + 1) "_law_bent" 2 [0] false [] cc) (k__law_of : Cal P w K mg base (k + 1) "_law_of" 2 [0] false [] c__law_of) (k__law_odd : Cal P w K mg base (k + 1) "_law_odd" 1 [0] false [] c__law_odd) (gd : Gd (cxOf (L2.CX P w) P w K mg base N__law_bent "_law_bent" (defScope (top 32)) f cdv A outer s H E) (fun c d _ H => E c d H) (k + 1)) :
    SSs (cxOf (L2.CX P w) P w K mg base N__law_bent "_law_bent" (defScope (top 32)) f cdv A outer s H E) ⟨[0], [0], false⟩ (fun c d _ H => E c d H) (defBody (top 32)) (b__law_bent cc) :=
  (ss_cons (s_if (SWe.st (swe_and (STp.ste (st_val (sp_isi rfl h.n_isinstance rfl h.n_tuple (by decide +kernel) (by decide) svz))) (swe_and (STp.ste (st_cmp (op_neD gd.hu64) v2_ne svz (sp_tup SPs.nil))) (swe_and1 (ste_cmp op_gt v2_gt (se_callR gd k__law_take rfl (SAs.io rfl (by first|exact .inl rfl|exact .inr (.inl rfl)|exact .inr (.inr rfl)) (by decide) (by decide) rfl (SAs.ex (SP.se sp_int) SAs.nil))) (SP.se sp_int)))))) (ss_cons (s_set rfl rfl (asgE gd.nd rfl (by first|exact .inl rfl|exact .inr rfl) (se_callR gd k__law_take rfl (SAs.io rfl (by first|exact .inl rfl|exact .inr (.inl rfl)|exact .inr (.inr rfl)) (by decide) (by decide) rfl (SAs.ex (SP.se (sp_b1 call_lenX vc_lenX rfl h.n_len boot_len svz)) SAs.nil)))))
  (ss_one (s_ret rfl (se_op op_addAll v2_add (se_op op_addAll v2_add (SP.se (sp_sl svz spo_none (spo_some svz))) (se_tup (SEs.cons (se_callR gd k__law_bent rfl (SAs.io rfl (by first|exact .inl rfl|exact .inr (.inl rfl)|exact .inr (.inr rfl)) (by decide) (by decide) rfl (SAs.ex (SP.se (sp_ix svz svz)) SAs.nil))) SEs.nil))) (SP.se (sp_sl svz (spo_some (sp_op op_addAll v2_add svz sp_int)) spo_none)))))) ss_nil)
  (ss_cons (s_if (STp.ste (st_val (sp_isi rfl h.n_isinstance rfl h.n_tuple (by decide +kernel) (by decide) svz))) (ss_one (s_ret rfl (se_callR gd k__law_of rfl (SAs.io rfl (by first|exact .inl rfl|exact .inr (.inl rfl)|exact .inr (.inr rfl)) (by decide) (by decide) rfl (SAs.ex (se_lst (SEs.cons (SO.frz (SPL.so (b := true) (spl_t1 call_list_of vc_list rfl h.n_list boot_list svz))) (SEs.cons (SP.se (sp_sl svz (spo_some sp_int) spo_none)) (SEs.cons (SP.se (sp_sl svz spo_none (spo_some (sp_un un_neg v1_neg sp_int)))) (SEs.cons (SP.se (sp_op op_addAll v2_add svz (sp_sl svz (spo_some (sp_un un_neg v1_neg sp_int)) spo_none))) (SEs.cons (SP.se (sp_rev svz)) (SEs.cons (SP.se (sp_tup SPs.nil)) (SEs.cons (SP.se (sp_op op_addAll v2_add svz (sp_tup (SPs.cons sp_int SPs.nil)))) SEs.nil)))))))) SAs.nil))))) ss_nil)
  (ss_cons (s_if (STp.ste (SW.st (sw_and (st_val (sp_isi rfl h.n_isinstance rfl h.n_int (by decide +kernel) (by decide) svz)) (sw_and1 (st_not (st_val (sp_isi rfl h.n_isinstance rfl h.n_bool (by decide +kernel) (by decide) svz))))))) (ss_one (s_ret rfl (se_callR gd k__law_of rfl (SAs.io rfl (by first|exact .inl rfl|exact .inr (.inl rfl)|exact .inr (.inr rfl)) (by decide) (by decide) rfl (SAs.ex (SP.se (SPL.sp (spl_lst (SPs.cons (sp_op op_addAll v2_add svz sp_int) (SPs.cons (sp_op op_sub v2_sub svz sp_int) (SPs.cons (sp_un un_neg v1_neg svz) (SPs.cons (sp_cmp (op_eqD gd.hu64) v2_eq svz sp_int) (SPs.cons sp_str (SPs.cons sp_int (SPs.cons sp_non (SPs.cons (sp_op op_addAll v2_add svz sp_int) (SPs.cons (sp_op op_sub v2_sub svz sp_int) SPs.nil)))))))))))) SAs.nil))))) ss_nil)
  (ss_cons (s_if (STp.ste (st_val (sp_isi rfl h.n_isinstance rfl h.n_str (by decide +kernel) (by decide) svz))) (ss_one (s_ret rfl (se_callR gd k__law_of rfl (SAs.io rfl (by first|exact .inl rfl|exact .inr (.inl rfl)|exact .inr (.inr rfl)) (by decide) (by decide) rfl (SAs.ex (se_lst (SEs.cons (SP.se (sp_op op_addAll v2_add svz sp_str)) (SEs.cons (SP.se (sp_sl svz spo_none (spo_some (sp_un un_neg v1_neg sp_int)))) (SEs.cons (SP.se (sp_rev svz)) (SEs.cons (SP.se sp_str) (SEs.cons (SP.se sp_str) (SEs.cons (SP.se sp_str) (SEs.cons (SP.se sp_non) (SEs.cons (SP.se sp_int) (SEs.cons (SO.frz (SPL.so (b := true) (spl_lst (SPs.cons svz SPs.nil)))) (SEs.cons (SP.se sp_str) SEs.nil))))))))))) SAs.nil))))) ss_nil)
  (ss_one (s_ret rfl (se_callR gd k__law_odd rfl (SAs.io rfl (by first|exact .inl rfl|exact .inr (.inl rfl)|exact .inr (.inr rfl)) (by decide) (by decide) rfl SAs.nil))))))))
theorem f__law_bent {cc : List D → C} {k : Nat} (h : Fc K mg) (k__law_take : Cal P w K mg base (k + 1) "_law_take" 2 [0] false [] c__law_take) (k__law_bent : Cal P w K mg base (k + 1) "_law_bent" 2 [0] false [] cc) (k__law_of : Cal P w K mg base (k + 1) "_law_of" 2 [0] false [] c__law_of) (k__law_odd : Cal P w K mg base (k + 1) "_law_odd" 1 [0] false [] c__law_odd) (F : FunD K "_law_bent" "_law_bent" (defArgs (top 32)) (defBody (top 32)) (defScope (top 32)) [] [] f fd) : FnOk P w K mg base (L2.CX P w) (k + 2) f fd ["_law_pot_here", "_law_value"] (spC K 2 [0] false (runB 3 2 [0] (b__law_bent cc))) :=
  fn_mk F sc__law_bent rfl (by decide) fun cdv A outer s H E hr => d__law_bent h k__law_take k__law_bent k__law_of k__law_odd (gd_of sc__law_bent.nd hr)
def b__law_errors : Rf.Env → Fl := (seqB (sSet 1 (liftL (nd gLstD [(eMkE "BadBook" (eVar 0)), (eMkE "NoRole" (eVar 0)), (eMkE "BadRule" (eVar 0)), (eMkE "Full" (eVar 0)), (eMkE "NoRule" (eVar 0))])))
  (seqB (sMut 1 (lift (fun env => mkL ((nd gLstD [(eMkE "BadRight" (eVar 0)), (eMkE "BadRoles" (eVar 0)), (eMkE "BadHand" (eVar 0)), (eMkE "BadDealing" (eVar 0)), (eMkE "NoDuty" (eVar 0))]) env))) fExt)
  (seqB (sMut 1 (lift (fun env => mkL ((nd gLstD [(eMkE "NotKept" (eVar 0)), (eMkE "BadStaff" (eVar 0)), (eMkE "TooMany" (eVar 0)), (eMkE "OtherSize" (eVar 0)), (eMkE "BadOffers" (eVar 0))]) env))) fExt)
  (seqB (sMut 1 (lift (fun env => mkL ((nd gLstD [(eMkE "NoPerson" (eVar 0)), (eMkE "Left" (eVar 0)), (eMkE "Dealt" (eVar 0)), (eMkE "Barred" (eVar 0)), (eMkE "NotDealt" (eVar 0))]) env))) fExt)
  (seqB (sMut 1 (lift (fun env => mkL ((nd gLstD [(eMkE "NothingToUndo" (eVar 0)), (eMkE "NothingToRedo" (eVar 0)), (eMkE "NoTrial" (eVar 0)), (eMkE "BadJournal" (eVar 0))]) env))) fExt)
  (seqB (sMut 1 (lift (fun env => mkL ((nd gLstD [(eMkE "BadLine" (eVar 0))]) env))) fExt)
  (sRet (frzL (eMove 1)))))))))
def c0__law_errors : List D → C := runB 2 1 [] b__law_errors
def p__law_errors : Pe1 c0__law_errors where
  f := fun a => c0__law_errors [a]
  ok := fun _ => rfl
def c__law_errors : List D → C := p__law_errors.c
abbrev N__law_errors : List Str := ["_law_value", "_law_found"]
theorem sc__law_errors : FnScope N__law_errors ["_law_value"] (defScope (top 34)) := ⟨rfl, rfl, rfl, by decide +kernel, rfl, by decide +kernel, by decide +kernel⟩
theorem d__law_errors {k : Nat} (h : Fc K mg) (e_BadBook : Rse P w K mg base k "BadBook") (e_NoRole : Rse P w K mg base k "NoRole") (e_BadRule : Rse P w K mg base k "BadRule") (e_Full : Rse P w K mg base k "Full") (e_NoRule : Rse P w K mg base k "NoRule") (e_BadRight : Rse P w K mg base k "BadRight") (e_BadRoles : Rse P w K mg base k "BadRoles") (e_BadHand : Rse P w K mg base k "BadHand") (e_BadDealing : Rse P w K mg base k "BadDealing") (e_NoDuty : Rse P w K mg base k "NoDuty") (e_NotKept : Rse P w K mg base k "NotKept") (e_BadStaff : Rse P w K mg base k "BadStaff") (e_TooMany : Rse P w K mg base k "TooMany") (e_OtherSize : Rse P w K mg base k "OtherSize") (e_BadOffers : Rse P w K mg base k "BadOffers") (e_NoPerson : Rse P w K mg base k "NoPerson") (e_Left : Rse P w K mg base k "Left") (e_Dealt : Rse P w K mg base k "Dealt") (e_Barred : Rse P w K mg base k "Barred") (e_NotDealt : Rse P w K mg base k "NotDealt") (e_NothingToUndo : Rse P w K mg base k "NothingToUndo") (e_NothingToRedo : Rse P w K mg base k "NothingToRedo") (e_NoTrial : Rse P w K mg base k "NoTrial") (e_BadJournal : Rse P w K mg base k "BadJournal") (e_BadLine : Rse P w K mg base k "BadLine") (gd : Gd (cxOf (L2.CX P w) P w K mg base N__law_errors "_law_errors" (defScope (top 34)) f cdv A outer s H E) (fun c d _ H => E c d H) (k + 1)) :
    SSs (cxOf (L2.CX P w) P w K mg base N__law_errors "_law_errors" (defScope (top 34)) f cdv A outer s H E) ⟨[1], [], false⟩ (fun c d _ H => E c d H) (defBody (top 34)) b__law_errors :=
  (ss_cons (s_setO rfl rfl (asgO gd.nd rfl (by first|exact .inl rfl|exact .inr rfl) (SPL.so (b := true) (spl_lst (SPs.cons (sp_mkE gd rfl e_BadBook rfl svz) (SPs.cons (sp_mkE gd rfl e_NoRole rfl svz) (SPs.cons (sp_mkE gd rfl e_BadRule rfl svz) (SPs.cons (sp_mkE gd rfl e_Full rfl svz) (SPs.cons (sp_mkE gd rfl e_NoRule rfl svz) SPs.nil)))))))))
  (ss_cons (s_extend rfl rfl (by first|exact .inl rfl|exact .inr (.inl rfl)|exact .inr (.inr rfl)) (SP.se (SPL.sp (spl_lst (SPs.cons (sp_mkE gd rfl e_BadRight rfl svz) (SPs.cons (sp_mkE gd rfl e_BadRoles rfl svz) (SPs.cons (sp_mkE gd rfl e_BadHand rfl svz) (SPs.cons (sp_mkE gd rfl e_BadDealing rfl svz) (SPs.cons (sp_mkE gd rfl e_NoDuty rfl svz) SPs.nil)))))))))
  (ss_cons (s_extend rfl rfl (by first|exact .inl rfl|exact .inr (.inl rfl)|exact .inr (.inr rfl)) (SP.se (SPL.sp (spl_lst (SPs.cons (sp_mkE gd rfl e_NotKept rfl svz) (SPs.cons (sp_mkE gd rfl e_BadStaff rfl svz) (SPs.cons (sp_mkE gd rfl e_TooMany rfl svz) (SPs.cons (sp_mkE gd rfl e_OtherSize rfl svz) (SPs.cons (sp_mkE gd rfl e_BadOffers rfl svz) SPs.nil)))))))))
  (ss_cons (s_extend rfl rfl (by first|exact .inl rfl|exact .inr (.inl rfl)|exact .inr (.inr rfl)) (SP.se (SPL.sp (spl_lst (SPs.cons (sp_mkE gd rfl e_NoPerson rfl svz) (SPs.cons (sp_mkE gd rfl e_Left rfl svz) (SPs.cons (sp_mkE gd rfl e_Dealt rfl svz) (SPs.cons (sp_mkE gd rfl e_Barred rfl svz) (SPs.cons (sp_mkE gd rfl e_NotDealt rfl svz) SPs.nil)))))))))
  (ss_cons (s_extend rfl rfl (by first|exact .inl rfl|exact .inr (.inl rfl)|exact .inr (.inr rfl)) (SP.se (SPL.sp (spl_lst (SPs.cons (sp_mkE gd rfl e_NothingToUndo rfl svz) (SPs.cons (sp_mkE gd rfl e_NothingToRedo rfl svz) (SPs.cons (sp_mkE gd rfl e_NoTrial rfl svz) (SPs.cons (sp_mkE gd rfl e_BadJournal rfl svz) SPs.nil))))))))
  (ss_cons (s_extend rfl rfl (by first|exact .inl rfl|exact .inr (.inl rfl)|exact .inr (.inr rfl)) (SP.se (SPL.sp (spl_lst (SPs.cons (sp_mkE gd rfl e_BadLine rfl svz) SPs.nil)))))
  (ss_one (s_ret rfl (SO.frz (so_move rfl rfl (by first|exact .inl rfl|exact .inr (.inl rfl)|exact .inr (.inr rfl))))))))))))
theorem f__law_errors {k : Nat} (h : Fc K mg) (e_BadBook : Rse P w K mg base k "BadBook") (e_NoRole : Rse P w K mg base k "NoRole") (e_BadRule : Rse P w K mg base k "BadRule") (e_Full : Rse P w K mg base k "Full") (e_NoRule : Rse P w K mg base k "NoRule") (e_BadRight : Rse P w K mg base k "BadRight") (e_BadRoles : Rse P w K mg base k "BadRoles") (e_BadHand : Rse P w K mg base k "BadHand") (e_BadDealing : Rse P w K mg base k "BadDealing") (e_NoDuty : Rse P w K mg base k "NoDuty") (e_NotKept : Rse P w K mg base k "NotKept") (e_BadStaff : Rse P w K mg base k "BadStaff") (e_TooMany : Rse P w K mg base k "TooMany") (e_OtherSize : Rse P w K mg base k "OtherSize") (e_BadOffers : Rse P w K mg base k "BadOffers") (e_NoPerson : Rse P w K mg base k "NoPerson") (e_Left : Rse P w K mg base k "Left") (e_Dealt : Rse P w K mg base k "Dealt") (e_Barred : Rse P w K mg base k "Barred") (e_NotDealt : Rse P w K mg base k "NotDealt") (e_NothingToUndo : Rse P w K mg base k "NothingToUndo") (e_NothingToRedo : Rse P w K mg base k "NothingToRedo") (e_NoTrial : Rse P w K mg base k "NoTrial") (e_BadJournal : Rse P w K mg base k "BadJournal") (e_BadLine : Rse P w K mg base k "BadLine") (F : FunD K "_law_errors" "_law_errors" (defArgs (top 34)) (defBody (top 34)) (defScope (top 34)) [] [] f fd) : FnOk P w K mg base (L2.CX P w) (k + 2) f fd ["_law_value"] (spC K 1 [] false c__law_errors) :=
  spC_cong p__law_errors.eq ▸ fn_mk F sc__law_errors rfl (by decide) fun cdv A outer s H E hr => d__law_errors h e_BadBook e_NoRole e_BadRule e_Full e_NoRule e_BadRight e_BadRoles e_BadHand e_BadDealing e_NoDuty e_NotKept e_BadStaff e_TooMany e_OtherSize e_BadOffers e_NoPerson e_Left e_Dealt e_Barred e_NotDealt e_NothingToUndo e_NothingToRedo e_NoTrial e_BadJournal e_BadLine (gd_of sc__law_errors.nd hr)
def b__law_marks : Rf.Env → Fl := (seqB (sSet 1 (liftL (nd gLstD [(nd (g1 (fIsE erL (pE "BadBook"))) [(eVar 0)]), (nd (g1 (fIsE erL (pE "NoRole"))) [(eVar 0)]), (nd (g1 (fIsE erL (pE "BadRule"))) [(eVar 0)])])))
  (seqB (sMut 1 (lift (fun env => mkL ((nd gLstD [(nd (g1 (fIsE erL (pE "Full"))) [(eVar 0)]), (nd (g1 (fIsE erL (pE "NoRule"))) [(eVar 0)]), (nd (g1 (fIsE erL (pE "BadRight"))) [(eVar 0)])]) env))) fExt)
  (seqB (sMut 1 (lift (fun env => mkL ((nd gLstD [(nd (g1 (fIsE erL (pE "BadRoles"))) [(eVar 0)]), (nd (g1 (fIsE erL (pE "BadHand"))) [(eVar 0)]), (nd (g1 (fIsE erL (pE "BadDealing"))) [(eVar 0)])]) env))) fExt)
  (seqB (sMut 1 (lift (fun env => mkL ((nd gLstD [(nd (g1 (fIsE erL (pE "NoDuty"))) [(eVar 0)]), (nd (g1 (fIsE erL (pE "NotKept"))) [(eVar 0)]), (nd (g1 (fIsE erL (pE "BadStaff"))) [(eVar 0)])]) env))) fExt)
  (seqB (sMut 1 (lift (fun env => mkL ((nd gLstD [(nd (g1 (fIsE erL (pE "TooMany"))) [(eVar 0)]), (nd (g1 (fIsE erL (pE "OtherSize"))) [(eVar 0)]), (nd (g1 (fIsE erL (pE "BadOffers"))) [(eVar 0)])]) env))) fExt)
  (seqB (sMut 1 (lift (fun env => mkL ((nd gLstD [(nd (g1 (fIsE erL (pE "NoPerson"))) [(eVar 0)]), (nd (g1 (fIsE erL (pE "Left"))) [(eVar 0)]), (nd (g1 (fIsE erL (pE "Dealt"))) [(eVar 0)])]) env))) fExt)
  (seqB (sMut 1 (lift (fun env => mkL ((nd gLstD [(nd (g1 (fIsE erL (pE "Barred"))) [(eVar 0)]), (nd (g1 (fIsE erL (pE "NotDealt"))) [(eVar 0)]), (nd (g1 (fIsE erL (pE "NothingToUndo"))) [(eVar 0)])]) env))) fExt)
  (seqB (sMut 1 (lift (fun env => mkL ((nd gLstD [(nd (g1 (fIsE erL (pE "NothingToRedo"))) [(eVar 0)]), (nd (g1 (fIsE erL (pE "NoTrial"))) [(eVar 0)])]) env))) fExt)
  (seqB (sMut 1 (lift (fun env => mkL ((nd gLstD [(nd (g1 (fIsE erL (pE "BadJournal"))) [(eVar 0)]), (nd (g1 (fIsE erL (pE "BadLine"))) [(eVar 0)])]) env))) fExt)
  (sRet (eMove 1)))))))))))
def c__law_marks : List D → C := runB 2 1 [] b__law_marks
abbrev N__law_marks : List Str := ["_law_error", "_law_found"]
theorem sc__law_marks : FnScope N__law_marks ["_law_error"] (defScope (top 35)) := ⟨rfl, rfl, rfl, by decide +kernel, rfl, by decide +kernel, by decide +kernel⟩
theorem d__law_marks {k : Nat} (h : Fc K mg)  (gd : Gd (cxOf (L2.CX P w) P w K mg base N__law_marks "_law_marks" (defScope (top 35)) f cdv A outer s H E) (fun c d _ H => E c d H) (k + 1)) :
    SSs (cxOf (L2.CX P w) P w K mg base N__law_marks "_law_marks" (defScope (top 35)) f cdv A outer s H E) ⟨[1], [], true⟩ (fun c d _ H => E c d H) (defBody (top 35)) b__law_marks :=
  (ss_cons (s_setO rfl rfl (asgO gd.nd rfl (by first|exact .inl rfl|exact .inr rfl) (SPL.so (b := true) (spl_lst (SPs.cons (sp_isEo (fun y hy => ⟨h.x_er y hy, h.i_BadBook y hy⟩) h.t_BadBook rfl h.n_isinstance rfl h.g_BadBook svz) (SPs.cons (sp_isEo (fun y hy => ⟨h.x_er y hy, h.i_NoRole y hy⟩) h.t_NoRole rfl h.n_isinstance rfl h.g_NoRole svz) (SPs.cons (sp_isEo (fun y hy => ⟨h.x_er y hy, h.i_BadRule y hy⟩) h.t_BadRule rfl h.n_isinstance rfl h.g_BadRule svz) SPs.nil)))))))
  (ss_cons (s_extend rfl rfl (by first|exact .inl rfl|exact .inr (.inl rfl)|exact .inr (.inr rfl)) (SP.se (SPL.sp (spl_lst (SPs.cons (sp_isEo (fun y hy => ⟨h.x_er y hy, h.i_Full y hy⟩) h.t_Full rfl h.n_isinstance rfl h.g_Full svz) (SPs.cons (sp_isEo (fun y hy => ⟨h.x_er y hy, h.i_NoRule y hy⟩) h.t_NoRule rfl h.n_isinstance rfl h.g_NoRule svz) (SPs.cons (sp_isEo (fun y hy => ⟨h.x_er y hy, h.i_BadRight y hy⟩) h.t_BadRight rfl h.n_isinstance rfl h.g_BadRight svz) SPs.nil)))))))
  (ss_cons (s_extend rfl rfl (by first|exact .inl rfl|exact .inr (.inl rfl)|exact .inr (.inr rfl)) (SP.se (SPL.sp (spl_lst (SPs.cons (sp_isEo (fun y hy => ⟨h.x_er y hy, h.i_BadRoles y hy⟩) h.t_BadRoles rfl h.n_isinstance rfl h.g_BadRoles svz) (SPs.cons (sp_isEo (fun y hy => ⟨h.x_er y hy, h.i_BadHand y hy⟩) h.t_BadHand rfl h.n_isinstance rfl h.g_BadHand svz) (SPs.cons (sp_isEo (fun y hy => ⟨h.x_er y hy, h.i_BadDealing y hy⟩) h.t_BadDealing rfl h.n_isinstance rfl h.g_BadDealing svz) SPs.nil)))))))
  (ss_cons (s_extend rfl rfl (by first|exact .inl rfl|exact .inr (.inl rfl)|exact .inr (.inr rfl)) (SP.se (SPL.sp (spl_lst (SPs.cons (sp_isEo (fun y hy => ⟨h.x_er y hy, h.i_NoDuty y hy⟩) h.t_NoDuty rfl h.n_isinstance rfl h.g_NoDuty svz) (SPs.cons (sp_isEo (fun y hy => ⟨h.x_er y hy, h.i_NotKept y hy⟩) h.t_NotKept rfl h.n_isinstance rfl h.g_NotKept svz) (SPs.cons (sp_isEo (fun y hy => ⟨h.x_er y hy, h.i_BadStaff y hy⟩) h.t_BadStaff rfl h.n_isinstance rfl h.g_BadStaff svz) SPs.nil)))))))
  (ss_cons (s_extend rfl rfl (by first|exact .inl rfl|exact .inr (.inl rfl)|exact .inr (.inr rfl)) (SP.se (SPL.sp (spl_lst (SPs.cons (sp_isEo (fun y hy => ⟨h.x_er y hy, h.i_TooMany y hy⟩) h.t_TooMany rfl h.n_isinstance rfl h.g_TooMany svz) (SPs.cons (sp_isEo (fun y hy => ⟨h.x_er y hy, h.i_OtherSize y hy⟩) h.t_OtherSize rfl h.n_isinstance rfl h.g_OtherSize svz) (SPs.cons (sp_isEo (fun y hy => ⟨h.x_er y hy, h.i_BadOffers y hy⟩) h.t_BadOffers rfl h.n_isinstance rfl h.g_BadOffers svz) SPs.nil)))))))
  (ss_cons (s_extend rfl rfl (by first|exact .inl rfl|exact .inr (.inl rfl)|exact .inr (.inr rfl)) (SP.se (SPL.sp (spl_lst (SPs.cons (sp_isEo (fun y hy => ⟨h.x_er y hy, h.i_NoPerson y hy⟩) h.t_NoPerson rfl h.n_isinstance rfl h.g_NoPerson svz) (SPs.cons (sp_isEo (fun y hy => ⟨h.x_er y hy, h.i_Left y hy⟩) h.t_Left rfl h.n_isinstance rfl h.g_Left svz) (SPs.cons (sp_isEo (fun y hy => ⟨h.x_er y hy, h.i_Dealt y hy⟩) h.t_Dealt rfl h.n_isinstance rfl h.g_Dealt svz) SPs.nil)))))))
  (ss_cons (s_extend rfl rfl (by first|exact .inl rfl|exact .inr (.inl rfl)|exact .inr (.inr rfl)) (SP.se (SPL.sp (spl_lst (SPs.cons (sp_isEo (fun y hy => ⟨h.x_er y hy, h.i_Barred y hy⟩) h.t_Barred rfl h.n_isinstance rfl h.g_Barred svz) (SPs.cons (sp_isEo (fun y hy => ⟨h.x_er y hy, h.i_NotDealt y hy⟩) h.t_NotDealt rfl h.n_isinstance rfl h.g_NotDealt svz) (SPs.cons (sp_isEo (fun y hy => ⟨h.x_er y hy, h.i_NothingToUndo y hy⟩) h.t_NothingToUndo rfl h.n_isinstance rfl h.g_NothingToUndo svz) SPs.nil)))))))
  (ss_cons (s_extend rfl rfl (by first|exact .inl rfl|exact .inr (.inl rfl)|exact .inr (.inr rfl)) (SP.se (SPL.sp (spl_lst (SPs.cons (sp_isEo (fun y hy => ⟨h.x_er y hy, h.i_NothingToRedo y hy⟩) h.t_NothingToRedo rfl h.n_isinstance rfl h.g_NothingToRedo svz) (SPs.cons (sp_isEo (fun y hy => ⟨h.x_er y hy, h.i_NoTrial y hy⟩) h.t_NoTrial rfl h.n_isinstance rfl h.g_NoTrial svz) SPs.nil))))))
  (ss_cons (s_extend rfl rfl (by first|exact .inl rfl|exact .inr (.inl rfl)|exact .inr (.inr rfl)) (SP.se (SPL.sp (spl_lst (SPs.cons (sp_isEo (fun y hy => ⟨h.x_er y hy, h.i_BadJournal y hy⟩) h.t_BadJournal rfl h.n_isinstance rfl h.g_BadJournal svz) (SPs.cons (sp_isEo (fun y hy => ⟨h.x_er y hy, h.i_BadLine y hy⟩) h.t_BadLine rfl h.n_isinstance rfl h.g_BadLine svz) SPs.nil))))))
  (ss_one (s_retO rfl (so_move rfl rfl (by first|exact .inl rfl|exact .inr (.inl rfl)|exact .inr (.inr rfl))))))))))))))
theorem f__law_marks {k : Nat} (h : Fc K mg)  (F : FunD K "_law_marks" "_law_marks" (defArgs (top 35)) (defBody (top 35)) (defScope (top 35)) [] [] f fd) : FnOk P w K mg base (L2.CX P w) (k + 2) f fd ["_law_error"] (spC K 1 [] true c__law_marks) :=
  fn_mk F sc__law_marks rfl (by decide) fun cdv A outer s H E hr => d__law_marks h  (gd_of sc__law_marks.nd hr)
def b__law_right : Rf.Env → Fl := (seqB (sSet 1 (nr (fun ds => mkL (gLstD ds)) [(eCallR [.io 0] c__law_odd), (eCallR [.io 0] c__law_odd), (eCallR [.io 0, .ex (lift (nd gTupD [(eC (.int 2)), (nd gTupD [(eC (.str "a")), (eC (.str "b"))])]))] c__law_bent), (eCallR [.io 0, .ex (lift (nd gTupD [(nd gTupD [(eC (.str "a"))]), (nd gTupD []), (eC (.int 3))]))] c__law_bent)]))
  (seqB (sFor (fun env => ((fun env => itA ((eVar 1) env)) env).at env) (gN 2) (seqB (sSet 3 (lift (nd (gCall 1 [] c__law_errors) [(eVar 2)])))
  (seqB (sFor (fun env => ((fun env => itEn ((eVar 3) env)) env).at env) (gT 2 (gsC (gN 4) (gsC (gN 5) gsN))) (seqB (sIf (liftB (bOr (bNot (fun env => asB ((nd (g1 (fIsE erL pT)) [(eVar 5)]) env))) (bNot (fun env => asB ((nd (g1 (fIsE erL pT)) [(eVar 5)]) env))))) (sRet (lift (eC (.bl false)))) sNil)
  (seqB (sSet 6 (lift (fun env => mkL ((eComp true [8] (fun env => itR1 ((nd (g1 fLenX) [(eVar 3)]) env)) (gN 8) (Tst.f Tst.no) (nd (g2 (fEq false)) [(eVar 4), (eVar 8)])) env))))
  (sIf (liftB (bOr (fun env => asB ((nd (g2 (fEq true)) [(nd (g1 fReprX) [(nd (g1 (fXv erL)) [(eVar 5)])]), (nd (g1 fReprX) [(eVar 2)])]) env)) (fun env => asB ((nd (g2 (fEq true)) [(nd (gCall 1 [] c__law_marks) [(eVar 5)]), (eVar 6)]) env)))) (sRet (lift (eC (.bl false)))) sNil))))
  (seqB (sSet 7 (lift (eMkE "PartError" (eVar 2))))
  (sIf (liftB (bOr (fun env => asB ((nd (g2 (fEq true)) [(nd (g1 fReprX) [(nd (g1 (fXv erL)) [(eVar 7)])]), (nd (g1 fReprX) [(eVar 2)])]) env)) (bOr (fun env => asB ((nd (g2 (fIn false)) [(eC (.bl true)), (nd (gCall 1 [] c__law_marks) [(eVar 7)])]) env)) (bNot (fun env => asB ((nd (g1 (fIsE erL pT)) [(eVar 7)]) env)))))) (sRet (lift (eC (.bl false)))) sNil)))))
  (sRet (lift (eC (.bl true))))))
def c__law_right : List D → C := runB 9 1 [0] b__law_right
abbrev N__law_right : List Str := ["_law_pot_here", "_law_values", "_law_value", "_law_errors_here", "_law_at", "_law_error", "_law_marks_here", "_law_bare", "_law_place"]
theorem sc__law_right : FnScope N__law_right ["_law_pot_here"] (defScope (top 36)) := ⟨rfl, rfl, rfl, by decide +kernel, rfl, by decide +kernel, by decide +kernel⟩
theorem d__law_right {k : Nat} (h : Fc K mg) (k__law_odd : Cal P w K mg base (k + 1) "_law_odd" 1 [0] false [] c__law_odd) (k__law_bent : Cal P w K mg base (k + 1) "_law_bent" 2 [0] false [] c__law_bent) (k__law_errors : Cal P w K mg base (k + 1) "_law_errors" 1 [] false [] c__law_errors) (k__law_marks : Cal P w K mg base (k + 1) "_law_marks" 1 [] true [] c__law_marks) (e_PartError : Rse P w K mg base k "PartError") (gg : ((cxOf (L2.CX P w) P w K mg base N__law_right "_law_right" (defScope (top 36)) f cdv A outer s H E)).A.guards = some []) (gd : Gd (cxOf (L2.CX P w) P w K mg base N__law_right "_law_right" (defScope (top 36)) f cdv A outer s H E) (fun c d _ H => E c d H) (k + 1)) :
    SSs (cxOf (L2.CX P w) P w K mg base N__law_right "_law_right" (defScope (top 36)) f cdv A outer s H E) ⟨[0], [0], false⟩ (fun c d _ H => E c d H) (defBody (top 36)) b__law_right :=
  (ss_cons (s_set rfl rfl (asgE gd.nd rfl (by first|exact .inl rfl|exact .inr rfl) (se_lst (SEs.cons (se_callR gd k__law_odd rfl (SAs.io rfl (by first|exact .inl rfl|exact .inr (.inl rfl)|exact .inr (.inr rfl)) (by decide) (by decide) rfl SAs.nil)) (SEs.cons (se_callR gd k__law_odd rfl (SAs.io rfl (by first|exact .inl rfl|exact .inr (.inl rfl)|exact .inr (.inr rfl)) (by decide) (by decide) rfl SAs.nil)) (SEs.cons (se_callR gd k__law_bent rfl (SAs.io rfl (by first|exact .inl rfl|exact .inr (.inl rfl)|exact .inr (.inr rfl)) (by decide) (by decide) rfl (SAs.ex (SP.se (sp_tup (SPs.cons sp_int (SPs.cons (sp_tup (SPs.cons sp_str (SPs.cons sp_str SPs.nil))) SPs.nil)))) SAs.nil))) (SEs.cons (se_callR gd k__law_bent rfl (SAs.io rfl (by first|exact .inl rfl|exact .inr (.inl rfl)|exact .inr (.inr rfl)) (by decide) (by decide) rfl (SAs.ex (SP.se (sp_tup (SPs.cons (sp_tup (SPs.cons sp_str SPs.nil)) (SPs.cons (sp_tup SPs.nil) (SPs.cons sp_int SPs.nil))))) SAs.nil))) SEs.nil)))))))
  (ss_cons (s_for (vs := [2]) gd (SI.sie (si_any svz)) (sg_name rfl rfl gd.nd rfl (by first|exact .inl rfl|exact .inr rfl)) rfl (ss_cons (s_set rfl rfl (asgE gd.nd rfl (by first|exact .inl rfl|exact .inr rfl) (SP.se (sp_call gd k__law_errors rfl (SPs.cons svz SPs.nil)))))
  (ss_cons (s_for (vs := [4, 5]) gd (SI.sie (si_enum rfl h.n_enumerate svz)) (sg_tup (sgs_cons (sg_name rfl rfl gd.nd rfl (by first|exact .inl rfl|exact .inr rfl)) (sgs_cons (sg_name rfl rfl gd.nd rfl (by first|exact .inl rfl|exact .inr rfl)) sgs_nil)) fun t h => pg_tup gd.calm h) rfl (ss_cons (s_if (STp.ste (SW.st (sw_or (st_not (st_val (sp_isEo (fun y hy => ⟨h.x_er y hy, h.i_PartError y hy⟩) h.t_PartError rfl h.n_isinstance rfl h.g_PartError svz))) (sw_or1 (st_not (st_val (sp_isEt (n := "ValueError") (fun y hy => ⟨h.x_er y hy, h.i_ValueError y hy⟩) h.t_ValueError rfl h.n_isinstance rfl h.n_ValueError (by decide +kernel) svz))))))) (ss_one (s_ret rfl (SP.se sp_bl))) ss_nil)
  (ss_cons (by first | exact (s_set rfl rfl (asgE gd.nd rfl (by first|exact .inl rfl|exact .inr rfl) (SP.se (SPL.sp (spl_comp (own := [("_law_place", 8)]) (T := Tst.no) gd ⟨(si_range1 rfl h.n_range (sp_b1 call_lenX vc_lenX rfl h.n_len boot_len svz)), (blkOk_by (N := N__law_right) (sc := (defScope (top 36))) (own := [("_law_place", 8)]) (by decide +kernel)), fun _ _ _ _ _ => (sg_name rfl rfl gd.blk.nd rfl (by first|exact .inl rfl|exact .inr rfl)), fun _ _ _ _ _ => trivial, fun _ _ _ _ _ => (sp_cmp (op_eqD gd.hu64) v2_eq svz svz)⟩))))) | exact (s_set rfl rfl (AsgL.toE (asgL_comp (b := true) (own := [("_law_place", 8)]) (T := Tst.no) gd rfl rfl ⟨(si_range1 rfl h.n_range (sp_b1 call_lenX vc_lenX rfl h.n_len boot_len svz)), (blkOk_by (N := N__law_right) (sc := (defScope (top 36))) (own := [("_law_place", 8)]) (by decide +kernel)), fun _ _ _ _ _ => (sg_name rfl rfl gd.blk.nd rfl (by first|exact .inl rfl|exact .inr rfl)), fun _ _ _ _ _ => trivial, fun _ _ _ _ _ => (sp_cmp (op_eqD gd.hu64) v2_eq svz svz)⟩ rfl))))
  (ss_one (s_if (STp.ste (SW.st (sw_or (st_cmp (op_neD gd.hu64) v2_ne (sp_b1 (cr_reprX gg gd.hu) vc_reprX rfl h.n_repr boot_repr (sp_xv (fun y hy => ⟨h.x_er y hy, h.v_er y hy⟩) svz)) (sp_b1 (cr_reprX gg gd.hu) vc_reprX rfl h.n_repr boot_repr svz)) (sw_or1 (st_cmp (op_neD gd.hu64) v2_ne (sp_call gd k__law_marks rfl (SPs.cons svz SPs.nil)) svz))))) (ss_one (s_ret rfl (SP.se sp_bl))) ss_nil)))))
  (ss_cons (s_set rfl rfl (asgE gd.nd rfl (by first|exact .inl rfl|exact .inr rfl) (SP.se (sp_mkE gd rfl e_PartError rfl svz))))
  (ss_one (s_if (STp.ste (SW.st (sw_or (st_cmp (op_neD gd.hu64) v2_ne (sp_b1 (cr_reprX gg gd.hu) vc_reprX rfl h.n_repr boot_repr (sp_xv (fun y hy => ⟨h.x_er y hy, h.v_er y hy⟩) svz)) (sp_b1 (cr_reprX gg gd.hu) vc_reprX rfl h.n_repr boot_repr svz)) (sw_or (st_cmp (op_inAll gd.hu) (v2_in false) sp_bl (sp_call gd k__law_marks rfl (SPs.cons svz SPs.nil))) (sw_or1 (st_not (st_val (sp_isEt (n := "ValueError") (fun y hy => ⟨h.x_er y hy, h.i_ValueError y hy⟩) h.t_ValueError rfl h.n_isinstance rfl h.n_ValueError (by decide +kernel) svz)))))))) (ss_one (s_ret rfl (SP.se sp_bl))) ss_nil))))))
  (ss_one (s_ret rfl (SP.se sp_bl)))))
theorem f__law_right {k : Nat} (h : Fc K mg) (k__law_odd : Cal P w K mg base (k + 1) "_law_odd" 1 [0] false [] c__law_odd) (k__law_bent : Cal P w K mg base (k + 1) "_law_bent" 2 [0] false [] c__law_bent) (k__law_errors : Cal P w K mg base (k + 1) "_law_errors" 1 [] false [] c__law_errors) (k__law_marks : Cal P w K mg base (k + 1) "_law_marks" 1 [] true [] c__law_marks) (e_PartError : Rse P w K mg base k "PartError") (F : FunD K "_law_right" "_law_right" (defArgs (top 36)) (defBody (top 36)) (defScope (top 36)) [] [] f fd) : FnG P w K mg base (k + 2) f fd ["_law_pot_here"] (spC K 1 [0] false c__law_right) :=
  fn_mkG F sc__law_right rfl (by decide) fun cdv A outer s H E gg hr => d__law_right h k__law_odd k__law_bent k__law_errors k__law_marks e_PartError gg (gd_of sc__law_right.nd hr)
def b__law_pot : Rf.Env → Fl := (seqB (sSet 2 (lift (vIf (fun env => asB ((nd (g2 fLt) [(eVar 1), (nd (g1 fLenX) [(eVar 0)])]) env)) (nd (g2 fIx) [(eVar 0), (eVar 1)]) (nd (g2 fAdd) [(nd (g2 fMulI) [(eC (.int 1)), (eVar 1)]), (eC (.int 3))]))))
  (seqB (sSet 3 (lift (nd (g2 fMulI) [(nd (g2 fMod) [(nd (g1 fInt) [(nd (g1 fAbs) [(eVar 2)])]), (nd (g2 fPow) [(nd (g2 fPow) [(eC (.int 10)), (eC (.int 60))]), (eC (.int 5))])]), (nd (g1 fInt) [(nd (g2 fGe) [(nd (g1 fAbs) [(eVar 2)]), (nd (g2 fPow) [(eC (.int 10)), (eC (.int 18))])])])])))
  (seqB (sSet 4 (lift (nd (g2 fMod) [(nd (g1 fInt) [(eVar 2)]), (eC (.int 2305843009213693951))])))
  (sRet (liftL (nd gLstD [(eVar 3), (nd (g2 fMod) [(nd (g1 fInt) [(nd (g2 fAdd) [(nd (g2 fAdd) [(nd (g2 fMulI) [(eVar 4), (eC (.int 78317))]), (nd (g2 fMulI) [(nd (g2 fMulI) [(eC (.int 9001)), (eVar 1)]), (eVar 1)])]), (eC (.int 223))])]), (eC (.int 2305843009213693921))]), (eC (.int 0))]))))))
def c__law_pot : List D → C := runB 5 2 [] b__law_pot
abbrev N__law_pot : List Str := ["_law_script", "_law_k", "_law_cell", "_law_first", "_law_small"]
theorem sc__law_pot : FnScope N__law_pot ["_law_script", "_law_k"] (defScope (top 28)) := ⟨rfl, rfl, rfl, by decide +kernel, rfl, by decide +kernel, by decide +kernel⟩
theorem d__law_pot {k : Nat} (h : Fc K mg)  (gd : Gd (cxOf (L2.CX P w) P w K mg base N__law_pot "_law_pot" (defScope (top 28)) f cdv A outer s H E) (fun c d _ H => E c d H) (k + 1)) :
    SSs (cxOf (L2.CX P w) P w K mg base N__law_pot "_law_pot" (defScope (top 28)) f cdv A outer s H E) ⟨[], [], true⟩ (fun c d _ H => E c d H) (defBody (top 28)) b__law_pot :=
  (ss_cons (s_set rfl rfl (asgE gd.nd rfl (by first|exact .inl rfl|exact .inr rfl) (SP.se (sp_if (st_cmp op_lt v2_lt svz (sp_b1 call_lenX vc_lenX rfl h.n_len boot_len svz)) (sp_ix svz svz) (sp_op op_addAll v2_add (sp_op op_mulW v2_mul sp_int svz) sp_int)))))
  (ss_cons (s_set rfl rfl (asgE gd.nd rfl (by first|exact .inl rfl|exact .inr rfl) (SP.se (sp_op op_mulW v2_mul (sp_op op_mod v2_mod (sp_t1 call_intAll vc_int rfl h.n_int boot_int (sp_b1 call_abs vc_abs rfl h.n_abs boot_abs svz)) (sp_op op_powW v2_pow (sp_op op_powW v2_pow sp_int sp_int) sp_int)) (sp_t1 call_intAll vc_int rfl h.n_int boot_int (sp_cmp op_ge v2_ge (sp_b1 call_abs vc_abs rfl h.n_abs boot_abs svz) (sp_op op_powW v2_pow sp_int sp_int)))))))
  (ss_cons (s_set rfl rfl (asgE gd.nd rfl (by first|exact .inl rfl|exact .inr rfl) (SP.se (sp_op op_mod v2_mod (sp_t1 call_intAll vc_int rfl h.n_int boot_int svz) sp_int))))
  (ss_one (s_retO rfl (SPL.so (b := true) (spl_lst (SPs.cons svz (SPs.cons (sp_op op_mod v2_mod (sp_t1 call_intAll vc_int rfl h.n_int boot_int (sp_op op_addAll v2_add (sp_op op_addAll v2_add (sp_op op_mulW v2_mul svz sp_int) (sp_op op_mulW v2_mul (sp_op op_mulW v2_mul sp_int svz) svz)) sp_int)) sp_int) (SPs.cons sp_int SPs.nil))))))))))
theorem f__law_pot {k : Nat} (h : Fc K mg)  (F : FunD K "_law_pot" "_law_pot" (defArgs (top 28)) (defBody (top 28)) (defScope (top 28)) [] [] f fd) : FnOk P w K mg base (L2.CX P w) (k + 2) f fd ["_law_script", "_law_k"] (spC K 2 [] true c__law_pot) :=
  fn_mk F sc__law_pot rfl (by decide) fun cdv A outer s H E hr => d__law_pot h  (gd_of sc__law_pot.nd hr)
def b_law : Rf.Env → Fl := (sRet (lift (nd (g1 fAll) [(fun env => mkL ((eComp true [1] (fun env => itA ((nd (gCall 2 [] c__law_places) [(eVar 0), (eC (.int 4))]) env)) (gN 1) (Tst.f Tst.no) (eCallT c__law_right (nd (gCall 2 [] c__law_pot) [(eVar 0), (eVar 1)]))) env))])))
def c0_law : List D → C := runB 2 1 [] b_law
def p_law : Pe1 c0_law where
  f := _
  ok := fun a => by
    simp only [c0_law, b_law, runB, env0, outs, w_ret, w_nil, w_bad, w_seq, w_ifL, w_if, w_setL, w_setLL, w_dropL, w_retL, w_retLL, w_nd0, w_nd1, w_nd2, w_nd3, g1, g2, eVar, eC, eComp, compF_gN, compF_gT, Tst.f, wipeE, mkL, O.bind, bAnd, bOr, bNot, vAnd, vOr, vNot, vIf, eChain, eSl, eSlL, oNone, oSome, eTupS, eLstS, seqSt, eBm, eMeth, gMeth, ePrp, gCall, keepI, noX, seqF, xa2, xa3, List.map_cons, List.map_nil, List.cons_append, List.nil_append, xa4, xa5, xa0, xa1, List.replicate_succ, List.replicate_zero, Nat.reduceAdd, Nat.reduceSub, Bool.true_or, Bool.false_or, Bool.true_and]
    rfl
def c_law : List D → C := p_law.c
abbrev N_law : List Str := ["_law_script", "_law_place"]
theorem sc_law : FnScope N_law ["_law_script"] (defScope (top 37)) := ⟨rfl, rfl, rfl, by decide +kernel, rfl, by decide +kernel, by decide +kernel⟩
theorem d_law {k : Nat} (h : Fc K mg) (k__law_places : Cal P w K mg base (k + 1) "_law_places" 2 [] false [] c__law_places) (k__law_right : CalG P w K mg base (k + 1) "_law_right" 1 [0] false [] c__law_right) (k__law_pot : Cal P w K mg base (k + 1) "_law_pot" 2 [] true [] c__law_pot) (gg : ((cxOf (L2.CX P w) P w K mg base N_law "law" (defScope (top 37)) f cdv A outer s H E)).A.guards = some []) (gd : Gd (cxOf (L2.CX P w) P w K mg base N_law "law" (defScope (top 37)) f cdv A outer s H E) (fun c d _ H => E c d H) (k + 1)) :
    SSs (cxOf (L2.CX P w) P w K mg base N_law "law" (defScope (top 37)) f cdv A outer s H E) ⟨[], [], false⟩ (fun c d _ H => E c d H) (defBody (top 37)) b_law :=
  (ss_one (s_ret rfl (SP.se (sp_b1 (cr_all gd.calm) vc_all rfl h.n_all boot_all (SPL.sp (spl_comp (own := [("_law_place", 1)]) (T := Tst.no) gd ⟨(si_any (sp_call gd k__law_places rfl (SPs.cons svz (SPs.cons sp_int SPs.nil)))), (blkOk_by (N := N_law) (sc := (defScope (top 37))) (own := [("_law_place", 1)]) (by decide +kernel)), fun _ _ _ _ _ => (sg_name rfl rfl gd.blk.nd rfl (by first|exact .inl rfl|exact .inr rfl)), fun _ _ _ _ _ => trivial, fun _ _ _ _ _ => (sp_callTG gd.blk gg k__law_right rfl (spn_call gd.blk k__law_pot rfl (SPs.cons svz (SPs.cons svz SPs.nil))))⟩))))))
theorem f_law {k : Nat} (h : Fc K mg) (k__law_places : Cal P w K mg base (k + 1) "_law_places" 2 [] false [] c__law_places) (k__law_right : CalG P w K mg base (k + 1) "_law_right" 1 [0] false [] c__law_right) (k__law_pot : Cal P w K mg base (k + 1) "_law_pot" 2 [] true [] c__law_pot) (F : FunD K "law" "law" (defArgs (top 37)) (defBody (top 37)) (defScope (top 37)) [] [] f fd) : FnG P w K mg base (k + 2) f fd ["_law_script"] (spC K 1 [] false c_law) :=
  spC_cong p_law.eq ▸ fn_mkG F sc_law rfl (by decide) fun cdv A outer s H E gg hr => d_law h k__law_places k__law_right k__law_pot gg (gd_of sc_law.nd hr)
end
end K00
namespace K00
open PySem PySem.Spec PyProof.Rows L2 Rf Rh Pg
structure Z (P : Program) (K : PySem.W.Frag) (mg : Str → Option Value) (base : Heap) : Prop where
  c : SaysX fx fn K
  s : ∀ d ∈ sn, fnS K (d.ad K) = d.val ∧ d.ok K = true
  pf : P.main.file = fileS
  pt : (P.main.scope.names.lookup ("super" : Str)).isSome = false
  tb : TbK K mg base
  ex : ∃ h : Heap, K.In h ∧ h.Ns mainGlobals mg
section
variable {P : Program} {w : World} {K : PySem.W.Frag} {mg : Str → Option Value} {base : Heap}
theorem Z.glo (z : Z P K mg base) {x : Str} (h : fxFa (.glo x) K = true) : mg x = some (.ref (He.ga K x)) := by
  obtain ⟨_, X, G⟩ := z.ex
  exact He.glo_ok X G h
theorem Z.free (z : Z P K mg base) {x : Str} (h : fxFa (.free x) K = true) : mg x = none := by
  obtain ⟨_, X, G⟩ := z.ex
  exact He.free_ok X G h
theorem Z.fc (z : Z P K mg base) : Fc K mg where
  n_ValueError := z.free (z.c.fact 30 (f := fxFa (.free "ValueError")) rfl)
  x_er := fun y hy => excC_ok (List.all_eq_true.mp (z.c.fact 31 (f := (fun K => erL.all fun y => fxExcC y K)) rfl) y hy)
  v_er := fun y hy => He.eqO_ok (List.all_eq_true.mp (z.c.fact 32 (f := (fun K => erL.all fun y => He.eqO (PySem.W.findIn K (.ref (He.ga K y)) "value") (some none))) rfl) y hy)
  g_BadBook := z.glo (z.c.fact 34 (f := fxFa (.glo "BadBook")) rfl)
  i_BadBook := (kit_ok (z.c.fact 36 (f := fxKit erL (fun K => .ref (He.ga K "BadBook")) (pE "BadBook")) rfl)).1
  t_BadBook := (kit_ok (z.c.fact 36 (f := fxKit erL (fun K => .ref (He.ga K "BadBook")) (pE "BadBook")) rfl)).2
  g_NoRole := z.glo (z.c.fact 37 (f := fxFa (.glo "NoRole")) rfl)
  i_NoRole := (kit_ok (z.c.fact 39 (f := fxKit erL (fun K => .ref (He.ga K "NoRole")) (pE "NoRole")) rfl)).1
  t_NoRole := (kit_ok (z.c.fact 39 (f := fxKit erL (fun K => .ref (He.ga K "NoRole")) (pE "NoRole")) rfl)).2
  g_BadRule := z.glo (z.c.fact 40 (f := fxFa (.glo "BadRule")) rfl)
  i_BadRule := (kit_ok (z.c.fact 42 (f := fxKit erL (fun K => .ref (He.ga K "BadRule")) (pE "BadRule")) rfl)).1
  t_BadRule := (kit_ok (z.c.fact 42 (f := fxKit erL (fun K => .ref (He.ga K "BadRule")) (pE "BadRule")) rfl)).2
  g_Full := z.glo (z.c.fact 43 (f := fxFa (.glo "Full")) rfl)
  i_Full := (kit_ok (z.c.fact 45 (f := fxKit erL (fun K => .ref (He.ga K "Full")) (pE "Full")) rfl)).1
  t_Full := (kit_ok (z.c.fact 45 (f := fxKit erL (fun K => .ref (He.ga K "Full")) (pE "Full")) rfl)).2
  g_NoRule := z.glo (z.c.fact 46 (f := fxFa (.glo "NoRule")) rfl)
  i_NoRule := (kit_ok (z.c.fact 48 (f := fxKit erL (fun K => .ref (He.ga K "NoRule")) (pE "NoRule")) rfl)).1
  t_NoRule := (kit_ok (z.c.fact 48 (f := fxKit erL (fun K => .ref (He.ga K "NoRule")) (pE "NoRule")) rfl)).2
  g_BadRight := z.glo (z.c.fact 49 (f := fxFa (.glo "BadRight")) rfl)
  i_BadRight := (kit_ok (z.c.fact 51 (f := fxKit erL (fun K => .ref (He.ga K "BadRight")) (pE "BadRight")) rfl)).1
  t_BadRight := (kit_ok (z.c.fact 51 (f := fxKit erL (fun K => .ref (He.ga K "BadRight")) (pE "BadRight")) rfl)).2
  g_BadRoles := z.glo (z.c.fact 52 (f := fxFa (.glo "BadRoles")) rfl)
  i_BadRoles := (kit_ok (z.c.fact 54 (f := fxKit erL (fun K => .ref (He.ga K "BadRoles")) (pE "BadRoles")) rfl)).1
  t_BadRoles := (kit_ok (z.c.fact 54 (f := fxKit erL (fun K => .ref (He.ga K "BadRoles")) (pE "BadRoles")) rfl)).2
  g_BadHand := z.glo (z.c.fact 55 (f := fxFa (.glo "BadHand")) rfl)
  i_BadHand := (kit_ok (z.c.fact 57 (f := fxKit erL (fun K => .ref (He.ga K "BadHand")) (pE "BadHand")) rfl)).1
  t_BadHand := (kit_ok (z.c.fact 57 (f := fxKit erL (fun K => .ref (He.ga K "BadHand")) (pE "BadHand")) rfl)).2
  g_BadDealing := z.glo (z.c.fact 58 (f := fxFa (.glo "BadDealing")) rfl)
  i_BadDealing := (kit_ok (z.c.fact 60 (f := fxKit erL (fun K => .ref (He.ga K "BadDealing")) (pE "BadDealing")) rfl)).1
  t_BadDealing := (kit_ok (z.c.fact 60 (f := fxKit erL (fun K => .ref (He.ga K "BadDealing")) (pE "BadDealing")) rfl)).2
  g_NoDuty := z.glo (z.c.fact 61 (f := fxFa (.glo "NoDuty")) rfl)
  i_NoDuty := (kit_ok (z.c.fact 63 (f := fxKit erL (fun K => .ref (He.ga K "NoDuty")) (pE "NoDuty")) rfl)).1
  t_NoDuty := (kit_ok (z.c.fact 63 (f := fxKit erL (fun K => .ref (He.ga K "NoDuty")) (pE "NoDuty")) rfl)).2
  g_NotKept := z.glo (z.c.fact 64 (f := fxFa (.glo "NotKept")) rfl)
  i_NotKept := (kit_ok (z.c.fact 66 (f := fxKit erL (fun K => .ref (He.ga K "NotKept")) (pE "NotKept")) rfl)).1
  t_NotKept := (kit_ok (z.c.fact 66 (f := fxKit erL (fun K => .ref (He.ga K "NotKept")) (pE "NotKept")) rfl)).2
  g_BadStaff := z.glo (z.c.fact 67 (f := fxFa (.glo "BadStaff")) rfl)
  i_BadStaff := (kit_ok (z.c.fact 69 (f := fxKit erL (fun K => .ref (He.ga K "BadStaff")) (pE "BadStaff")) rfl)).1
  t_BadStaff := (kit_ok (z.c.fact 69 (f := fxKit erL (fun K => .ref (He.ga K "BadStaff")) (pE "BadStaff")) rfl)).2
  g_TooMany := z.glo (z.c.fact 70 (f := fxFa (.glo "TooMany")) rfl)
  i_TooMany := (kit_ok (z.c.fact 72 (f := fxKit erL (fun K => .ref (He.ga K "TooMany")) (pE "TooMany")) rfl)).1
  t_TooMany := (kit_ok (z.c.fact 72 (f := fxKit erL (fun K => .ref (He.ga K "TooMany")) (pE "TooMany")) rfl)).2
  g_OtherSize := z.glo (z.c.fact 73 (f := fxFa (.glo "OtherSize")) rfl)
  i_OtherSize := (kit_ok (z.c.fact 75 (f := fxKit erL (fun K => .ref (He.ga K "OtherSize")) (pE "OtherSize")) rfl)).1
  t_OtherSize := (kit_ok (z.c.fact 75 (f := fxKit erL (fun K => .ref (He.ga K "OtherSize")) (pE "OtherSize")) rfl)).2
  g_BadOffers := z.glo (z.c.fact 76 (f := fxFa (.glo "BadOffers")) rfl)
  i_BadOffers := (kit_ok (z.c.fact 78 (f := fxKit erL (fun K => .ref (He.ga K "BadOffers")) (pE "BadOffers")) rfl)).1
  t_BadOffers := (kit_ok (z.c.fact 78 (f := fxKit erL (fun K => .ref (He.ga K "BadOffers")) (pE "BadOffers")) rfl)).2
  g_NoPerson := z.glo (z.c.fact 79 (f := fxFa (.glo "NoPerson")) rfl)
  i_NoPerson := (kit_ok (z.c.fact 81 (f := fxKit erL (fun K => .ref (He.ga K "NoPerson")) (pE "NoPerson")) rfl)).1
  t_NoPerson := (kit_ok (z.c.fact 81 (f := fxKit erL (fun K => .ref (He.ga K "NoPerson")) (pE "NoPerson")) rfl)).2
  g_Left := z.glo (z.c.fact 82 (f := fxFa (.glo "Left")) rfl)
  i_Left := (kit_ok (z.c.fact 84 (f := fxKit erL (fun K => .ref (He.ga K "Left")) (pE "Left")) rfl)).1
  t_Left := (kit_ok (z.c.fact 84 (f := fxKit erL (fun K => .ref (He.ga K "Left")) (pE "Left")) rfl)).2
  g_Dealt := z.glo (z.c.fact 85 (f := fxFa (.glo "Dealt")) rfl)
  i_Dealt := (kit_ok (z.c.fact 87 (f := fxKit erL (fun K => .ref (He.ga K "Dealt")) (pE "Dealt")) rfl)).1
  t_Dealt := (kit_ok (z.c.fact 87 (f := fxKit erL (fun K => .ref (He.ga K "Dealt")) (pE "Dealt")) rfl)).2
  g_Barred := z.glo (z.c.fact 88 (f := fxFa (.glo "Barred")) rfl)
  i_Barred := (kit_ok (z.c.fact 90 (f := fxKit erL (fun K => .ref (He.ga K "Barred")) (pE "Barred")) rfl)).1
  t_Barred := (kit_ok (z.c.fact 90 (f := fxKit erL (fun K => .ref (He.ga K "Barred")) (pE "Barred")) rfl)).2
  g_NotDealt := z.glo (z.c.fact 91 (f := fxFa (.glo "NotDealt")) rfl)
  i_NotDealt := (kit_ok (z.c.fact 93 (f := fxKit erL (fun K => .ref (He.ga K "NotDealt")) (pE "NotDealt")) rfl)).1
  t_NotDealt := (kit_ok (z.c.fact 93 (f := fxKit erL (fun K => .ref (He.ga K "NotDealt")) (pE "NotDealt")) rfl)).2
  g_NothingToUndo := z.glo (z.c.fact 94 (f := fxFa (.glo "NothingToUndo")) rfl)
  i_NothingToUndo := (kit_ok (z.c.fact 96 (f := fxKit erL (fun K => .ref (He.ga K "NothingToUndo")) (pE "NothingToUndo")) rfl)).1
  t_NothingToUndo := (kit_ok (z.c.fact 96 (f := fxKit erL (fun K => .ref (He.ga K "NothingToUndo")) (pE "NothingToUndo")) rfl)).2
  g_NothingToRedo := z.glo (z.c.fact 97 (f := fxFa (.glo "NothingToRedo")) rfl)
  i_NothingToRedo := (kit_ok (z.c.fact 99 (f := fxKit erL (fun K => .ref (He.ga K "NothingToRedo")) (pE "NothingToRedo")) rfl)).1
  t_NothingToRedo := (kit_ok (z.c.fact 99 (f := fxKit erL (fun K => .ref (He.ga K "NothingToRedo")) (pE "NothingToRedo")) rfl)).2
  g_NoTrial := z.glo (z.c.fact 100 (f := fxFa (.glo "NoTrial")) rfl)
  i_NoTrial := (kit_ok (z.c.fact 102 (f := fxKit erL (fun K => .ref (He.ga K "NoTrial")) (pE "NoTrial")) rfl)).1
  t_NoTrial := (kit_ok (z.c.fact 102 (f := fxKit erL (fun K => .ref (He.ga K "NoTrial")) (pE "NoTrial")) rfl)).2
  g_BadJournal := z.glo (z.c.fact 103 (f := fxFa (.glo "BadJournal")) rfl)
  i_BadJournal := (kit_ok (z.c.fact 105 (f := fxKit erL (fun K => .ref (He.ga K "BadJournal")) (pE "BadJournal")) rfl)).1
  t_BadJournal := (kit_ok (z.c.fact 105 (f := fxKit erL (fun K => .ref (He.ga K "BadJournal")) (pE "BadJournal")) rfl)).2
  g_BadLine := z.glo (z.c.fact 106 (f := fxFa (.glo "BadLine")) rfl)
  i_BadLine := (kit_ok (z.c.fact 108 (f := fxKit erL (fun K => .ref (He.ga K "BadLine")) (pE "BadLine")) rfl)).1
  t_BadLine := (kit_ok (z.c.fact 108 (f := fxKit erL (fun K => .ref (He.ga K "BadLine")) (pE "BadLine")) rfl)).2
  g_PartError := z.glo (z.c.fact 109 (f := fxFa (.glo "PartError")) rfl)
  i_PartError := (kit_ok (z.c.fact 111 (f := fxKit erL (fun K => .ref (He.ga K "PartError")) (pT)) rfl)).1
  t_PartError := (kit_ok (z.c.fact 111 (f := fxKit erL (fun K => .ref (He.ga K "PartError")) (pT)) rfl)).2
  i_ValueError := (kit_ok (z.c.fact 33 (f := fxKit erL (fun _ => .type "ValueError") pT) rfl)).1
  t_ValueError := (kit_ok (z.c.fact 33 (f := fxKit erL (fun _ => .type "ValueError") pT) rfl)).2
  n_len := z.free (z.c.fact 0 (f := fxFa (.free "len")) rfl)
  n_abs := z.free (z.c.fact 1 (f := fxFa (.free "abs")) rfl)
  n_all := z.free (z.c.fact 2 (f := fxFa (.free "all")) rfl)
  n_any := z.free (z.c.fact 3 (f := fxFa (.free "any")) rfl)
  n_sum := z.free (z.c.fact 4 (f := fxFa (.free "sum")) rfl)
  n_int := z.free (z.c.fact 5 (f := fxFa (.free "int")) rfl)
  n_str := z.free (z.c.fact 6 (f := fxFa (.free "str")) rfl)
  n_tuple := z.free (z.c.fact 7 (f := fxFa (.free "tuple")) rfl)
  n_list := z.free (z.c.fact 8 (f := fxFa (.free "list")) rfl)
  n_sorted := z.free (z.c.fact 9 (f := fxFa (.free "sorted")) rfl)
  n_min := z.free (z.c.fact 10 (f := fxFa (.free "min")) rfl)
  n_max := z.free (z.c.fact 11 (f := fxFa (.free "max")) rfl)
  n_range := z.free (z.c.fact 12 (f := fxFa (.free "range")) rfl)
  n_enumerate := z.free (z.c.fact 13 (f := fxFa (.free "enumerate")) rfl)
  n_zip := z.free (z.c.fact 14 (f := fxFa (.free "zip")) rfl)
  n_isinstance := z.free (z.c.fact 15 (f := fxFa (.free "isinstance")) rfl)
  n_bool := z.free (z.c.fact 16 (f := fxFa (.free "bool")) rfl)
  n_set := z.free (z.c.fact 17 (f := fxFa (.free "set")) rfl)
  n_dict := z.free (z.c.fact 18 (f := fxFa (.free "dict")) rfl)
  n_repr := z.free (z.c.fact 19 (f := fxFa (.free "repr")) rfl)
theorem supS (z : Z P K mg base) : (∃ fd, SupI P K sup.qual sup.params sup.body sup.scope (sup.ad K) (He.ga K sup.base) fd ∧ Binds K fd ["self", "value"] []) ∧ PySem.W.typeIn K (.ref (sup.ad K)) = some (.type "function") :=
  SX.supI (z.s sup (List.mem_singleton.mpr rfl)).1 (z.s sup (List.mem_singleton.mpr rfl)).2 z.pf (by kernel_rfl) z.pt (by kernel_rfl) (by kernel_rfl) (by kernel_rfl) (by kernel_rfl) (by kernel_rfl) (by kernel_rfl) (by kernel_rfl) (by decide +kernel) (by decide +kernel) (fun _ _ _ _ _ _ _ us hl => match us, hl with | [_, _], _ => rfl)
theorem T_e_BadBook (z : Z P K mg base) : Rse P w K mg base 1 "BadBook" := by
  obtain ⟨⟨fd, S, b⟩, tI⟩ := supS z
  exact rses (d := sup) rfl (fun _ => rfl) S tI b (z.glo (z.c.fact 34 (f := fxFa (.glo "BadBook")) rfl)) (erC_ok (z.c.fact 35 (f := fxErC "PartError" "BadBook") rfl))
theorem T_e_NoRole (z : Z P K mg base) : Rse P w K mg base 1 "NoRole" := by
  obtain ⟨⟨fd, S, b⟩, tI⟩ := supS z
  exact rses (d := sup) rfl (fun _ => rfl) S tI b (z.glo (z.c.fact 37 (f := fxFa (.glo "NoRole")) rfl)) (erC_ok (z.c.fact 38 (f := fxErC "PartError" "NoRole") rfl))
theorem T_e_BadRule (z : Z P K mg base) : Rse P w K mg base 1 "BadRule" := by
  obtain ⟨⟨fd, S, b⟩, tI⟩ := supS z
  exact rses (d := sup) rfl (fun _ => rfl) S tI b (z.glo (z.c.fact 40 (f := fxFa (.glo "BadRule")) rfl)) (erC_ok (z.c.fact 41 (f := fxErC "PartError" "BadRule") rfl))
theorem T_e_Full (z : Z P K mg base) : Rse P w K mg base 1 "Full" := by
  obtain ⟨⟨fd, S, b⟩, tI⟩ := supS z
  exact rses (d := sup) rfl (fun _ => rfl) S tI b (z.glo (z.c.fact 43 (f := fxFa (.glo "Full")) rfl)) (erC_ok (z.c.fact 44 (f := fxErC "PartError" "Full") rfl))
theorem T_e_NoRule (z : Z P K mg base) : Rse P w K mg base 1 "NoRule" := by
  obtain ⟨⟨fd, S, b⟩, tI⟩ := supS z
  exact rses (d := sup) rfl (fun _ => rfl) S tI b (z.glo (z.c.fact 46 (f := fxFa (.glo "NoRule")) rfl)) (erC_ok (z.c.fact 47 (f := fxErC "PartError" "NoRule") rfl))
theorem T_e_BadRight (z : Z P K mg base) : Rse P w K mg base 1 "BadRight" := by
  obtain ⟨⟨fd, S, b⟩, tI⟩ := supS z
  exact rses (d := sup) rfl (fun _ => rfl) S tI b (z.glo (z.c.fact 49 (f := fxFa (.glo "BadRight")) rfl)) (erC_ok (z.c.fact 50 (f := fxErC "PartError" "BadRight") rfl))
theorem T_e_BadRoles (z : Z P K mg base) : Rse P w K mg base 1 "BadRoles" := by
  obtain ⟨⟨fd, S, b⟩, tI⟩ := supS z
  exact rses (d := sup) rfl (fun _ => rfl) S tI b (z.glo (z.c.fact 52 (f := fxFa (.glo "BadRoles")) rfl)) (erC_ok (z.c.fact 53 (f := fxErC "PartError" "BadRoles") rfl))
theorem T_e_BadHand (z : Z P K mg base) : Rse P w K mg base 1 "BadHand" := by
  obtain ⟨⟨fd, S, b⟩, tI⟩ := supS z
  exact rses (d := sup) rfl (fun _ => rfl) S tI b (z.glo (z.c.fact 55 (f := fxFa (.glo "BadHand")) rfl)) (erC_ok (z.c.fact 56 (f := fxErC "PartError" "BadHand") rfl))
theorem T_e_BadDealing (z : Z P K mg base) : Rse P w K mg base 1 "BadDealing" := by
  obtain ⟨⟨fd, S, b⟩, tI⟩ := supS z
  exact rses (d := sup) rfl (fun _ => rfl) S tI b (z.glo (z.c.fact 58 (f := fxFa (.glo "BadDealing")) rfl)) (erC_ok (z.c.fact 59 (f := fxErC "PartError" "BadDealing") rfl))
theorem T_e_NoDuty (z : Z P K mg base) : Rse P w K mg base 1 "NoDuty" := by
  obtain ⟨⟨fd, S, b⟩, tI⟩ := supS z
  exact rses (d := sup) rfl (fun _ => rfl) S tI b (z.glo (z.c.fact 61 (f := fxFa (.glo "NoDuty")) rfl)) (erC_ok (z.c.fact 62 (f := fxErC "PartError" "NoDuty") rfl))
theorem T_e_NotKept (z : Z P K mg base) : Rse P w K mg base 1 "NotKept" := by
  obtain ⟨⟨fd, S, b⟩, tI⟩ := supS z
  exact rses (d := sup) rfl (fun _ => rfl) S tI b (z.glo (z.c.fact 64 (f := fxFa (.glo "NotKept")) rfl)) (erC_ok (z.c.fact 65 (f := fxErC "PartError" "NotKept") rfl))
theorem T_e_BadStaff (z : Z P K mg base) : Rse P w K mg base 1 "BadStaff" := by
  obtain ⟨⟨fd, S, b⟩, tI⟩ := supS z
  exact rses (d := sup) rfl (fun _ => rfl) S tI b (z.glo (z.c.fact 67 (f := fxFa (.glo "BadStaff")) rfl)) (erC_ok (z.c.fact 68 (f := fxErC "PartError" "BadStaff") rfl))
theorem T_e_TooMany (z : Z P K mg base) : Rse P w K mg base 1 "TooMany" := by
  obtain ⟨⟨fd, S, b⟩, tI⟩ := supS z
  exact rses (d := sup) rfl (fun _ => rfl) S tI b (z.glo (z.c.fact 70 (f := fxFa (.glo "TooMany")) rfl)) (erC_ok (z.c.fact 71 (f := fxErC "PartError" "TooMany") rfl))
theorem T_e_OtherSize (z : Z P K mg base) : Rse P w K mg base 1 "OtherSize" := by
  obtain ⟨⟨fd, S, b⟩, tI⟩ := supS z
  exact rses (d := sup) rfl (fun _ => rfl) S tI b (z.glo (z.c.fact 73 (f := fxFa (.glo "OtherSize")) rfl)) (erC_ok (z.c.fact 74 (f := fxErC "PartError" "OtherSize") rfl))
theorem T_e_BadOffers (z : Z P K mg base) : Rse P w K mg base 1 "BadOffers" := by
  obtain ⟨⟨fd, S, b⟩, tI⟩ := supS z
  exact rses (d := sup) rfl (fun _ => rfl) S tI b (z.glo (z.c.fact 76 (f := fxFa (.glo "BadOffers")) rfl)) (erC_ok (z.c.fact 77 (f := fxErC "PartError" "BadOffers") rfl))
theorem T_e_NoPerson (z : Z P K mg base) : Rse P w K mg base 1 "NoPerson" := by
  obtain ⟨⟨fd, S, b⟩, tI⟩ := supS z
  exact rses (d := sup) rfl (fun _ => rfl) S tI b (z.glo (z.c.fact 79 (f := fxFa (.glo "NoPerson")) rfl)) (erC_ok (z.c.fact 80 (f := fxErC "PartError" "NoPerson") rfl))
theorem T_e_Left (z : Z P K mg base) : Rse P w K mg base 1 "Left" := by
  obtain ⟨⟨fd, S, b⟩, tI⟩ := supS z
  exact rses (d := sup) rfl (fun _ => rfl) S tI b (z.glo (z.c.fact 82 (f := fxFa (.glo "Left")) rfl)) (erC_ok (z.c.fact 83 (f := fxErC "PartError" "Left") rfl))
theorem T_e_Dealt (z : Z P K mg base) : Rse P w K mg base 1 "Dealt" := by
  obtain ⟨⟨fd, S, b⟩, tI⟩ := supS z
  exact rses (d := sup) rfl (fun _ => rfl) S tI b (z.glo (z.c.fact 85 (f := fxFa (.glo "Dealt")) rfl)) (erC_ok (z.c.fact 86 (f := fxErC "PartError" "Dealt") rfl))
theorem T_e_Barred (z : Z P K mg base) : Rse P w K mg base 1 "Barred" := by
  obtain ⟨⟨fd, S, b⟩, tI⟩ := supS z
  exact rses (d := sup) rfl (fun _ => rfl) S tI b (z.glo (z.c.fact 88 (f := fxFa (.glo "Barred")) rfl)) (erC_ok (z.c.fact 89 (f := fxErC "PartError" "Barred") rfl))
theorem T_e_NotDealt (z : Z P K mg base) : Rse P w K mg base 1 "NotDealt" := by
  obtain ⟨⟨fd, S, b⟩, tI⟩ := supS z
  exact rses (d := sup) rfl (fun _ => rfl) S tI b (z.glo (z.c.fact 91 (f := fxFa (.glo "NotDealt")) rfl)) (erC_ok (z.c.fact 92 (f := fxErC "PartError" "NotDealt") rfl))
theorem T_e_NothingToUndo (z : Z P K mg base) : Rse P w K mg base 1 "NothingToUndo" := by
  obtain ⟨⟨fd, S, b⟩, tI⟩ := supS z
  exact rses (d := sup) rfl (fun _ => rfl) S tI b (z.glo (z.c.fact 94 (f := fxFa (.glo "NothingToUndo")) rfl)) (erC_ok (z.c.fact 95 (f := fxErC "PartError" "NothingToUndo") rfl))
theorem T_e_NothingToRedo (z : Z P K mg base) : Rse P w K mg base 1 "NothingToRedo" := by
  obtain ⟨⟨fd, S, b⟩, tI⟩ := supS z
  exact rses (d := sup) rfl (fun _ => rfl) S tI b (z.glo (z.c.fact 97 (f := fxFa (.glo "NothingToRedo")) rfl)) (erC_ok (z.c.fact 98 (f := fxErC "PartError" "NothingToRedo") rfl))
theorem T_e_NoTrial (z : Z P K mg base) : Rse P w K mg base 1 "NoTrial" := by
  obtain ⟨⟨fd, S, b⟩, tI⟩ := supS z
  exact rses (d := sup) rfl (fun _ => rfl) S tI b (z.glo (z.c.fact 100 (f := fxFa (.glo "NoTrial")) rfl)) (erC_ok (z.c.fact 101 (f := fxErC "PartError" "NoTrial") rfl))
theorem T_e_BadJournal (z : Z P K mg base) : Rse P w K mg base 1 "BadJournal" := by
  obtain ⟨⟨fd, S, b⟩, tI⟩ := supS z
  exact rses (d := sup) rfl (fun _ => rfl) S tI b (z.glo (z.c.fact 103 (f := fxFa (.glo "BadJournal")) rfl)) (erC_ok (z.c.fact 104 (f := fxErC "PartError" "BadJournal") rfl))
theorem T_e_BadLine (z : Z P K mg base) : Rse P w K mg base 1 "BadLine" := by
  obtain ⟨⟨fd, S, b⟩, tI⟩ := supS z
  exact rses (d := sup) rfl (fun _ => rfl) S tI b (z.glo (z.c.fact 106 (f := fxFa (.glo "BadLine")) rfl)) (erC_ok (z.c.fact 107 (f := fxErC "PartError" "BadLine") rfl))
theorem T_e_PartError (z : Z P K mg base) : Rse P w K mg base 1 "PartError" := by
  obtain ⟨⟨fd, S, b⟩, tI⟩ := supS z
  exact rses (d := sup) rfl (fun _ => rfl) S tI b (z.glo (z.c.fact 109 (f := fxFa (.glo "PartError")) rfl)) (erC_ok (z.c.fact 110 (f := fxErC "PartError" "PartError") rfl))
theorem O__law_places (z : Z P K mg base) : ∃ fd, FunD K "_law_places" "_law_places" (defArgs (top 31)) (defBody (top 31)) (defScope (top 31)) [] [] (He.ga K "_law_places") fd ∧ FnOk P w K mg base (L2.CX P w) 2 (He.ga K "_law_places") fd ["_law_script", "_law_most"] (spC K 2 [] false c__law_places) := by
  obtain ⟨fd, F⟩ := z.c.def_ 0 (d := x__law_places) rfl
  exact ⟨fd, F, f__law_places (k := 0) z.fc  F⟩
theorem T_k__law_places (z : Z P K mg base) : Cal P w K mg base 2 "_law_places" 2 [] false [] c__law_places := by
  obtain ⟨fd, F, O⟩ := O__law_places z
  exact cal_of (z.glo (z.c.fact 20 (f := fxFa (.glo "_law_places")) rfl)) F.kp rfl O (FunD.bindsN F fun _ _ _ _ _ _ us hl => match us, hl with | [_, _], _ => rfl)
theorem O__law_take (z : Z P K mg base) : ∃ fd, FunD K "_law_take" "_law_take" (defArgs (top 29)) (defBody (top 29)) (defScope (top 29)) [] [] (He.ga K "_law_take") fd ∧ FnOk P w K mg base (L2.CX P w) 2 (He.ga K "_law_take") fd ["_law_pot_here", "_law_upto"] (spC K 2 [0] false c__law_take) := by
  obtain ⟨fd, F⟩ := z.c.def_ 1 (d := x__law_take) rfl
  exact ⟨fd, F, f__law_take (k := 0) z.fc  F⟩
theorem T_k__law_take (z : Z P K mg base) : Cal P w K mg base 2 "_law_take" 2 [0] false [] c__law_take := by
  obtain ⟨fd, F, O⟩ := O__law_take z
  exact cal_of (z.glo (z.c.fact 21 (f := fxFa (.glo "_law_take")) rfl)) F.kp rfl O (FunD.bindsN F fun _ _ _ _ _ _ us hl => match us, hl with | [_, _], _ => rfl)
theorem O__law_of (z : Z P K mg base) : ∃ fd, FunD K "_law_of" "_law_of" (defArgs (top 30)) (defBody (top 30)) (defScope (top 30)) [] [] (He.ga K "_law_of") fd ∧ FnOk P w K mg base (L2.CX P w) 3 (He.ga K "_law_of") fd ["_law_pot_here", "_law_some"] (spC K 2 [0] false c__law_of) := by
  obtain ⟨fd, F⟩ := z.c.def_ 2 (d := x__law_of) rfl
  exact ⟨fd, F, f__law_of (k := 1) z.fc ((T_k__law_take z).mono (by decide)) F⟩
theorem T_k__law_of (z : Z P K mg base) : Cal P w K mg base 3 "_law_of" 2 [0] false [] c__law_of := by
  obtain ⟨fd, F, O⟩ := O__law_of z
  exact cal_of (z.glo (z.c.fact 22 (f := fxFa (.glo "_law_of")) rfl)) F.kp rfl O (FunD.bindsN F fun _ _ _ _ _ _ us hl => match us, hl with | [_, _], _ => rfl)
theorem O__law_odd (z : Z P K mg base) : ∃ fd, FunD K "_law_odd" "_law_odd" (defArgs (top 33)) (defBody (top 33)) (defScope (top 33)) [] [] (He.ga K "_law_odd") fd ∧ FnOk P w K mg base (L2.CX P w) 4 (He.ga K "_law_odd") fd ["_law_pot_here"] (spC K 1 [0] false c__law_odd) := by
  obtain ⟨fd, F⟩ := z.c.def_ 3 (d := x__law_odd) rfl
  exact ⟨fd, F, f__law_odd (k := 2) z.fc ((T_k__law_of z).mono (by decide)) F⟩
theorem T_k__law_odd (z : Z P K mg base) : Cal P w K mg base 4 "_law_odd" 1 [0] false [] c__law_odd := by
  obtain ⟨fd, F, O⟩ := O__law_odd z
  exact cal_of (z.glo (z.c.fact 23 (f := fxFa (.glo "_law_odd")) rfl)) F.kp rfl O (FunD.bindsN F fun _ _ _ _ _ _ us hl => match us, hl with | [_], _ => rfl)
theorem T_k__law_bent_0 (z : Z P K mg base) : Cal P w K mg base 5 "_law_bent" 2 [0] false [] (cR__law_bent 0) := by
  obtain ⟨fd, F⟩ := z.c.def_ 4 (d := x__law_bent) rfl
  exact cal_of (z.glo (z.c.fact 24 (f := fxFa (.glo "_law_bent")) rfl)) F.kp rfl (fn_bad (k := 4) F sc__law_bent) (FunD.bindsN F fun _ _ _ _ _ _ us hl => match us, hl with | [_, _], _ => rfl)
theorem T_k__law_bent_1 (z : Z P K mg base) : Cal P w K mg base 6 "_law_bent" 2 [0] false [] (cR__law_bent 1) := by
  obtain ⟨fd, F⟩ := z.c.def_ 4 (d := x__law_bent) rfl
  exact cal_of (z.glo (z.c.fact 24 (f := fxFa (.glo "_law_bent")) rfl)) F.kp rfl (f__law_bent (k := 4) z.fc ((T_k__law_take z).mono (by decide)) ((T_k__law_bent_0 z).mono (by decide)) ((T_k__law_of z).mono (by decide)) ((T_k__law_odd z).mono (by decide)) F) (FunD.bindsN F fun _ _ _ _ _ _ us hl => match us, hl with | [_, _], _ => rfl)
theorem T_k__law_bent_2 (z : Z P K mg base) : Cal P w K mg base 7 "_law_bent" 2 [0] false [] (cR__law_bent 2) := by
  obtain ⟨fd, F⟩ := z.c.def_ 4 (d := x__law_bent) rfl
  exact cal_of (z.glo (z.c.fact 24 (f := fxFa (.glo "_law_bent")) rfl)) F.kp rfl (f__law_bent (k := 5) z.fc ((T_k__law_take z).mono (by decide)) ((T_k__law_bent_1 z).mono (by decide)) ((T_k__law_of z).mono (by decide)) ((T_k__law_odd z).mono (by decide)) F) (FunD.bindsN F fun _ _ _ _ _ _ us hl => match us, hl with | [_, _], _ => rfl)
theorem T_k__law_bent_3 (z : Z P K mg base) : Cal P w K mg base 8 "_law_bent" 2 [0] false [] (cR__law_bent 3) := by
  obtain ⟨fd, F⟩ := z.c.def_ 4 (d := x__law_bent) rfl
  exact cal_of (z.glo (z.c.fact 24 (f := fxFa (.glo "_law_bent")) rfl)) F.kp rfl (f__law_bent (k := 6) z.fc ((T_k__law_take z).mono (by decide)) ((T_k__law_bent_2 z).mono (by decide)) ((T_k__law_of z).mono (by decide)) ((T_k__law_odd z).mono (by decide)) F) (FunD.bindsN F fun _ _ _ _ _ _ us hl => match us, hl with | [_, _], _ => rfl)
theorem T_k__law_bent_4 (z : Z P K mg base) : Cal P w K mg base 9 "_law_bent" 2 [0] false [] (cR__law_bent 4) := by
  obtain ⟨fd, F⟩ := z.c.def_ 4 (d := x__law_bent) rfl
  exact cal_of (z.glo (z.c.fact 24 (f := fxFa (.glo "_law_bent")) rfl)) F.kp rfl (f__law_bent (k := 7) z.fc ((T_k__law_take z).mono (by decide)) ((T_k__law_bent_3 z).mono (by decide)) ((T_k__law_of z).mono (by decide)) ((T_k__law_odd z).mono (by decide)) F) (FunD.bindsN F fun _ _ _ _ _ _ us hl => match us, hl with | [_, _], _ => rfl)
theorem T_k__law_bent_5 (z : Z P K mg base) : Cal P w K mg base 10 "_law_bent" 2 [0] false [] (cR__law_bent 5) := by
  obtain ⟨fd, F⟩ := z.c.def_ 4 (d := x__law_bent) rfl
  exact cal_of (z.glo (z.c.fact 24 (f := fxFa (.glo "_law_bent")) rfl)) F.kp rfl (f__law_bent (k := 8) z.fc ((T_k__law_take z).mono (by decide)) ((T_k__law_bent_4 z).mono (by decide)) ((T_k__law_of z).mono (by decide)) ((T_k__law_odd z).mono (by decide)) F) (FunD.bindsN F fun _ _ _ _ _ _ us hl => match us, hl with | [_, _], _ => rfl)
theorem T_k__law_bent_6 (z : Z P K mg base) : Cal P w K mg base 11 "_law_bent" 2 [0] false [] (cR__law_bent 6) := by
  obtain ⟨fd, F⟩ := z.c.def_ 4 (d := x__law_bent) rfl
  exact cal_of (z.glo (z.c.fact 24 (f := fxFa (.glo "_law_bent")) rfl)) F.kp rfl (f__law_bent (k := 9) z.fc ((T_k__law_take z).mono (by decide)) ((T_k__law_bent_5 z).mono (by decide)) ((T_k__law_of z).mono (by decide)) ((T_k__law_odd z).mono (by decide)) F) (FunD.bindsN F fun _ _ _ _ _ _ us hl => match us, hl with | [_, _], _ => rfl)
theorem T_k__law_bent (z : Z P K mg base) : Cal P w K mg base 11 "_law_bent" 2 [0] false [] c__law_bent := T_k__law_bent_6 z
theorem O__law_errors (z : Z P K mg base) : ∃ fd, FunD K "_law_errors" "_law_errors" (defArgs (top 34)) (defBody (top 34)) (defScope (top 34)) [] [] (He.ga K "_law_errors") fd ∧ FnOk P w K mg base (L2.CX P w) 3 (He.ga K "_law_errors") fd ["_law_value"] (spC K 1 [] false c__law_errors) := by
  obtain ⟨fd, F⟩ := z.c.def_ 5 (d := x__law_errors) rfl
  exact ⟨fd, F, f__law_errors (k := 1) z.fc ((T_e_BadBook z).mono (by decide)) ((T_e_NoRole z).mono (by decide)) ((T_e_BadRule z).mono (by decide)) ((T_e_Full z).mono (by decide)) ((T_e_NoRule z).mono (by decide)) ((T_e_BadRight z).mono (by decide)) ((T_e_BadRoles z).mono (by decide)) ((T_e_BadHand z).mono (by decide)) ((T_e_BadDealing z).mono (by decide)) ((T_e_NoDuty z).mono (by decide)) ((T_e_NotKept z).mono (by decide)) ((T_e_BadStaff z).mono (by decide)) ((T_e_TooMany z).mono (by decide)) ((T_e_OtherSize z).mono (by decide)) ((T_e_BadOffers z).mono (by decide)) ((T_e_NoPerson z).mono (by decide)) ((T_e_Left z).mono (by decide)) ((T_e_Dealt z).mono (by decide)) ((T_e_Barred z).mono (by decide)) ((T_e_NotDealt z).mono (by decide)) ((T_e_NothingToUndo z).mono (by decide)) ((T_e_NothingToRedo z).mono (by decide)) ((T_e_NoTrial z).mono (by decide)) ((T_e_BadJournal z).mono (by decide)) ((T_e_BadLine z).mono (by decide)) F⟩
theorem T_k__law_errors (z : Z P K mg base) : Cal P w K mg base 3 "_law_errors" 1 [] false [] c__law_errors := by
  obtain ⟨fd, F, O⟩ := O__law_errors z
  exact cal_of (z.glo (z.c.fact 25 (f := fxFa (.glo "_law_errors")) rfl)) F.kp rfl O (FunD.bindsN F fun _ _ _ _ _ _ us hl => match us, hl with | [_], _ => rfl)
theorem O__law_marks (z : Z P K mg base) : ∃ fd, FunD K "_law_marks" "_law_marks" (defArgs (top 35)) (defBody (top 35)) (defScope (top 35)) [] [] (He.ga K "_law_marks") fd ∧ FnOk P w K mg base (L2.CX P w) 2 (He.ga K "_law_marks") fd ["_law_error"] (spC K 1 [] true c__law_marks) := by
  obtain ⟨fd, F⟩ := z.c.def_ 6 (d := x__law_marks) rfl
  exact ⟨fd, F, f__law_marks (k := 0) z.fc  F⟩
theorem T_k__law_marks (z : Z P K mg base) : Cal P w K mg base 2 "_law_marks" 1 [] true [] c__law_marks := by
  obtain ⟨fd, F, O⟩ := O__law_marks z
  exact cal_of (z.glo (z.c.fact 26 (f := fxFa (.glo "_law_marks")) rfl)) F.kp rfl O (FunD.bindsN F fun _ _ _ _ _ _ us hl => match us, hl with | [_], _ => rfl)
theorem O__law_right (z : Z P K mg base) : ∃ fd, FunD K "_law_right" "_law_right" (defArgs (top 36)) (defBody (top 36)) (defScope (top 36)) [] [] (He.ga K "_law_right") fd ∧ FnG P w K mg base 12 (He.ga K "_law_right") fd ["_law_pot_here"] (spC K 1 [0] false c__law_right) := by
  obtain ⟨fd, F⟩ := z.c.def_ 7 (d := x__law_right) rfl
  exact ⟨fd, F, f__law_right (k := 10) z.fc ((T_k__law_odd z).mono (by decide)) ((T_k__law_bent z).mono (by decide)) ((T_k__law_errors z).mono (by decide)) ((T_k__law_marks z).mono (by decide)) ((T_e_PartError z).mono (by decide)) F⟩
theorem T_k__law_right (z : Z P K mg base) : CalG P w K mg base 12 "_law_right" 1 [0] false [] c__law_right := by
  obtain ⟨fd, F, O⟩ := O__law_right z
  exact calG_of (z.glo (z.c.fact 27 (f := fxFa (.glo "_law_right")) rfl)) F.kp rfl O (FunD.bindsN F fun _ _ _ _ _ _ us hl => match us, hl with | [_], _ => rfl)
theorem O__law_pot (z : Z P K mg base) : ∃ fd, FunD K "_law_pot" "_law_pot" (defArgs (top 28)) (defBody (top 28)) (defScope (top 28)) [] [] (He.ga K "_law_pot") fd ∧ FnOk P w K mg base (L2.CX P w) 2 (He.ga K "_law_pot") fd ["_law_script", "_law_k"] (spC K 2 [] true c__law_pot) := by
  obtain ⟨fd, F⟩ := z.c.def_ 8 (d := x__law_pot) rfl
  exact ⟨fd, F, f__law_pot (k := 0) z.fc  F⟩
theorem T_k__law_pot (z : Z P K mg base) : Cal P w K mg base 2 "_law_pot" 2 [] true [] c__law_pot := by
  obtain ⟨fd, F, O⟩ := O__law_pot z
  exact cal_of (z.glo (z.c.fact 28 (f := fxFa (.glo "_law_pot")) rfl)) F.kp rfl O (FunD.bindsN F fun _ _ _ _ _ _ us hl => match us, hl with | [_, _], _ => rfl)
theorem W_law {fd : FuncData} (z : Z P K mg base) (F : FunD K "law" "law" (defArgs (top 37)) (defBody (top 37)) (defScope (top 37)) [] [] (He.ga K "law") fd) : FnG P w K mg base 13 (He.ga K "law") fd ["_law_script"] (spC K 1 [] false c_law) := f_law (k := 11) z.fc ((T_k__law_places z).mono (by decide)) ((T_k__law_right z).mono (by decide)) ((T_k__law_pot z).mono (by decide)) F
end
end K00
namespace Dr
open PySem PySem.Spec PyProof.Rows L2 Rf
structure PotOk (a b n : Int) (m : Int) : Prop where
  a0 : 0 ≤ a
  b0 : 0 ≤ b
  b1 : b < 2 ^ 70
  n0 : 0 ≤ n
  n1 : n ≤ m
def potD (a b n : Int) : D := .lst [.int a, .int b, .int n]
theorem PotOk.mono {a b n m m' : Int} (h : PotOk a b n m) (e : m ≤ m') : PotOk a b n m' := ⟨h.a0, h.b0, h.b1, h.n0, by have := h.n1; omega⟩
theorem mul_ok {i j : Int} (h1 : 0 ≤ i) (h2 : i < 2 ^ 200) (h3 : 0 ≤ j) (h4 : j < 2 ^ 200) : fMulI (.int i) (.int j) = .ok (.int (i * j)) := by
  have e : cMul i j = true := by
    have k1 : i.natAbs < 2 ^ 200 := by omega
    have k2 : j.natAbs < 2 ^ 200 := by omega
    have k3 : (2 : Nat) ^ 200 ≤ 2 ^ 4000 := Nat.pow_le_pow_right (by decide) (by decide)
    simp only [cMul, Bool.and_eq_true, decide_eq_true_eq]
    exact ⟨Nat.lt_of_lt_of_le k1 k3, Nat.lt_of_lt_of_le k2 k3⟩
  simp [fMulI, fI, e]
theorem pow_ok {i : Int} (h1 : 0 ≤ i) (h2 : i < 2 ^ 200) : fPow (.int i) (.int 3) = .ok (.int (i ^ 3)) := by
  have e : cPow i 3 = true := by
    have k1 : i.natAbs < 2 ^ 200 := by omega
    have k3 : (2 : Nat) ^ 200 ≤ 2 ^ 1000 := Nat.pow_le_pow_right (by decide) (by decide)
    simp only [cPow, Bool.and_eq_true, decide_eq_true_eq]
    exact ⟨⟨by decide, by decide⟩, Nat.lt_of_lt_of_le k1 k3⟩
  simp [fPow, fI, e]
theorem ix0 (x y z : D) : fIx (.lst [x, y, z]) (.int 0) = .ok x := rfl
theorem ix1 (x y z : D) : fIx (.lst [x, y, z]) (.int 1) = .ok y := rfl
theorem ix2 (x y z : D) : fIx (.lst [x, y, z]) (.int 2) = .ok z := rfl
theorem sz (n : Nat) (h : Nat.ble n 1000 = true) : n ≤ sizeLine := Nat.le_trans (Nat.le_of_ble_eq_true h) (by decide)
theorem sz5 : 5 ≤ sizeLine := by decide
theorem sz3 : 3 ≤ sizeLine := by decide
theorem mulW {i j : Int} (h1 : 0 ≤ i) (h2 : i < 2 ^ 1000) (h3 : 0 ≤ j) (h4 : j < 2) : fMulI (.int i) (.int j) = .ok (.int (i * j)) := by
  have e : cMul i j = true := by
    have k1 : i.natAbs < 2 ^ 1000 := by omega
    have k2 : j.natAbs < 2 ^ 1 := by omega
    have k3 : (2 : Nat) ^ 1000 ≤ 2 ^ 4000 := Nat.pow_le_pow_right (by decide) (by decide)
    have k4 : (2 : Nat) ^ 1 ≤ 2 ^ 4000 := Nat.pow_le_pow_right (by decide) (by decide)
    simp only [cMul, Bool.and_eq_true, decide_eq_true_eq]
    exact ⟨Nat.lt_of_lt_of_le k1 k3, Nat.lt_of_lt_of_le k2 k4⟩
  simp [fMulI, fI, e]
theorem ixs {ns : List Int} {k : Int} (h0 : 0 ≤ k) (h : k < ns.length) : ∃ c : Int, fIx (.scr ns) (.int k) = .ok (.int c) := by
  have hl : k.toNat < ns.length := by omega
  refine ⟨ns[k.toNat], ?_⟩
  simp [fIx, atI, ixN, h0, h, List.getElem?_eq_getElem hl]
theorem prime_ok (n : Int) : ∃ p : Int, fIx (.lst [.int 2147483647, .int 2147483629, .int 2147483587, .int 2147483579, .int 2147483563]) (.int (n % 5)) = .ok (.int p) ∧ 0 < p ∧ p < 2147483648 := by
  have h5 : n % 5 = 0 ∨ n % 5 = 1 ∨ n % 5 = 2 ∨ n % 5 = 3 ∨ n % 5 = 4 := by omega
  rcases h5 with h | h | h | h | h <;> rw [h]
  · exact ⟨2147483647, rfl, by decide, by decide⟩
  · exact ⟨2147483629, rfl, by decide, by decide⟩
  · exact ⟨2147483587, rfl, by decide, by decide⟩
  · exact ⟨2147483579, rfl, by decide, by decide⟩
  · exact ⟨2147483563, rfl, by decide, by decide⟩
theorem for_run {I : Rf.Env → R (List D)} {g : D → Rf.Env → Option Rf.Env} {B : Rf.Env → Fl} {env e : Rf.Env} {ds : List D} (h : I env = .ok ds e) : sFor I g B env = forL g B ds e := by
  unfold sFor
  rw [h]
theorem seq_nx {A B : Rf.Env → Fl} {env e : Rf.Env} (h : A env = .nx e) : seqB A B env = B e := by
  unfold seqB
  rw [h]
theorem run_rt {n p : Nat} {io : List Nat} {b : Rf.Env → Fl} {ds : List D} {d : D} {e : Rf.Env} (h : b (env0 n ds) = .rt d e) : runB n p io b ds = .ok d (outs io p e) := by
  unfold runB
  rw [h]
end Dr
namespace LwA
open PySem PySem.Spec PyProof.Rows L2 Rf Pg Dr
def b__law_of (tk : List D → C) : Rf.Env → Fl := (sRet (nr (g2 fIx) [(lift (eVar 1)), (eCallR [.io 0, .ex (lift (nd (g1 fLenX) [(eVar 1)]))] tk)]))
def c__law_of (tk : List D → C) : List D → C := runB 2 2 [0] (b__law_of tk)
end LwA
namespace Pg
open PySem PySem.Spec PyProof.Rows L2 Rf
end Pg
namespace Pg
open PySem PySem.Spec PyProof.Rows L2 Rf
end Pg
namespace Pg
open PySem PySem.Spec PyProof.Rows L2 Rf
end Pg
namespace Pg
open PySem PySem.Spec PyProof.Rows L2 Rf
structure Rdg where
  rights : List Str
  roles : List (Str × List Str)
  above : List (Str × Str)
  duties : List (Int × List Str)
  rules : List (Int × List Str)
  stage : Int
section
variable (r : Rdg)
end
end Pg
namespace Pg
open PySem PySem.Spec PyProof.Rows L2 Rf
end Pg
namespace Pg
open PySem PySem.Spec PyProof.Rows L2 Rf
end Pg
namespace Pg
open PySem PySem.Spec PyProof.Rows L2 Rf
end Pg
namespace Pg
open PySem PySem.Spec PyProof.Rows L2 Rf
end Pg
namespace Pg
open PySem PySem.Spec PyProof.Rows L2 Rf
end Pg
namespace Pg
open PySem PySem.Spec PyProof.Rows L2 Rf
section
variable (r : Rdg) (t : Str)
end
variable {r : Rdg} {t : Str}
end Pg
namespace Pg
open PySem PySem.Spec PyProof.Rows L2 Rf
end Pg
namespace Pg
open PySem PySem.Spec PyProof.Rows L2 Rf
structure Bd where
  rights : List Str
  roles : List (Str × List Str)
  above : List (Str × Str)
  duties : List (Int × List Str)
  rules : List (Int × List Str)
end Pg
namespace Pg
open PySem PySem.Spec PyProof.Rows L2 Rf
end Pg
namespace Pg
open PySem PySem.Spec PyProof.Rows L2 Rf
end Pg
namespace Pg
open PySem PySem.Spec PyProof.Rows L2 Rf
end Pg
namespace Pg
open PySem PySem.Spec PyProof.Rows L2 Rf
end Pg
namespace Pg
open PySem PySem.Spec PyProof.Rows L2 Rf
end Pg
namespace Pg
open PySem PySem.Spec PyProof.Rows L2 Rf
variable {b : Bd}
end Pg
namespace Pg
open PySem PySem.Spec PyProof.Rows L2 Rf
variable {b : Bd}
end Pg
namespace Pg
open PySem PySem.Spec PyProof.Rows L2 Rf
variable {b : Bd}
end Pg
namespace Pg
open PySem PySem.Spec PyProof.Rows L2 Rf
variable {b : Bd}
end Pg
namespace Pg
open PySem PySem.Spec PyProof.Rows L2 Rf
variable {b : Bd}
end Pg
namespace Pr
open PySem PySem.Spec PyProof.Rows L2 Rf
inductive LR {α β : Type} (ρ : α → β → Prop) : List α → List β → Prop
  | nil : LR ρ [] []
  | cons {a : α} {b : β} {as : List α} {bs : List β} : ρ a b → LR ρ as bs → LR ρ (a :: as) (b :: bs)
inductive KR (r : Str → Str → Prop) : Key → Key → Prop
  | inl (i : Int) : KR r (.inl i) (.inl i)
  | inr {x y : Str} : r x y → KR r (.inr x) (.inr y)
mutual
inductive DR (r : Str → Str → Prop) : D → D → Prop
  | non : DR r .non .non
  | bl (b : Bool) : DR r (.bl b) (.bl b)
  | int (i : Int) : DR r (.int i) (.int i)
  | str {x y : Str} : r x y → DR r (.str x) (.str y)
  | tup {xs ys : List D} : LR (DR r) xs ys → DR r (.tup xs) (.tup ys)
  | lst {xs ys : List D} : LR (DR r) xs ys → DR r (.lst xs) (.lst ys)
  | dic {ks ls : List (Key × D)} : DRK r ks ls → DR r (.dic ks) (.dic ls)
  | ins {c : Str} {fs gs : List (Str × D)} : DRF r fs gs → DR r (.ins c fs) (.ins c gs)
  | exc {c : Str} {d e : D} : DR r d e → DR r (.exc c d) (.exc c e)
  | scr (ns : List Int) : DR r (.scr ns) (.scr ns)
inductive DRK (r : Str → Str → Prop) : List (Key × D) → List (Key × D) → Prop
  | nil : DRK r [] []
  | cons {k l : Key} {d e : D} {ks ls : List (Key × D)} : KR r k l → DR r d e → DRK r ks ls → DRK r ((k, d) :: ks) ((l, e) :: ls)
inductive DRF (r : Str → Str → Prop) : List (Str × D) → List (Str × D) → Prop
  | nil : DRF r [] []
  | cons {f : Str} {d e : D} {fs gs : List (Str × D)} : DR r d e → DRF r fs gs → DRF r ((f, d) :: fs) ((f, e) :: gs)
end
section
variable {α β γ δ : Type} {ρ : α → β → Prop} {τ : γ → δ → Prop}
theorem LR.length {xs : List α} {ys : List β} (h : LR ρ xs ys) : xs.length = ys.length := by
  induction h with
  | nil => rfl
  | cons _ _ ih => simp [ih]
theorem LR.set {xs : List α} {ys : List β} (h : LR ρ xs ys) (n : Nat) {a : α} {b : β} (hab : ρ a b) : LR ρ (xs.set n a) (ys.set n b) := by
  induction h generalizing n with
  | nil => exact .nil
  | cons c t ih => cases n with
    | zero => exact .cons hab t
    | succ n => exact .cons c (ih n)
end
variable {r : Str → Str → Prop}
theorem DRK.length {ks ls : List (Key × D)} : DRK r ks ls → ks.length = ls.length
  | .nil => rfl
  | .cons _ _ t => by simp [t.length]
theorem DRF.length {ks ls : List (Str × D)} : DRF r ks ls → ks.length = ls.length
  | .nil => rfl
  | .cons _ t => by simp [t.length]
end Pr
namespace Pr
open PySem PySem.Spec PyProof.Rows L2 Rf
variable {r : Str → Str → Prop} {α β γ δ : Type} {ρ : α → β → Prop} {τ : γ → δ → Prop}
section
variable {F F' G G' H H' : Rf.Env → O D} {A A' B B' : Rf.Env → O Bool}
end
end Pr
namespace Pr
open PySem PySem.Spec PyProof.Rows L2 Rf
variable {r : Str → Str → Prop} {α β γ δ : Type} {ρ : α → β → Prop} {τ : γ → δ → Prop}
section
variable {F G : Rf.Env → R D} {A A' B B' : Rf.Env → Fl} {K K' : Rf.Env → R Bool}
end
end Pr
namespace Nm
open PySem PySem.Spec PyProof.Rows L2 Rf Pg Pr
variable {r : Str → Str → Prop}
end Nm
namespace Nm
open PySem PySem.Spec PyProof.Rows L2 Rf Pg Pr
end Nm
namespace Nm
open PySem PySem.Spec PyProof.Rows L2 Rf Pg Pr
variable {r : Str → Str → Prop}
end Nm
namespace LwA
open PySem PySem.Spec PyProof.Rows L2 Rf Pg Dr Nm
variable {tk : List D → C}
def PotS (m : Int) (p : D) : Prop := ∃ a b n, p = potD a b n ∧ PotOk a b n m
theorem PotS.mono {m m' : Int} {p : D} (h : PotS m p) (e : m ≤ m') : PotS m' p := by
  obtain ⟨a, b, n, h1, h2⟩ := h
  exact ⟨a, b, n, h1, h2.mono e⟩
def TakeOk (tk : List D → C) : Prop := ∀ {p : D} {m u : Int}, PotS m p → m < 1000000 → 0 < u → u < 1073741824 → ∃ (d : Int) (p' : D), tk [p, .int u] = .ok (.int d) [some p', none] ∧ 0 ≤ d ∧ d < u ∧ PotS (m + 1) p'
theorem call1 {g : List D → C} {env : Rf.Env} {p x d p' : D} {F : Rf.Env → O D} (hp : env[0]? = some (some p)) (hF : F env = .ok x) (hg : g [p, x] = .ok d [some p', none]) : eCallR [.io 0, .ex (lift F)] g env = .ok d (env.set 0 (some p')) := by
  simp [eCallR, argsR, lift, R.bind, O.at, hp, hF, argD, hg, updO]
theorem set_ok {F : Rf.Env → R D} {env e : Rf.Env} {d : D} {i : Nat} (h : F env = .ok d e) : sSet i F env = .nx (e.set i (some d)) := by
  simp only [sSet, h]
theorem take_run (T : TakeOk tk) {env : Rf.Env} {p : D} {m u : Int} {F : Rf.Env → O D} (hp : env[0]? = some (some p)) (P : PotS m p) (hm : m < 1000000) (hF : F env = .ok (.int u)) (h0 : 0 < u) (h1 : u < 1073741824) :
    ∃ (d : Int) (p' : D), eCallR [.io 0, .ex (lift F)] tk env = .ok (.int d) (env.set 0 (some p')) ∧ 0 ≤ d ∧ d < u ∧ PotS (m + 1) p' := by
  obtain ⟨d, p', e, a, b, c⟩ := T P hm h0 h1
  exact ⟨d, p', call1 hp hF e, a, b, c⟩
theorem of_ok (T : TakeOk tk) {p xs : D} {m n : Int} (P : PotS m p) (hm : m < 1000000) (hl : fLenX xs = .ok (.int n)) (n0 : 0 < n) (n1 : n < 1073741824) {Q : D → Prop} (hx : ∀ d, 0 ≤ d → d < n → ∃ x, fIx xs (.int d) = .ok x ∧ Q x) :
    ∃ (x p' : D), c__law_of tk [p, xs] = .ok x [some p', none] ∧ Q x ∧ PotS (m + 1) p' := by
  obtain ⟨d, p', e, a, b, c⟩ := take_run T (env := [some p, some xs]) (F := nd (g1 fLenX) [(eVar 1)]) rfl P hm (by simp [nd, seqF, O.bind, g1, eVar, hl]) n0 n1
  obtain ⟨x, h1, h2⟩ := hx d a b
  refine ⟨x, p', ?_, h2, c⟩
  have s : b__law_of tk (env0 2 [p, xs]) = .rt x [some p', some xs] := by
    show sRet _ [some p, some xs] = _
    simp only [sRet, nr, seqR, R.bind, lift, eVar, xa1, xa0, O.at]
    rw [e]
    simp [g2, h1, O.at]
  exact run_rt s
end LwA
namespace LwA
open PySem PySem.Spec PyProof.Rows L2 Rf Pg Dr Nm
variable {tk : List D → C}
end LwA
namespace LwA
open PySem PySem.Spec PyProof.Rows L2 Rf Pg Dr Nm
variable {tk : List D → C}
end LwA
namespace LwA
open PySem PySem.Spec PyProof.Rows L2 Rf Pg Dr Nm
variable {tk : List D → C}
section
variable {f : Bool} {rs : List Str} {ro : List (Str × List Str)} {ab : List (Str × Str)} {du ru : List (Int × List Str)}
end
section
variable {x1 x2 x3 x4 x5 x7 x9 x10 x11 x12 x13 x14 x15 : Option D} {u : Int} {rs : List Str}
end
end LwA
namespace LwA
open PySem PySem.Spec PyProof.Rows L2 Rf Pg Dr Nm
variable {tk : List D → C}
end LwA
namespace LwA
open PySem PySem.Spec PyProof.Rows L2 Rf Pg Dr Nm
variable {tk : List D → C}
section
variable {f : Bool} {rs : List Str} {ro : List (Str × List Str)} {ab ab' : List (Str × Str)} {du ru du' ru' : List (Int × List Str)}
end
section
variable {x1 x2 x3 x4 x5 x7 x8 x9 x10 x13 x14 x15 x16 x17 : Option D} {f : Bool} {rs : List Str} {ro : List (Str × List Str)} {du ru : List (Int × List Str)}
end
end LwA
namespace LwA
open PySem PySem.Spec PyProof.Rows L2 Rf Pg Dr Nm
variable {tk : List D → C}
section
variable {x1 x2 x3 x4 x5 x7 x8 x13 x14 x15 x16 x17 : Option D} {f : Bool} {rs : List Str} {ro : List (Str × List Str)} {du ru : List (Int × List Str)}
end
end LwA
namespace LwA
open PySem PySem.Spec PyProof.Rows L2 Rf Pg Dr Nm
variable {tk : List D → C}
section
variable {x1 x2 x3 x4 x5 x7 x8 x9 x10 x11 x12 x16 x17 : Option D} {rs : List Str} {ro : List (Str × List Str)} {ab : List (Str × Str)} {ru : List (Int × List Str)}
end
end LwA
namespace LwA
open PySem PySem.Spec PyProof.Rows L2 Rf Pg Dr Nm
variable {tk : List D → C}
section
variable {x1 x2 x3 x4 x5 x8 x9 x10 x11 x12 x16 x17 : Option D} {rs ns : List Str} {ro : List (Str × List Str)} {ab : List (Str × Str)} {du : List (Int × List Str)}
end
end LwA
namespace LwA
open PySem PySem.Spec PyProof.Rows L2 Rf Pg Dr Nm
variable {tk : List D → C}
section
variable {f : Bool} {rs : List Str} {ro ro' : List (Str × List Str)} {ab : List (Str × Str)} {du ru du' ru' : List (Int × List Str)}
end
end LwA
namespace LwA
open PySem PySem.Spec PyProof.Rows L2 Rf Pg Dr Nm
variable {tk : List D → C}
section
variable {x3 x4 x5 x6 x7 x8 x9 x10 x11 x12 x13 x14 : Option D} {f : Bool} {rs ns : List Str} {ab : List (Str × Str)} {du ru : List (Int × List Str)}
end
end LwA
namespace LwA
open PySem PySem.Spec PyProof.Rows L2 Rf Pg Dr Nm
variable {tk : List D → C}
section
variable {x3 x4 x5 x6 x7 x8 x9 x10 x11 x12 x13 x14 : Option D} {f : Bool} {rs ns : List Str} {ab : List (Str × Str)} {du ru : List (Int × List Str)}
end
section
variable {x2 x3 x4 x5 x6 x7 x8 x9 x10 x11 x12 x13 x14 : Option D} {f : Bool} {rs ns : List Str} {ro : List (Str × List Str)} {ab : List (Str × Str)} {du ru : List (Int × List Str)}
end
end LwA
namespace LwA
open PySem PySem.Spec PyProof.Rows L2 Rf Pg Dr Nm
variable {tk : List D → C}
section
variable {x2 x3 x4 x5 x6 x8 x9 x10 x11 x12 x13 x14 : Option D} {rs ns : List Str} {ro : List (Str × List Str)} {ab : List (Str × Str)} {du ru : List (Int × List Str)}
end
end LwA
namespace LwA
open PySem PySem.Spec PyProof.Rows L2 Rf Pg Dr Nm
variable {tk : List D → C}
end LwA
namespace LwA
open PySem PySem.Spec PyProof.Rows L2 Rf Pg Dr Nm
variable {tk : List D → C}
end LwA
namespace LwA
open PySem PySem.Spec PyProof.Rows L2 Rf Pg Dr Nm
section
variable {b : Bd} {f : Bool}
end
end LwA
namespace LwA
open PySem PySem.Spec PyProof.Rows L2 Rf Pg Dr Nm
variable {b : Bd}
end LwA
namespace LwA
open PySem PySem.Spec PyProof.Rows L2 Rf Pg Dr Nm
variable {b : Bd} {f : Bool}
end LwA
namespace LwA
open PySem PySem.Spec PyProof.Rows L2 Rf Pg Dr Nm
variable {b : Bd} {f : Bool}
end LwA
namespace LwA
open PySem PySem.Spec PyProof.Rows L2 Rf Pg Dr Nm
end LwA
namespace Pk
open PySem PySem.Spec PyProof.Rows L2 Rf Pg Ns
end Pk
namespace Pg
open PySem PySem.Spec PyProof.Rows L2 Rf
variable {b : Bd}
end Pg
namespace LwA
open PySem PySem.Spec PyProof.Rows L2 Rf Pg Dr
end LwA
namespace LwA
open PySem PySem.Spec PyProof.Rows L2 Rf Pg Dr Nm
variable {tk : List D → C}
section
variable {L : D} {rs : List Str} {w : Int} {x9 x10 x11 : Option D}
end
end LwA
namespace LwA
open PySem PySem.Spec PyProof.Rows L2 Rf Pg Dr Nm
variable {tk : List D → C}
section
variable {L : D} {rs : List Str} {w : Int} {x9 x10 x11 : Option D}
end
section
variable {L : D} {rs : List Str} {x2 x3 x4 x5 x6 x8 : Option D}
end
end LwA
namespace LwA
open PySem PySem.Spec PyProof.Rows L2 Rf Pg Dr Nm
variable {tk : List D → C}
section
variable {f : Bool} {rs : List Str} {ro ro' : List (Str × List Str)} {ab : List (Str × Str)} {du ru du' ru' : List (Int × List Str)}
end
end LwA
namespace Pg
open PySem PySem.Spec PyProof.Rows L2 Rf
variable {b : Bd}
end Pg
namespace LwA
open PySem PySem.Spec PyProof.Rows L2 Rf Pg Dr Nm
variable {tk : List D → C}
variable {b : Bd} {f : Bool}
end LwA
namespace LwA
open PySem PySem.Spec PyProof.Rows L2 Rf Pg Dr Nm
variable {tk : List D → C} {b : Bd} {f : Bool}
end LwA
namespace Pg
open PySem PySem.Spec PyProof.Rows L2 Rf
variable {b : Bd}
end Pg
namespace Pg
open PySem PySem.Spec PyProof.Rows L2 Rf
end Pg
namespace Pg
open PySem PySem.Spec PyProof.Rows L2 Rf
section
variable {X : Rf.D} {ms : List Nat} {W : Nat} {y3 : Option Rf.D} {many : Int}
end
section
variable {X : Rf.D} {ms : List Nat} {W : Nat}
end
end Pg
namespace Pg
open PySem PySem.Spec PyProof.Rows L2 Rf
end Pg
namespace Pg
open PySem PySem.Spec PyProof.Rows L2 Rf
end Pg
namespace Pg
open PySem PySem.Spec PyProof.Rows L2 Rf
variable {b : Bd}
section
variable {x0 x1 x2 x3 : Option Rf.D} {ms : List Nat} {W : Nat}
end
end Pg
namespace Pg
open PySem PySem.Spec PyProof.Rows L2 Rf
variable {b : Bd}
section
variable {x0 x2 x3 x4 x5 x6 x7 : Option Rf.D} {ds : List (List Str)} {ms : List Nat} {W a : Nat}
end
end Pg
namespace Pg
open PySem PySem.Spec PyProof.Rows L2 Rf
variable {b : Bd}
section
variable {x0 x2 : Option Rf.D} {ds : List (List Str)} {ms : List Nat} {rs : List Str} {a : Nat}
end
end Pg
namespace Pg
open PySem PySem.Spec PyProof.Rows L2 Rf
variable {b : Bd}
end Pg
namespace Pg
open PySem PySem.Spec PyProof.Rows L2 Rf
variable {b : Bd}
end Pg
namespace Pg
open PySem PySem.Spec PyProof.Rows L2 Rf
variable {b : Bd}
end Pg
namespace Pg
open PySem PySem.Spec PyProof.Rows L2 Rf
variable {b : Bd}
end Pg
namespace Pg
open PySem PySem.Spec PyProof.Rows L2 Rf
variable {b : Bd}
end Pg
namespace LwA
open PySem PySem.Spec PyProof.Rows L2 Rf Pg Dr Nm
variable {b : Bd} {f : Bool}
end LwA
namespace Pg
open PySem PySem.Spec PyProof.Rows L2 Rf LwA
variable {b : Bd}
end Pg
namespace LwA
open PySem PySem.Spec PyProof.Rows L2 Rf Pg Dr Nm
variable {b : Bd} {f : Bool}
end LwA
namespace Pk
open PySem PySem.Spec PyProof.Rows L2 Rf Pg Ns
variable {b : Bd} {r : List Str} {hs : List (List Str)}
end Pk
namespace Pk
open PySem PySem.Spec PyProof.Rows L2 Rf Pg Ns
variable {b : Bd} {r : List Str} {hs : List (List Str)}
end Pk
namespace Pk
open PySem PySem.Spec PyProof.Rows L2 Rf Pg Ns
variable {b : Bd} {r : List Str} {hs : List (List Str)}
theorem lf {F : Rf.Env → O D} {env : Rf.Env} {d : D} (h : F env = .ok d) : lift F env = .ok d env := by
  unfold lift
  rw [h]
  rfl
theorem st {F : Rf.Env → R D} {env e : Rf.Env} {d : D} {i : Nat} (h : F env = .ok d e) : sSet i F env = .nx (e.set i (some d)) := by
  unfold sSet
  rw [h]
theorem rt {F : Rf.Env → R D} {env e : Rf.Env} {d : D} (h : F env = .ok d e) : sRet F env = .rt d e := by
  unfold sRet
  rw [h]
theorem ifB_t {T : Rf.Env → O Bool} {A B : Rf.Env → Fl} {env : Rf.Env} (h : T env = .ok true) : sIf (liftB T) A B env = A env := by
  unfold sIf liftB
  rw [h]
  rfl
theorem seq_rt {A B : Rf.Env → Fl} {env e : Rf.Env} {d : D} (h : A env = .rt d e) : seqB A B env = .rt d e := by
  unfold seqB
  rw [h]
end Pk
namespace K00
open PySem PySem.Spec PyProof.Rows L2 Rf Rh Pg LwA
theorem of_list (T : TakeOk c__law_take) {p : D} {m : Int} {ds : List D} (P : PotS m p) (hm : m < 1000000) (h0 : 0 < ds.length) (h1 : ds.length < 100000) :
    ∃ (x p' : D), c__law_of [p, .lst ds] = .ok x [some p', none] ∧ x ∈ ds ∧ PotS (m + 1) p' := by
  refine LwA.of_ok T (xs := .lst ds) (n := (ds.length : Nat)) (Q := fun x => x ∈ ds) P hm rfl (by omega) (by omega) fun d d0 d1 => ?_
  have hi : d.toNat < ds.length := by omega
  refine ⟨ds[d.toNat], ?_, List.getElem_mem _⟩
  have : L2.atI ds d = some ds[d.toNat] := by
    unfold L2.atI ixN
    simp only [d0, d1, if_true, Option.bind_some, List.getElem?_eq_getElem hi]
  simp only [fIx, this]
def odds1 : List D := [.non, .bl true, .bl false, .int 0, .int 1, .int (-1), .int 100000000, .str "", .str "a", .str "role", .tup [], .fls [], .fdc, .tup [.tup []], .tup [.int 0], .tup [.str ""], .fls [.int 0], .tup [.int 1, .int 0]]
def odds2 : List D := [.tup [.str "let"], .tup [.str "a"], .tup [.int 2, .tup [.str "a"]], .str "0", .tup [.tup [.str "a"], .tup []], .int 2, .int 9, .str "A"]
def erD (v : D) : List D := (erL.take 25).map fun c => .exc c v
end K00
namespace K00
open PySem PySem.Spec PyProof.Rows L2 Rf Rh Pg LwA
abbrev vB : Rf.Env → Fl := (seqB (sSet 3 (lift (nd (gCall 1 [] c__law_errors) [(eVar 2)])))
  (seqB (sFor (fun env => ((fun env => itEn ((eVar 3) env)) env).at env) (gT 2 (gsC (gN 4) (gsC (gN 5) gsN))) (seqB (sIf (liftB (bOr (bNot (fun env => asB ((nd (g1 (fIsE erL pT)) [(eVar 5)]) env))) (bNot (fun env => asB ((nd (g1 (fIsE erL pT)) [(eVar 5)]) env))))) (sRet (lift (eC (.bl false)))) sNil)
  (seqB (sSet 6 (lift (fun env => mkL ((eComp true [8] (fun env => itR1 ((nd (g1 fLenX) [(eVar 3)]) env)) (gN 8) (Tst.f Tst.no) (nd (g2 (fEq false)) [(eVar 4), (eVar 8)])) env))))
  (sIf (liftB (bOr (fun env => asB ((nd (g2 (fEq true)) [(nd (g1 fReprX) [(nd (g1 (fXv erL)) [(eVar 5)])]), (nd (g1 fReprX) [(eVar 2)])]) env)) (fun env => asB ((nd (g2 (fEq true)) [(nd (gCall 1 [] c__law_marks) [(eVar 5)]), (eVar 6)]) env)))) (sRet (lift (eC (.bl false)))) sNil))))
  (seqB (sSet 7 (lift (eMkE "PartError" (eVar 2))))
  (sIf (liftB (bOr (fun env => asB ((nd (g2 (fEq true)) [(nd (g1 fReprX) [(nd (g1 (fXv erL)) [(eVar 7)])]), (nd (g1 fReprX) [(eVar 2)])]) env)) (bOr (fun env => asB ((nd (g2 (fIn false)) [(eC (.bl true)), (nd (gCall 1 [] c__law_marks) [(eVar 7)])]) env)) (bNot (fun env => asB ((nd (g1 (fIsE erL pT)) [(eVar 7)]) env)))))) (sRet (lift (eC (.bl false)))) sNil))))
theorem right_parts : b__law_right = (seqB (sSet 1 (nr (fun ds => mkL (gLstD ds)) [(eCallR [.io 0] c__law_odd), (eCallR [.io 0] c__law_odd), (eCallR [.io 0, .ex (lift (nd gTupD [(eC (.int 2)), (nd gTupD [(eC (.str "a")), (eC (.str "b"))])]))] c__law_bent), (eCallR [.io 0, .ex (lift (nd gTupD [(nd gTupD [(eC (.str "a"))]), (nd gTupD []), (eC (.int 3))]))] c__law_bent)]))
  (seqB (sFor (fun env => ((fun env => itA ((eVar 1) env)) env).at env) (gN 2) vB) (sRet (lift (eC (.bl true)))))) := rfl
end K00
namespace K00
open PySem PySem.Spec PyProof.Rows L2 Rf Rh Pg LwA
theorem of_call (T : TakeOk c__law_take) {p : D} {m : Int} {x1 x2 : Option D} {ds : List D} {F : Rf.Env → R D} (P : PotS m p) (hm : m < 1000000) (h0 : 0 < ds.length) (h1 : ds.length < 100000) (hF : F [some p, x1, x2] = .ok (.lst ds) [some p, x1, x2]) :
    ∃ (x p' : D), eCallR [.io 0, .ex F] c__law_of [some p, x1, x2] = .ok x [some p', x1, x2] ∧ x ∈ ds ∧ PotS (m + 1) p' := by
  obtain ⟨x, p', e, hx, P'⟩ := of_list T (ds := ds) P hm h0 h1
  refine ⟨x, p', ?_, hx, P'⟩
  simp [eCallR, argsR, R.bind, O.at, hF, argD, e, updO]
abbrev bT : Rf.Env → R D := (nr (fun ds => mkL (gLstD ds)) [(frzL (liftL (nd (g1 fListL) [(eVar 1)]))), (lift (eSl (eVar 1) (oSome (eC (.int 1))) oNone)), (lift (eSl (eVar 1) oNone (oSome (nd (g1 fNeg) [(eC (.int 1))])))), (lift (nd (g2 fAdd) [(eVar 1), (eSl (eVar 1) (oSome (nd (g1 fNeg) [(eC (.int 1))])) oNone)])), (lift (nd (g1 fRev) [(eVar 1)])), (lift (nd gTupD [])), (lift (nd (g2 fAdd) [(eVar 1), (nd gTupD [(eC (.int 0))])]))])
abbrev bI : Rf.Env → R D := (lift (fun env => mkL ((nd gLstD [(nd (g2 fAdd) [(eVar 1), (eC (.int 1))]), (nd (g2 fSub) [(eVar 1), (eC (.int 1))]), (nd (g1 fNeg) [(eVar 1)]), (nd (g2 (fEq false)) [(eVar 1), (eC (.int 1))]), (eC (.str "7")), (eC (.int 0)), (eC .non), (nd (g2 fAdd) [(eVar 1), (eC (.int 60))]), (nd (g2 fSub) [(eVar 1), (eC (.int 60))])]) env)))
abbrev bS : Rf.Env → R D := (nr (fun ds => mkL (gLstD ds)) [(lift (nd (g2 fAdd) [(eVar 1), (eC (.str "x"))])), (lift (eSl (eVar 1) oNone (oSome (nd (g1 fNeg) [(eC (.int 1))])))), (lift (nd (g1 fRev) [(eVar 1)])), (lift (eC (.str "ask"))), (lift (eC (.str "tell"))), (lift (eC (.str "both"))), (lift (eC .non)), (lift (eC (.int 0))), (frzL (liftL (nd gLstD [(eVar 1)]))), (lift (eC (.str "hand")))])
def Bent (n : Nat) (v : D) (ds : List D) : Prop := ∀ {p : D} {m : Int}, PotS m p → m + 10 * n < 900000 → ∃ (x p' : D), cR__law_bent n [p, v] = .ok x [some p', none] ∧ x ∈ ds ∧ PotS (m + 10 * n) p'
def dI (i : Int) : List D := [.int (i + 1), .int (i - 1), .int (-i), .bl (i == 1), .str "7", .int 0, .non, .int (i + 60), .int (i - 60)]
theorem bent_int (T : TakeOk c__law_take) (n : Nat) (i : Int) : Bent (n + 1) (.int i) (dI i) := by
  intro p m P hm
  obtain ⟨x, p', e, hx, P'⟩ := of_call T (x1 := some (.int i)) (x2 := none) (ds := dI i) (F := bI) P (by omega) (by simp [dI]) (by simp [dI]) rfl
  exact ⟨x, p', Dr.run_rt (n := 3) (p := 2) (io := [0]) (ds := [p, .int i]) (b := b__law_bent (cR__law_bent n)) (e := [some p', some (.int i), none]) ((Dr.seq_nx rfl).trans ((Dr.seq_nx rfl).trans (Pk.seq_rt ((Pk.ifB_t rfl).trans (Pk.rt e))))), hx, P'.mono (by omega)⟩
def dS1 (c : Nat) : List D := [.str ⟨#[c, 120]⟩, .str ⟨#[]⟩, .str ⟨#[c]⟩, .str "ask", .str "tell", .str "both", .non, .int 0, .fls [.str ⟨#[c]⟩], .str "hand"]
theorem bent_str (T : TakeOk c__law_take) (n : Nat) (c : Nat) (hc : c = 97 ∨ c = 98) : Bent (n + 1) (.str ⟨#[c]⟩) (dS1 c) := by
  intro p m P hm
  obtain ⟨x, p', e, hx, P'⟩ := of_call T (x1 := some (.str ⟨#[c]⟩)) (x2 := none) (ds := dS1 c) (F := bS) P (by omega) (by simp [dS1]) (by simp [dS1]) (by rcases hc with rfl | rfl <;> kernel_rfl)
  exact ⟨x, p', Dr.run_rt (n := 3) (p := 2) (io := [0]) (ds := [p, .str ⟨#[c]⟩]) (b := b__law_bent (cR__law_bent n)) (e := [some p', some (.str ⟨#[c]⟩), none]) ((Dr.seq_nx rfl).trans ((Dr.seq_nx rfl).trans ((Dr.seq_nx rfl).trans (Pk.seq_rt ((Pk.ifB_t rfl).trans (Pk.rt e)))))), hx, P'.mono (by omega)⟩
def dE : List D := [.fls [], .tup [], .tup [], .tup [], .tup [], .tup [], .tup [.int 0]]
theorem bent_nil (T : TakeOk c__law_take) (n : Nat) : Bent (n + 1) (.tup []) dE := by
  intro p m P hm
  obtain ⟨x, p', e, hx, P'⟩ := of_call T (x1 := some (.tup [])) (x2 := none) (ds := dE) (F := bT) P (by omega) (by simp [dE]) (by simp [dE]) (by kernel_rfl)
  exact ⟨x, p', Dr.run_rt (n := 3) (p := 2) (io := [0]) (ds := [p, .tup []]) (b := b__law_bent (cR__law_bent n)) (e := [some p', some (.tup []), none]) ((Dr.seq_nx rfl).trans (Pk.seq_rt ((Pk.ifB_t rfl).trans (Pk.rt e)))), hx, P'.mono (by omega)⟩
abbrev bW (cc : List D → C) : Rf.Env → R D := (nr (g2 fAdd) [(nr (g2 fAdd) [(lift (eSl (eVar 1) oNone (oSome (eVar 2)))), (nr gTupD [(eCallR [.io 0, .ex (lift (nd (g2 fIx) [(eVar 1), (eVar 2)]))] cc)])]), (lift (eSl (eVar 1) (oSome (nd (g2 fAdd) [(eVar 2), (eC (.int 1))])) oNone))])
theorem wrap_ok {cc : List D → C} {e2 e3 : Rf.Env} {y : D} {a b : List D} (h1 : eSl (eVar 1) oNone (oSome (eVar 2)) e2 = .ok (.tup a)) (h2 : eCallR [.io 0, .ex (lift (nd (g2 fIx) [(eVar 1), (eVar 2)]))] cc e2 = .ok y e3) (h3 : eSl (eVar 1) (oSome (nd (g2 fAdd) [(eVar 2), (eC (.int 1))])) oNone e3 = .ok (.tup b)) (hl : a.length + b.length < 100) :
    bW cc e2 = .ok (.tup (a ++ [y] ++ b)) e3 := by
  have z : ∀ k : Nat, k ≤ 200 → k ≤ sizeLine := fun k hk => Nat.le_trans hk (by decide)
  have z1 : ([y] : List D).length ≤ sizeLine := z _ (by simp)
  have z2 : a.length + ([y] : List D).length ≤ sizeLine := z _ (by simp; omega)
  have z3 : (a ++ [y]).length + b.length ≤ sizeLine := z _ (by simp; omega)
  have l1 := Pk.lf h1
  have l3 := Pk.lf h3
  have k1 : (nr gTupD [(eCallR [.io 0, .ex (lift (nd (g2 fIx) [(eVar 1), (eVar 2)]))] cc)]) e2 = .ok (.tup [y]) e3 := by
    simp only [nr, seqR, h2, R.bind, gTupD, z1, if_true, O.at]
  have k2 : (nr (g2 fAdd) [(lift (eSl (eVar 1) oNone (oSome (eVar 2)))), (nr gTupD [(eCallR [.io 0, .ex (lift (nd (g2 fIx) [(eVar 1), (eVar 2)]))] cc)])]) e2 = .ok (.tup (a ++ [y])) e3 := by
    rw [nr]
    simp only [seqR, l1, k1, R.bind, g2, fAdd, z2, if_true, O.at]
  show nr _ _ _ = _
  rw [nr]
  simp only [seqR, k2, l3, R.bind, g2, fAdd, z3, if_true, O.at]
theorem and_t {F G : Rf.Env → R Bool} {env e : Rf.Env} (h : F env = .ok true e) : andR F G env = G e := by
  unfold andR
  rw [h]
  simp [R.bind]
theorem bent_tup (T : TakeOk c__law_take) (n : Nat) (xs dT RR : List D) (hlen : 0 < xs.length ∧ xs.length < 50)
    (hB : ∀ p : D, (fun env => asB ((nd (g2 (fEq true)) [(eVar 1), (nd gTupD [])]) env)) [some p, some (.tup xs), none] = .ok true)
    (hT : ∀ p : D, bT [some p, some (.tup xs), none] = .ok (.lst dT) [some p, some (.tup xs), none]) (hT0 : 0 < dT.length) (hT1 : dT.length < 1000) (hR : ∀ x ∈ dT, x ∈ RR)
    (kid : ∀ i : Nat, i < xs.length → ∃ (x : D) (ds a b : List D), (∀ p : D, nd (g2 fIx) [(eVar 1), (eVar 2)] [some p, some (.tup xs), some (.int i)] = .ok x) ∧ Bent n x ds ∧ (∀ p : D, eSl (eVar 1) oNone (oSome (eVar 2)) [some p, some (.tup xs), some (.int i)] = .ok (.tup a)) ∧
      (∀ p : D, eSl (eVar 1) (oSome (nd (g2 fAdd) [(eVar 2), (eC (.int 1))])) oNone [some p, some (.tup xs), some (.int i)] = .ok (.tup b)) ∧ a.length + b.length < 100 ∧ ∀ y ∈ ds, D.tup (a ++ [y] ++ b) ∈ RR) : Bent (n + 1) (.tup xs) RR := by
  intro p m P hm
  obtain ⟨d, p1, e1, d0, d1, P1⟩ := T P (by omega : m < 1000000) (by decide : (0 : Int) < 6) (by decide)
  have c1 : eCallR [.io 0, .ex (lift (eC (.int 6)))] c__law_take [some p, some (.tup xs), none] = .ok (.int d) [some p1, some (.tup xs), none] := call1 (x := .int 6) rfl rfl e1
  have l0 := Pk.lf (F := eC (.int 0)) (env := [some p1, some (.tup xs), none]) (d := .int 0) rfl
  have cg : (fun env => asBR ((nr (g2 fGt) [(eCallR [.io 0, .ex (lift (eC (.int 6)))] c__law_take), (lift (eC (.int 0)))]) env)) [some p, some (.tup xs), none] = .ok (decide (0 < d)) [some p1, some (.tup xs), none] := by
    show asBR (nr _ _ _) = _
    rw [nr]
    simp only [seqR, c1, l0, R.bind, g2, fGt, fI, if_true, O.at]
    rfl
  have cond : (andR (liftB (fun env => asB ((nd (g1 (fIsi "tuple")) [(eVar 1)]) env))) (andR (liftB (fun env => asB ((nd (g2 (fEq true)) [(eVar 1), (nd gTupD [])]) env))) (fun env => asBR ((nr (g2 fGt) [(eCallR [.io 0, .ex (lift (eC (.int 6)))] c__law_take), (lift (eC (.int 0)))]) env)))) [some p, some (.tup xs), none] = .ok (decide (0 < d)) [some p1, some (.tup xs), none] := by
    have a1 : liftB (fun env => asB ((nd (g1 (fIsi "tuple")) [(eVar 1)]) env)) [some p, some (.tup xs), none] = .ok true [some p, some (.tup xs), none] := rfl
    have a2 : liftB (fun env => asB ((nd (g2 (fEq true)) [(eVar 1), (nd gTupD [])]) env)) [some p, some (.tup xs), none] = .ok true [some p, some (.tup xs), none] := by
      unfold liftB
      rw [hB p]
      rfl
    exact (and_t a1).trans ((and_t a2).trans cg)
  by_cases hd : 0 < d
  · obtain ⟨d2, p2, e2, q0, q1, P2⟩ := T P1 (by omega) (by omega : (0 : Int) < (xs.length : Nat)) (by omega)
    obtain ⟨x, ds, a, b, k1, kb, k2, k3, k4, k5⟩ := kid d2.toNat (by omega)
    have hi : ((d2.toNat : Nat) : Int) = d2 := Int.toNat_of_nonneg q0
    rw [hi] at k1 k2 k3
    obtain ⟨y, p3, e3, hy, P3⟩ := kb P2 (by omega)
    have s2 : sSet 2 (eCallR [.io 0, .ex (lift (nd (g1 fLenX) [(eVar 1)]))] c__law_take) [some p1, some (.tup xs), none] = .nx [some p2, some (.tup xs), some (.int d2)] :=
      Pk.st (call1 (x := .int (xs.length : Nat)) rfl rfl e2)
    have w : bW (cR__law_bent n) [some p2, some (.tup xs), some (.int d2)] = .ok (.tup (a ++ [y] ++ b)) [some p3, some (.tup xs), some (.int d2)] := wrap_ok (k2 p2) (call1 (x := x) rfl (k1 p2) e3) (k3 p3) k4
    refine ⟨_, p3, Dr.run_rt (n := 3) (p := 2) (io := [0]) (ds := [p, .tup xs]) (b := b__law_bent (cR__law_bent n)) (e := [some p3, some (.tup xs), some (.int d2)]) (Pk.seq_rt ?_), k5 y hy, P3.mono (by omega)⟩
    have t : sIf (andR (liftB (fun env => asB ((nd (g1 (fIsi "tuple")) [(eVar 1)]) env))) (andR (liftB (fun env => asB ((nd (g2 (fEq true)) [(eVar 1), (nd gTupD [])]) env))) (fun env => asBR ((nr (g2 fGt) [(eCallR [.io 0, .ex (lift (eC (.int 6)))] c__law_take), (lift (eC (.int 0)))]) env)))) (seqB (sSet 2 (eCallR [.io 0, .ex (lift (nd (g1 fLenX) [(eVar 1)]))] c__law_take)) (sRet (bW (cR__law_bent n)))) sNil [some p, some (.tup xs), none] = .rt (.tup (a ++ [y] ++ b)) [some p3, some (.tup xs), some (.int d2)] := by
      unfold sIf
      rw [cond]
      simp only [hd, decide_true, if_true]
      exact (Dr.seq_nx s2).trans (Pk.rt w)
    exact t
  · obtain ⟨x, p2, e, hx, P2⟩ := of_call T (x1 := some (.tup xs)) (x2 := none) (ds := dT) (F := bT) P1 (by omega) hT0 (by omega) (hT p1)
    have t : sIf (andR (liftB (fun env => asB ((nd (g1 (fIsi "tuple")) [(eVar 1)]) env))) (andR (liftB (fun env => asB ((nd (g2 (fEq true)) [(eVar 1), (nd gTupD [])]) env))) (fun env => asBR ((nr (g2 fGt) [(eCallR [.io 0, .ex (lift (eC (.int 6)))] c__law_take), (lift (eC (.int 0)))]) env)))) (seqB (sSet 2 (eCallR [.io 0, .ex (lift (nd (g1 fLenX) [(eVar 1)]))] c__law_take)) (sRet (bW (cR__law_bent n)))) sNil [some p, some (.tup xs), none] = .nx [some p1, some (.tup xs), none] := by
      unfold sIf
      rw [cond]
      simp only [hd, decide_false]
      rfl
    exact ⟨x, p2, Dr.run_rt (n := 3) (p := 2) (io := [0]) (ds := [p, .tup xs]) (b := b__law_bent (cR__law_bent n)) (e := [some p2, some (.tup xs), none]) ((Dr.seq_nx t).trans (Pk.seq_rt ((Pk.ifB_t rfl).trans (Pk.rt e)))), hR x hx, P2.mono (by omega)⟩
end K00
namespace K00
open PySem PySem.Spec PyProof.Rows L2 Rf Rh Pg LwA
def dTof (xs : List D) : List D := [.fls xs, .tup (xs.drop 1), .tup xs.dropLast, .tup (xs ++ xs.drop (xs.length - 1)), .tup xs.reverse, .tup [], .tup (xs ++ [.int 0])]
def wr (a b ds : List D) : List D := ds.map fun y => .tup (a ++ [y] ++ b)
theorem wr_mem {a b ds : List D} {y : D} (h : y ∈ ds) : D.tup (a ++ [y] ++ b) ∈ wr a b ds := List.mem_map.mpr ⟨y, h, rfl⟩
abbrev dA : D := .str "a"
abbrev dB : D := .str "b"
theorem bent_a (T : TakeOk c__law_take) (n : Nat) : Bent (n + 1) dA (dS1 97) := by
  have e : dA = .str ⟨#[97]⟩ := by kernel_rfl
  rw [e]
  intro p m P hm
  exact bent_str T n 97 (.inl rfl) P hm
theorem bent_b (T : TakeOk c__law_take) (n : Nat) : Bent (n + 1) dB (dS1 98) := by
  have e : dB = .str ⟨#[98]⟩ := by kernel_rfl
  rw [e]
  intro p m P hm
  exact bent_str T n 98 (.inr rfl) P hm
def Rab : List D := dTof [dA, dB] ++ (wr [] [dB] (dS1 97) ++ wr [dA] [] (dS1 98))
theorem bent_ab (T : TakeOk c__law_take) : Bent 5 (.tup [dA, dB]) Rab := by
  refine bent_tup T 4 [dA, dB] (dTof [dA, dB]) Rab (by decide) (fun p => by kernel_rfl) (fun p => by kernel_rfl) (by decide) (by decide) (fun x hx => List.mem_append_left _ hx) fun i hi => ?_
  match i, hi with
  | 0, _ => exact ⟨dA, dS1 97, [], [dB], fun p => by kernel_rfl, bent_a T 3, fun p => by kernel_rfl, fun p => by kernel_rfl, by decide, fun y hy => List.mem_append_right _ (List.mem_append_left _ (wr_mem hy))⟩
  | 1, _ => exact ⟨dB, dS1 98, [dA], [], fun p => by kernel_rfl, bent_b T 3, fun p => by kernel_rfl, fun p => by kernel_rfl, by decide, fun y hy => List.mem_append_right _ (List.mem_append_right _ (wr_mem hy))⟩
abbrev v1 : D := .tup [.int 2, .tup [dA, dB]]
def R1 : List D := dTof [.int 2, .tup [dA, dB]] ++ (wr [] [.tup [dA, dB]] (dI 2) ++ wr [.int 2] [] Rab)
theorem bent_1 (T : TakeOk c__law_take) : Bent 6 v1 R1 := by
  refine bent_tup T 5 [.int 2, .tup [dA, dB]] (dTof [.int 2, .tup [dA, dB]]) R1 (by decide) (fun p => by kernel_rfl) (fun p => by kernel_rfl) (by decide) (by decide) (fun x hx => List.mem_append_left _ hx) fun i hi => ?_
  match i, hi with
  | 0, _ => exact ⟨.int 2, dI 2, [], [.tup [dA, dB]], fun p => by kernel_rfl, bent_int T 4 2, fun p => by kernel_rfl, fun p => by kernel_rfl, by decide, fun y hy => List.mem_append_right _ (List.mem_append_left _ (wr_mem hy))⟩
  | 1, _ => exact ⟨.tup [dA, dB], Rab, [.int 2], [], fun p => by kernel_rfl, bent_ab T, fun p => by kernel_rfl, fun p => by kernel_rfl, by decide, fun y hy => List.mem_append_right _ (List.mem_append_right _ (wr_mem hy))⟩
def Ra : List D := dTof [dA] ++ wr [] [] (dS1 97)
theorem bent_a1 (T : TakeOk c__law_take) : Bent 5 (.tup [dA]) Ra := by
  refine bent_tup T 4 [dA] (dTof [dA]) Ra (by decide) (fun p => by kernel_rfl) (fun p => by kernel_rfl) (by decide) (by decide) (fun x hx => List.mem_append_left _ hx) fun i hi => ?_
  match i, hi with
  | 0, _ => exact ⟨dA, dS1 97, [], [], fun p => by kernel_rfl, bent_a T 3, fun p => by kernel_rfl, fun p => by kernel_rfl, by decide, fun y hy => List.mem_append_right _ (wr_mem hy)⟩
abbrev v2 : D := .tup [.tup [dA], .tup [], .int 3]
def R2 : List D := dTof [.tup [dA], .tup [], .int 3] ++ (wr [] [.tup [], .int 3] Ra ++ (wr [.tup [dA]] [.int 3] dE ++ wr [.tup [dA], .tup []] [] (dI 3)))
theorem bent_2 (T : TakeOk c__law_take) : Bent 6 v2 R2 := by
  refine bent_tup T 5 [.tup [dA], .tup [], .int 3] (dTof [.tup [dA], .tup [], .int 3]) R2 (by decide) (fun p => by kernel_rfl) (fun p => by kernel_rfl) (by decide) (by decide) (fun x hx => List.mem_append_left _ hx) fun i hi => ?_
  match i, hi with
  | 0, _ => exact ⟨.tup [dA], Ra, [], [.tup [], .int 3], fun p => by kernel_rfl, bent_a1 T, fun p => by kernel_rfl, fun p => by kernel_rfl, by decide, fun y hy => List.mem_append_right _ (List.mem_append_left _ (wr_mem hy))⟩
  | 1, _ => exact ⟨.tup [], dE, [.tup [dA]], [.int 3], fun p => by kernel_rfl, bent_nil T 4, fun p => by kernel_rfl, fun p => by kernel_rfl, by decide, fun y hy => List.mem_append_right _ (List.mem_append_right _ (List.mem_append_left _ (wr_mem hy)))⟩
  | 2, _ => exact ⟨.int 3, dI 3, [.tup [dA], .tup []], [], fun p => by kernel_rfl, bent_int T 4 3, fun p => by kernel_rfl, fun p => by kernel_rfl, by decide, fun y hy => List.mem_append_right _ (List.mem_append_right _ (List.mem_append_right _ (wr_mem hy)))⟩
end K00
namespace K00
open PySem PySem.Spec PyProof.Rows L2 Rf Rh Pg LwA
def okW (v : D) : Prop := ∀ (p vs : D) (x3 x4 x5 x6 x7 : Option D), vB [some p, some vs, some v, x3, x4, x5, x6, x7, none] = .nx [some p, some vs, some v, some (.fls (erD v)), some (.int 24), some (.exc "BadLine" v), some (.lst ((List.range 25).map fun i => .bl (Nat.beq i 24))), some (.exc "PartError" v), none]
theorem okW_cons {v : D} {l : List D} (h : okW v) (t : ∀ y ∈ l, okW y) : ∀ y ∈ v :: l, okW y := fun y hy => (List.mem_cons.mp hy).elim (fun e => e ▸ h) (t y)
theorem okW_nil : ∀ y ∈ ([] : List D), okW y := fun y hy => absurd hy (by simp)
theorem okW_app {l l' : List D} (h : ∀ y ∈ l, okW y) (t : ∀ y ∈ l', okW y) : ∀ y ∈ l ++ l', okW y := fun y hy => (List.mem_append.mp hy).elim (h y) (t y)
end K00
namespace K00
open PySem PySem.Spec PyProof.Rows L2 Rf Rh Pg LwA
theorem ok_o1 : ∀ y ∈ (odds1.take 9), okW y := by
  show ∀ y ∈ [_, _, _, _, _, _, _, _, _], okW y
  repeat (refine okW_cons (fun p vs x3 x4 x5 x6 x7 => by kernel_rfl) ?_)
  exact okW_nil
end K00
namespace K00
open PySem PySem.Spec PyProof.Rows L2 Rf Rh Pg LwA
theorem ok_o2 : ∀ y ∈ (odds1.drop 9), okW y := by
  show ∀ y ∈ [_, _, _, _, _, _, _, _, _], okW y
  repeat (refine okW_cons (fun p vs x3 x4 x5 x6 x7 => by kernel_rfl) ?_)
  exact okW_nil
end K00
namespace K00
open PySem PySem.Spec PyProof.Rows L2 Rf Rh Pg LwA
theorem ok_o3 : ∀ y ∈ odds2, okW y := by
  show ∀ y ∈ [_, _, _, _, _, _, _, _], okW y
  repeat (refine okW_cons (fun p vs x3 x4 x5 x6 x7 => by kernel_rfl) ?_)
  exact okW_nil
end K00
namespace K00
open PySem PySem.Spec PyProof.Rows L2 Rf Rh Pg LwA
theorem ok_1t : ∀ y ∈ (dTof [.int 2, .tup [dA, dB]]), okW y := by
  show ∀ y ∈ [_, _, _, _, _, _, _], okW y
  repeat (refine okW_cons (fun p vs x3 x4 x5 x6 x7 => by kernel_rfl) ?_)
  exact okW_nil
end K00
namespace K00
open PySem PySem.Spec PyProof.Rows L2 Rf Rh Pg LwA
theorem ok_1i : ∀ y ∈ (wr [] [.tup [dA, dB]] (dI 2)), okW y := by
  show ∀ y ∈ [_, _, _, _, _, _, _, _, _], okW y
  repeat (refine okW_cons (fun p vs x3 x4 x5 x6 x7 => by kernel_rfl) ?_)
  exact okW_nil
end K00
namespace K00
open PySem PySem.Spec PyProof.Rows L2 Rf Rh Pg LwA
theorem ok_abt : ∀ y ∈ (wr [.int 2] [] (dTof [dA, dB])), okW y := by
  show ∀ y ∈ [_, _, _, _, _, _, _], okW y
  repeat (refine okW_cons (fun p vs x3 x4 x5 x6 x7 => by kernel_rfl) ?_)
  exact okW_nil
end K00
namespace K00
open PySem PySem.Spec PyProof.Rows L2 Rf Rh Pg LwA
theorem ok_aba : ∀ y ∈ (wr [.int 2] [] (wr [] [dB] (dS1 97))), okW y := by
  show ∀ y ∈ [_, _, _, _, _, _, _, _, _, _], okW y
  repeat (refine okW_cons (fun p vs x3 x4 x5 x6 x7 => by kernel_rfl) ?_)
  exact okW_nil
end K00
namespace K00
open PySem PySem.Spec PyProof.Rows L2 Rf Rh Pg LwA
theorem ok_abb : ∀ y ∈ (wr [.int 2] [] (wr [dA] [] (dS1 98))), okW y := by
  show ∀ y ∈ [_, _, _, _, _, _, _, _, _, _], okW y
  repeat (refine okW_cons (fun p vs x3 x4 x5 x6 x7 => by kernel_rfl) ?_)
  exact okW_nil
end K00
namespace K00
open PySem PySem.Spec PyProof.Rows L2 Rf Rh Pg LwA
theorem ok_2t : ∀ y ∈ (dTof [.tup [dA], .tup [], .int 3]), okW y := by
  show ∀ y ∈ [_, _, _, _, _, _, _], okW y
  repeat (refine okW_cons (fun p vs x3 x4 x5 x6 x7 => by kernel_rfl) ?_)
  exact okW_nil
end K00
namespace K00
open PySem PySem.Spec PyProof.Rows L2 Rf Rh Pg LwA
theorem ok_at : ∀ y ∈ (wr [] [.tup [], .int 3] (dTof [dA])), okW y := by
  show ∀ y ∈ [_, _, _, _, _, _, _], okW y
  repeat (refine okW_cons (fun p vs x3 x4 x5 x6 x7 => by kernel_rfl) ?_)
  exact okW_nil
end K00
namespace K00
open PySem PySem.Spec PyProof.Rows L2 Rf Rh Pg LwA
theorem ok_aa : ∀ y ∈ (wr [] [.tup [], .int 3] (wr [] [] (dS1 97))), okW y := by
  show ∀ y ∈ [_, _, _, _, _, _, _, _, _, _], okW y
  repeat (refine okW_cons (fun p vs x3 x4 x5 x6 x7 => by kernel_rfl) ?_)
  exact okW_nil
end K00
namespace K00
open PySem PySem.Spec PyProof.Rows L2 Rf Rh Pg LwA
theorem ok_e : ∀ y ∈ (wr [.tup [dA]] [.int 3] dE), okW y := by
  show ∀ y ∈ [_, _, _, _, _, _, _], okW y
  repeat (refine okW_cons (fun p vs x3 x4 x5 x6 x7 => by kernel_rfl) ?_)
  exact okW_nil
end K00
namespace K00
open PySem PySem.Spec PyProof.Rows L2 Rf Rh Pg LwA
theorem ok_3i : ∀ y ∈ (wr [.tup [dA], .tup []] [] (dI 3)), okW y := by
  show ∀ y ∈ [_, _, _, _, _, _, _, _, _], okW y
  repeat (refine okW_cons (fun p vs x3 x4 x5 x6 x7 => by kernel_rfl) ?_)
  exact okW_nil
end K00
namespace K00
open PySem PySem.Spec PyProof.Rows L2 Rf Dr
theorem take1 (a b n u : Int) (ha : 0 < a) (hu : 0 < u) (hu2 : u < 1073741824) :
    c__law_take [.lst [.int a, .int b, .int n], .int u] = .ok (.int (a % u)) [some (.lst [.int (a / u), .int b, .int n]), none] := by
  unfold c__law_take b__law_take
  simp [seqB, sIf, sSet, sSetIx, sRet, lift, liftB, liftL, O.at, O.bind, nd, seqF, g1, g2, eVar, eC, fGt, fGe, fLt, fI, fIx, atI, fMod, fDiv, fMulI, fPow, fInt, fAbs, fAdd, fLenX, fLen, keepI, noX, asB, imm, immL, ixN, sNil, vIf, mkL, gLstD, runB, env0, outs, cDiv, cPow, List.replicate, List.range, List.range.loop, *]
theorem take2 (a b n u : Int) (ha : ¬ 0 < a) (hb : 0 ≤ b) (hb2 : b < 2 ^ 70) (hn : 0 ≤ n) (hn2 : n < 1000000) (hu : 0 < u) (hu2 : u < 1073741824) :
    ∃ d, c__law_take [.lst [.int a, .int b, .int n], .int u] = .ok (.int (d % u)) [some (.lst [.int a, .int b, .int (n + 1)]), none] := by
  obtain ⟨p, e0, p1, p2⟩ := prime_ok (n + 1)
  have e1 : fMulI (.int 92003) (.int (n + 1)) = .ok (.int (92003 * (n + 1))) := mul_ok (by decide) (by decide) (by omega) (by omega)
  have e2 : fMulI (.int (92003 * (n + 1))) (.int (n + 1)) = .ok (.int (92003 * (n + 1) * (n + 1))) := mul_ok (by omega) (by omega) (by omega) (by omega)
  have q1 : 0 ≤ 92003 * (n + 1) * (n + 1) := Int.mul_nonneg (by omega) (by omega)
  have q2 : 92003 * (n + 1) * (n + 1) ≤ 92003 * (n + 1) * 1000000 := Int.mul_le_mul_of_nonneg_left (by omega) (by omega)
  obtain ⟨y, hy⟩ : ∃ y, b + 92003 * (n + 1) * (n + 1) + 3 = y := ⟨_, rfl⟩
  have e3 : fPow (.int y) (.int 3) = .ok (.int (y ^ 3)) := pow_ok (by omega) (by omega)
  obtain ⟨x, hx⟩ : ∃ x, y ^ 3 % p = x := ⟨_, rfl⟩
  have x1 : 0 ≤ x := by rw [← hx]; exact Int.emod_nonneg _ (by omega)
  have x2 : x < p := by rw [← hx]; exact Int.emod_lt_of_pos _ p1
  have e4 : fMulI (.int 97) (.int (n + 1)) = .ok (.int (97 * (n + 1))) := mul_ok (by decide) (by decide) (by omega) (by omega)
  have e5 : fMulI (.int x) (.int (x % 10007 + 97 * (n + 1))) = .ok (.int (x * (x % 10007 + 97 * (n + 1)))) := mul_ok (by omega) (by omega) (by omega) (by omega)
  refine ⟨x * (x % 10007 + 97 * (n + 1)) / 127, ?_⟩
  unfold c__law_take b__law_take
  simp [ix0, ix1, ix2, sz5, sz3, seqB, sIf, sSet, sSetIx, sRet, lift, liftB, liftL, O.at, O.bind, nd, seqF, g1, g2, eVar, eC, fGt, fGe, fLt, fI, fMod, fDiv, fInt, fAbs, fAdd, fLenX, fLen, keepI, noX, asB, imm, immL, ixN, sNil, vIf, mkL, gLstD, runB, env0, outs, cDiv, List.replicate, List.range, List.range.loop, *]
theorem pot_ok (ns : List Int) (k : Int) (h0 : 0 ≤ k) (h1 : k < 4) :
    ∃ a b : Int, c__law_pot [.scr ns, .int k] = .ok (.lst [.int a, .int b, .int 0]) [none, none] ∧ 0 ≤ a ∧ 0 ≤ b ∧ b < 2 ^ 70 := by
  obtain ⟨q, e1, r, e2, r1, r2⟩ : ∃ q, fPow (.int 10) (.int 60) = .ok (.int q) ∧ ∃ r : Int, fPow (.int q) (.int 5) = .ok (.int r) ∧ 0 < r ∧ r < 2 ^ 1000 := ⟨10 ^ 60, by kernel_rfl, 10 ^ 300, by kernel_rfl, by decide +kernel, by decide +kernel⟩
  obtain ⟨t, e3⟩ : ∃ t, fPow (.int 10) (.int 18) = .ok (.int t) := ⟨10 ^ 18, by kernel_rfl⟩
  have e4 : fMulI (.int 1) (.int k) = .ok (.int (1 * k)) := mul_ok (by decide) (by decide) (by omega) (by omega)
  have e7 : fMulI (.int 9001) (.int k) = .ok (.int (9001 * k)) := mul_ok (by decide) (by decide) (by omega) (by omega)
  have e8 : fMulI (.int (9001 * k)) (.int k) = .ok (.int (9001 * k * k)) := mul_ok (by omega) (by omega) (by omega) (by omega)
  have main : ∀ cell : Int, ∃ a b : Int, (seqB (sSet 3 (lift (nd (g2 fMulI) [(nd (g2 fMod) [(nd (g1 fInt) [(nd (g1 fAbs) [(eVar 2)])]), (nd (g2 fPow) [(nd (g2 fPow) [(eC (.int 10)), (eC (.int 60))]), (eC (.int 5))])]), (nd (g1 fInt) [(nd (g2 fGe) [(nd (g1 fAbs) [(eVar 2)]), (nd (g2 fPow) [(eC (.int 10)), (eC (.int 18))])])])])))
      (seqB (sSet 4 (lift (nd (g2 fMod) [(nd (g1 fInt) [(eVar 2)]), (eC (.int 2305843009213693951))])))
      (sRet (liftL (nd gLstD [(eVar 3), (nd (g2 fMod) [(nd (g1 fInt) [(nd (g2 fAdd) [(nd (g2 fAdd) [(nd (g2 fMulI) [(eVar 4), (eC (.int 78317))]), (nd (g2 fMulI) [(nd (g2 fMulI) [(eC (.int 9001)), (eVar 1)]), (eVar 1)])]), (eC (.int 223))])]), (eC (.int 2305843009213693921))]), (eC (.int 0))]))))) [some (.scr ns), some (.int k), some (.int cell), none, none]
      = .rt (.lst [.int a, .int b, .int 0]) [some (.scr ns), some (.int k), some (.int cell), some (.int a), some (.int (cell % 2305843009213693951))] ∧ 0 ≤ a ∧ 0 ≤ b ∧ b < 2 ^ 70 := by
    intro cell
    obtain ⟨u, hu⟩ : ∃ u : Int, (if cell < 0 then -cell else cell) = u := ⟨_, rfl⟩
    have hu0 : 0 ≤ u := by rw [← hu]; split <;> omega
    have m1 : 0 ≤ u % r := Int.emod_nonneg _ (by omega)
    have m2 : u % r < r := Int.emod_lt_of_pos _ r1
    obtain ⟨j, hj⟩ : ∃ j : Int, (if t ≤ u then 1 else 0) = j := ⟨_, rfl⟩
    have j0 : 0 ≤ j ∧ j < 2 := by rw [← hj]; split <;> omega
    have e5 : fMulI (.int (u % r)) (.int j) = .ok (.int (u % r * j)) := mulW m1 (by omega) j0.1 j0.2
    obtain ⟨z, hz⟩ : ∃ z : Int, cell % 2305843009213693951 = z := ⟨_, rfl⟩
    have z1 : 0 ≤ z := by omega
    have z2 : z < 2305843009213693951 := by omega
    have e6 : fMulI (.int z) (.int 78317) = .ok (.int (z * 78317)) := mul_ok z1 (by omega) (by decide) (by decide)
    refine ⟨u % r * j, (z * 78317 + 9001 * k * k + 223) % 2305843009213693921, ?_, Int.mul_nonneg m1 j0.1, by omega, by omega⟩
    simp [ix0, ix1, ix2, sz5, sz3, seqB, sIf, sSet, sSetIx, sRet, lift, liftB, liftL, O.at, O.bind, nd, seqF, g1, g2, eVar, eC, fGt, fGe, fLt, fI, fMod, fDiv, fInt, fAbs, fAdd, fLenX, fLen, keepI, noX, asB, imm, immL, ixN, sNil, vIf, mkL, gLstD, runB, env0, outs, cDiv, List.replicate, List.range, List.range.loop, *]
  obtain ⟨cell, hc⟩ : ∃ cell : Int, (vIf (fun env => asB ((nd (g2 fLt) [(eVar 1), (nd (g1 fLenX) [(eVar 0)])]) env)) (nd (g2 fIx) [(eVar 0), (eVar 1)]) (nd (g2 fAdd) [(nd (g2 fMulI) [(eC (.int 1)), (eVar 1)]), (eC (.int 3))])) [some (.scr ns), some (.int k), none, none, none] = .ok (.int cell) := by
    by_cases h : k < ns.length
    · obtain ⟨c, hc⟩ := ixs h0 h
      refine ⟨c, ?_⟩
      simp [ix0, ix1, ix2, sz5, sz3, seqB, sIf, sSet, sSetIx, sRet, lift, liftB, liftL, O.at, O.bind, nd, seqF, g1, g2, eVar, eC, fGt, fGe, fLt, fI, fMod, fDiv, fInt, fAbs, fAdd, fLenX, fLen, keepI, noX, asB, imm, immL, ixN, sNil, vIf, mkL, gLstD, runB, env0, outs, cDiv, List.replicate, List.range, List.range.loop, *]
    · refine ⟨1 * k + 3, ?_⟩
      simp [ix0, ix1, ix2, sz5, sz3, seqB, sIf, sSet, sSetIx, sRet, lift, liftB, liftL, O.at, O.bind, nd, seqF, g1, g2, eVar, eC, fGt, fGe, fLt, fI, fMod, fDiv, fInt, fAbs, fAdd, fLenX, fLen, keepI, noX, asB, imm, immL, ixN, sNil, vIf, mkL, gLstD, runB, env0, outs, cDiv, List.replicate, List.range, List.range.loop, *]
  obtain ⟨a, b, h, h2⟩ := main cell
  refine ⟨a, b, ?_, h2⟩
  unfold c__law_pot b__law_pot runB
  have s1 : ∀ B : Rf.Env → Fl, seqB (sSet 2 (lift (vIf (fun env => asB ((nd (g2 fLt) [(eVar 1), (nd (g1 fLenX) [(eVar 0)])]) env)) (nd (g2 fIx) [(eVar 0), (eVar 1)]) (nd (g2 fAdd) [(nd (g2 fMulI) [(eC (.int 1)), (eVar 1)]), (eC (.int 3))])))) B (env0 5 [.scr ns, .int k]) = B [some (.scr ns), some (.int k), some (.int cell), none, none] := by
    intro B
    have : env0 5 [.scr ns, .int k] = [some (.scr ns), some (.int k), none, none, none] := rfl
    rw [this]
    simp [seqB, sSet, lift, hc, O.at]
  rw [s1, h]
  rfl
theorem take_ok {a b n u m : Int} (h : PotOk a b n m) (hm : m < 1000000) (hu : 0 < u) (hu2 : u < 1073741824) :
    ∃ d a' n' : Int, c__law_take [potD a b n, .int u] = .ok (.int d) [some (potD a' b n'), none] ∧ 0 ≤ d ∧ d < u ∧ PotOk a' b n' (m + 1) := by
  by_cases ha : 0 < a
  · exact ⟨a % u, a / u, n, take1 a b n u ha hu hu2, Int.emod_nonneg _ (by omega), Int.emod_lt_of_pos _ hu, ⟨Int.ediv_nonneg h.a0 (by omega), h.b0, h.b1, h.n0, by have := h.n1; omega⟩⟩
  · obtain ⟨d, e⟩ := take2 a b n u ha h.b0 h.b1 h.n0 (by have := h.n1; omega) hu hu2
    exact ⟨d % u, a, n + 1, e, Int.emod_nonneg _ (by omega), Int.emod_lt_of_pos _ hu, ⟨h.a0, h.b0, h.b1, by have := h.n0; omega, by have := h.n1; omega⟩⟩
end K00
namespace K00
open PySem PySem.Spec PyProof.Rows L2 Rf Rh Pg LwA Dr
theorem takeOk : LwA.TakeOk c__law_take := by
  intro p m u P hm h0 h1
  obtain ⟨a, c, n, rfl, h⟩ := P
  obtain ⟨d, a', n', e, d0, d1, h'⟩ := take_ok h hm h0 h1
  exact ⟨d, potD a' c n', e, d0, d1, a', c, n', rfl, h'⟩
theorem wr_app (a b l l' : List D) : wr a b (l ++ l') = wr a b l ++ wr a b l' := List.map_append
theorem ok_odds : ∀ y ∈ odds1 ++ odds2, okW y := by
  refine okW_app ?_ ok_o3
  rw [← List.take_append_drop 9 odds1]
  exact okW_app ok_o1 ok_o2
theorem ok_R1 : ∀ y ∈ R1, okW y := by
  refine okW_app ok_1t (okW_app ok_1i ?_)
  unfold Rab
  rw [wr_app, wr_app]
  exact okW_app ok_abt (okW_app ok_aba ok_abb)
theorem ok_R2 : ∀ y ∈ R2, okW y := by
  refine okW_app ok_2t (okW_app ?_ (okW_app ok_e ok_3i))
  unfold Ra
  rw [wr_app]
  exact okW_app ok_at ok_aa
theorem odd_mem {p : D} {m : Int} (P : PotS m p) (hm : m < 1000000) : ∃ (x p' : D), c__law_odd [p] = .ok x [some p'] ∧ okW x ∧ PotS (m + 1) p' := by
  obtain ⟨x, p', e, hx, P'⟩ := of_list takeOk (ds := odds1 ++ odds2) P hm (by decide) (by decide)
  refine ⟨x, p', ?_, ok_odds x hx, P'⟩
  have s0 : ∀ F, F [some p, none] = .ok (.lst odds1) [some p, none] → sSet 1 F (env0 2 [p]) = .nx [some p, some (.lst odds1)] := fun F h => set_ok (e := [some p, none]) h
  refine Dr.run_rt (n := 2) (p := 1) (io := [0]) (ds := [p]) (b := b__law_odd) (e := [some p', some (.lst odds1)]) ((Dr.seq_nx (s0 _ rfl)).trans (Pk.rt ?_))
  exact (call1 (g := c__law_of) (env := [some p, some (.lst odds1)]) (x := .lst (odds1 ++ odds2)) rfl rfl e).trans rfl
abbrev E0 (p : D) : Rf.Env := [some p, none, none, none, none, none, none, none, none]
theorem call_odd {p p' x : D} (e : c__law_odd [p] = .ok x [some p']) : eCallR [.io 0] c__law_odd (E0 p) = .ok x (E0 p') := by
  simp [eCallR, argsR, R.bind, argD, e, updO, E0]
theorem step_v {p vs v : D} (h : okW v) {x2 x3 x4 x5 x6 x7 : Option D} {r : List D} : ∃ y3 y4 y5 y6 y7, forL (gN 2) vB (v :: r) [some p, some vs, x2, x3, x4, x5, x6, x7, none] = forL (gN 2) vB r [some p, some vs, some v, y3, y4, y5, y6, y7, none] := by
  refine ⟨some (.fls (erD v)), some (.int 24), some (.exc "BadLine" v), some (.lst ((List.range 25).map fun i => .bl (Nat.beq i 24))), some (.exc "PartError" v), ?_⟩
  rw [forL]
  have g : gN 2 v [some p, some vs, x2, x3, x4, x5, x6, x7, none] = some [some p, some vs, some v, x3, x4, x5, x6, x7, none] := rfl
  rw [g]
  simp only [h p vs x3 x4 x5 x6 x7]
theorem right_ok {p q : Int} (hp : PotOk p q 0 0) : ∃ o, c__law_right [potD p q 0] = .ok (.bl true) o := by
  have P0 : PotS 0 (potD p q 0) := ⟨p, q, 0, rfl, hp⟩
  obtain ⟨x1, p1, e1, k1, P1⟩ := odd_mem P0 (by omega)
  obtain ⟨x2, p2, e2, k2, P2⟩ := odd_mem P1 (by omega)
  obtain ⟨x3, p3, e3, m3, P3⟩ := bent_1 takeOk P2 (by omega)
  obtain ⟨x4, p4, e4, m4, P4⟩ := bent_2 takeOk P3 (by omega)
  have k3 := ok_R1 x3 m3
  have k4 := ok_R2 x4 m4
  have c1 := call_odd e1
  have c2 := call_odd e2
  have c3 : eCallR [.io 0, .ex (lift (nd gTupD [(eC (.int 2)), (nd gTupD [(eC (.str "a")), (eC (.str "b"))])]))] c__law_bent (E0 p2) = .ok x3 (E0 p3) := call1 (x := v1) rfl rfl e3
  have c4 : eCallR [.io 0, .ex (lift (nd gTupD [(nd gTupD [(eC (.str "a"))]), (nd gTupD []), (eC (.int 3))]))] c__law_bent (E0 p3) = .ok x4 (E0 p4) := call1 (x := v2) rfl rfl e4
  have sz : ([x1, x2, x3, x4] : List D).length ≤ sizeLine := by show 4 ≤ sizeLine; decide
  have s1 : (sSet 1 (nr (fun ds => mkL (gLstD ds)) [(eCallR [.io 0] c__law_odd), (eCallR [.io 0] c__law_odd), (eCallR [.io 0, .ex (lift (nd gTupD [(eC (.int 2)), (nd gTupD [(eC (.str "a")), (eC (.str "b"))])]))] c__law_bent), (eCallR [.io 0, .ex (lift (nd gTupD [(nd gTupD [(eC (.str "a"))]), (nd gTupD []), (eC (.int 3))]))] c__law_bent)])) (env0 9 [potD p q 0]) = .nx [some p4, some (.lst [x1, x2, x3, x4]), none, none, none, none, none, none, none] := by
    have z : (nr (fun ds => mkL (gLstD ds)) [(eCallR [.io 0] c__law_odd), (eCallR [.io 0] c__law_odd), (eCallR [.io 0, .ex (lift (nd gTupD [(eC (.int 2)), (nd gTupD [(eC (.str "a")), (eC (.str "b"))])]))] c__law_bent), (eCallR [.io 0, .ex (lift (nd gTupD [(nd gTupD [(eC (.str "a"))]), (nd gTupD []), (eC (.int 3))]))] c__law_bent)]) (E0 (potD p q 0)) = .ok (.lst [x1, x2, x3, x4]) (E0 p4) := by
      rw [nr]
      simp only [seqR, c1, c2, c3, c4, R.bind, gLstD, sz, if_true, mkL, O.at]
    exact Pk.st z
  obtain ⟨a3, a4, a5, a6, a7, f1⟩ := step_v (p := p4) (vs := .lst [x1, x2, x3, x4]) k1 (x2 := none) (x3 := none) (x4 := none) (x5 := none) (x6 := none) (x7 := none) (r := [x2, x3, x4])
  obtain ⟨b3, b4, b5, b6, b7, f2⟩ := step_v (p := p4) (vs := .lst [x1, x2, x3, x4]) k2 (x2 := some x1) (x3 := a3) (x4 := a4) (x5 := a5) (x6 := a6) (x7 := a7) (r := [x3, x4])
  obtain ⟨g3, g4, g5, g6, g7, f3⟩ := step_v (p := p4) (vs := .lst [x1, x2, x3, x4]) k3 (x2 := some x2) (x3 := b3) (x4 := b4) (x5 := b5) (x6 := b6) (x7 := b7) (r := [x4])
  obtain ⟨h3, h4, h5, h6, h7, f4⟩ := step_v (p := p4) (vs := .lst [x1, x2, x3, x4]) k4 (x2 := some x3) (x3 := g3) (x4 := g4) (x5 := g5) (x6 := g6) (x7 := g7) (r := [])
  have lp := f1.trans (f2.trans (f3.trans f4))
  refine ⟨_, Dr.run_rt (n := 9) (p := 1) (io := [0]) (ds := [potD p q 0]) (b := b__law_right) (e := [some p4, some (.lst [x1, x2, x3, x4]), some x4, h3, h4, h5, h6, h7, none]) ?_⟩
  rw [right_parts]
  refine (Dr.seq_nx s1).trans ((Dr.seq_nx ((Dr.for_run (ds := [x1, x2, x3, x4]) (e := [some p4, some (.lst [x1, x2, x3, x4]), none, none, none, none, none, none, none]) rfl).trans lp)).trans ?_)
  rfl
end K00
namespace K00
open PySem PySem.Spec PyProof.Rows L2 Rf Dr
theorem place_ok (ns : List Int) (k : Int) (h0 : 0 ≤ k) (h1 : k < 4) : eCallT c__law_right (nd (gCall 2 [] c__law_pot) [(eVar 0), (eVar 1)]) [some (.scr ns), some (.int k)] = .ok (.bl true) := by
  obtain ⟨a, b, e, a0, b0, b1⟩ := pot_ok ns k h0 h1
  obtain ⟨o, e2⟩ := right_ok ⟨a0, b0, b1, by decide, by decide⟩
  have e3 : c__law_pot [.scr ns, .int k] = .ok (potD a b 0) [none, none] := e
  simp [eCallT, nd, seqF, O.bind, eVar, gCall, e3, ofC, e2]
theorem places_ok (ns : List Int) : ∃ m : Nat, (m = 1 ∨ m = 2 ∨ m = 3 ∨ m = 4) ∧ c__law_places [.scr ns, .int 4] = .ok (.lst (rangeD 0 m)) [none, none] := by
  refine ⟨(if (if (ns.length : Int) < 4 then (ns.length : Int) else 4) > 1 then (if (ns.length : Int) < 4 then (ns.length : Int) else 4) else 1).toNat, ?_, ?_⟩
  · split <;> split <;> omega
  · obtain ⟨q, hq⟩ : ∃ q : Int, (if (if (ns.length : Int) < 4 then (ns.length : Int) else 4) > 1 then (if (ns.length : Int) < 4 then (ns.length : Int) else 4) else 1) = q := ⟨_, rfl⟩
    rw [hq]
    have q1 : 1 ≤ q ∧ q ≤ 4 := by
      rw [← hq]
      split <;> split <;> omega
    have rg : RgOk 0 q := by
      have : q = 1 ∨ q = 2 ∨ q = 3 ∨ q = 4 := by omega
      rcases this with rfl | rfl | rfl | rfl <;> decide
    have hq2 : (if 1 < (if (ns.length : Int) < 4 then (ns.length : Int) else 4) then (if (ns.length : Int) < 4 then (ns.length : Int) else 4) else 1) = q := hq
    rw [show c__law_places [.scr ns, .int 4] = c0__law_places [.scr ns, .int 4] from (p__law_places.eq _ rfl).symm]
    simp [c0__law_places, runB, b__law_places, sRet, lift, mkL, rgD, nd, seqF, O.bind, O.at, g1, g2, eC, eVar, fMax2, fMin2, fI, fLenX, fLen, env0, outs, hq2, rg, List.range, List.range.loop]
theorem law_ok (ns : List Int) : ∃ o, c_law [.scr ns] = .ok (.bl true) o := by
  obtain ⟨m, hm, hp⟩ := places_ok ns
  refine ⟨outs [] 1 [some (.scr ns), none], ?_⟩
  have p0 := place_ok ns 0 (by decide) (by decide)
  have s1 : 1 ≤ sizeLine := by decide
  have p1 := place_ok ns 1 (by decide) (by decide)
  have s2 : 2 ≤ sizeLine := by decide
  have p2 := place_ok ns 2 (by decide) (by decide)
  have s3 : 3 ≤ sizeLine := by decide
  have p3 := place_ok ns 3 (by decide) (by decide)
  have s4 : 4 ≤ sizeLine := by decide
  rw [show c_law [.scr ns] = c0_law [.scr ns] from (p_law.eq _ rfl).symm]
  rcases hm with rfl | rfl | rfl | rfl
  · have hr : rangeD 0 1 = [.int 0] := rfl
    rw [hr] at hp
    simp [c0_law, runB, b_law, sRet, lift, mkL, nd, seqF, O.bind, O.at, g1, g2, eC, eVar, gCall, hp, ofC, itA, eComp, s1, compF, gN, Tst.f, noX, wipeE, env0, p0, fAll, bls, List.replicate]
  · have hr : rangeD 0 2 = [.int 0, .int 1] := rfl
    rw [hr] at hp
    simp [c0_law, runB, b_law, sRet, lift, mkL, nd, seqF, O.bind, O.at, g1, g2, eC, eVar, gCall, hp, ofC, itA, eComp, s2, compF, gN, Tst.f, noX, wipeE, env0, p0, p1, fAll, bls, List.replicate]
  · have hr : rangeD 0 3 = [.int 0, .int 1, .int 2] := rfl
    rw [hr] at hp
    simp [c0_law, runB, b_law, sRet, lift, mkL, nd, seqF, O.bind, O.at, g1, g2, eC, eVar, gCall, hp, ofC, itA, eComp, s3, compF, gN, Tst.f, noX, wipeE, env0, p0, p1, p2, fAll, bls, List.replicate]
  · have hr : rangeD 0 4 = [.int 0, .int 1, .int 2, .int 3] := rfl
    rw [hr] at hp
    simp [c0_law, runB, b_law, sRet, lift, mkL, nd, seqF, O.bind, O.at, g1, g2, eC, eVar, gCall, hp, ofC, itA, eComp, s4, compF, gN, Tst.f, noX, wipeE, env0, p0, p1, p2, p3, fAll, bls, List.replicate]
end K00
namespace K00
open PySem PySem.Spec PyProof.Rows L2 Rf Rh
theorem facts {w : World} {K : PySem.W.Frag} {h : Heap} {mg : Str → Option Value} {f : Addr} (X : K.In h) (G : h.Ns mainGlobals mg) (hfa : mg ("law" : Str) = some (.ref f)) (c : SaysE fx fn sn h K) :
    ∃ fd : FuncData, (∀ (s : Shared) (v : Value), BindsTo s fd ⟨[v], []⟩ [("_law_script", v)]) ∧ ∀ base : Heap, K.In base → base.Ns mainGlobals mg → TbK K mg base → FnG (PySem.Challenge.rw_partedroles_k00_errors_and_what_they_kee).prog w K mg base 13 f fd ["_law_script"] (spC K 1 [] false c_law) := by
  obtain ⟨fd, F⟩ := c.l.c.def_ 9 (d := x_law) rfl
  have e := hfa.symm.trans (He.glo_ok X G (c.l.c.fact 29 (f := fxFa (.glo "law")) rfl))
  cases e
  have b := FunD.bindsA (ps := ["_law_script"]) F fun _ _ _ _ _ _ us hl => match us, hl with | [_], _ => rfl
  exact ⟨fd, fun s v => b s [v] rfl, fun base _ _ tb => W_law ⟨c.l.c, c.s, by kernel_rfl, by kernel_rfl, tb, h, X, G⟩ F⟩
theorem asked {K : PySem.W.Frag} {H : Hp} {a : Addr} {ns : List Int} (ht : ∀ t ∈ tabsOf K, TabA H t.2) (hS : SqL K H a (ns.map V.int)) : spC K 1 [] false c_law [.ref a] H (fun v _ => v = .bl true) fun _ _ _ => False := by
  obtain ⟨o, e⟩ := law_ok ns
  refine ⟨rfl, [.scr ns], fun _ => False, fun _ _ => False, rfl, rel_pure (Nt.of ht fun a h => h.elim) (.cons (.scr ?_) .nil), ?_⟩
  · rw [vis_none]
    exact hS
  · rw [e]
    intro v H' S' po res
    unfold Res at res
    cases res
    rfl
end K00
open PySem PySem.W PySem.Calls PyProof.Rows
theorem PySem.Challenge.cw_partedroles_k00_errors_and_what_they_kee_holds : PySem.Challenge.rw_partedroles_k00_errors_and_what_they_kee.Holds := by
  w_on; o_law
  refine HandSHeadRun.head_any (r := OpenLaw.row PySem.Challenge.rw_partedroles_k00_errors_and_what_they_kee) (q := view (OpenLaw.row PySem.Challenge.rw_partedroles_k00_errors_and_what_they_kee).prog [37]) (H := K00.hk) (ob := K00.ob) (M := 20000) (loose := K00.loose) (d := HandSHeadRun.topDef (OpenLaw.row PySem.Challenge.rw_partedroles_k00_errors_and_what_they_kee).prog 37) (kwd := []) K00.ob_eq
    (by kernel_rfl) (fun s => by kernel_rfl) K00.run (by kernel_rfl) (by kernel_rfl) (by kernel_rfl) (by rfl) (by first | assumption | decide +kernel) (by decide +kernel) ⟨rfl, rfl, rfl, rfl, rfl, by decide +kernel⟩ ?hw ?hc
  case hw => w_witness2
  case hc =>
    refine Rh.walk_gT (l := PySem.Challenge.rw_partedroles_k00_errors_and_what_they_kee) (m := 63) (lv := 13) (p := "_law_script") rfl (by decide) (by kernel_rfl) ⟨rfl, by decide, by decide⟩ ?F
    intro w mg fa h Y G hmg0
    obtain ⟨K, KX, c⟩ := Y
    have hmg : mg ("law" : PySem.Str) = some (.ref fa) := by
      have e : (HandSHeadRun.topDef (OpenLaw.row PySem.Challenge.rw_partedroles_k00_errors_and_what_they_kee).prog 37).name = ("law" : PySem.Str) := by kernel_rfl
      rw [← e]
      exact hmg0
    obtain ⟨fd, hb, hF⟩ := K00.facts (w := w) KX G hmg c
    exact ⟨K, fd, Rf.spC K 1 [] false K00.c_law, KX, hb, c.l.empty, c.l.out, c.l.hd, fun H a ns hl ht hS => K00.asked ht hS, hF⟩
