import PyProof.Rows.All
import Wide.All
import OpenK.AllK
import Wide.FinOn
import PySem.Challenge.RW_pileports_k25_forms_that_are_too_wide
import HandS.HeadNt
import HandS.HeadHook3
import HandS.HeadHook4
import HandS.Head2
import HandS.HeadEnd
import HandS.ExcInit
import HandS.ExcField
import KE.KExcSuper
import HandS.HeadWalk
import PyProof.EqLayable
import HandS.ForMost
import HandS.ForExc
import HandS.Star
import HandS.Lambda
import HandS.Nested
import KE.KeyNested
import HandS.Strs
import HandS.Wide
import HandS.Deep
import HandS.IsInst
import HandS.Style
import HandS.TupAny
import HandS.Zip
import HandS.NoneIn
import HandS.More
import PyProof.RulesMatch
import KE.GoesMore
import KE.GoesZip
import HandS.Text
import HandS.Property
import HandS.ClsMeth
import KE.KCallOwn
import HandS.Conv
import KE.SortData
import KE.GoesEnum
import HandS.Codes
import HandS.FStr
import HandS.FStrTup
import KE.KNest
import KE.KLam
import HandS.HotCalls
import HandS.TryMany
import PyProof.ListRange
import PyProof.LongRange
import HandS.Defaults
import KE.KUnpackStar
import KE.KxIndex
import HandS.StrMore
import HandS.RaiseMore
import HandS.OwnEq
import PyProof.EqKinds
import PyProof.DictRoadsH
import KE.KDictCopyH
import KE.KDictSum
import PyProof.EqAt
set_option Elab.async false
set_option linter.all false
set_option maxRecDepth 100000
set_option maxHeartbeats 4000000
/-! GFA: what one run of the top is asked: the facts, the defs, the tables, the errors. -/
namespace GD
open PySem PySem.Spec PyProof.Rows L2
open He (ga ma eqO eqO_ok ba)
/-- where a def's function stands -/
inductive Pl where
  | g (x : Str) | m (c m : Str) | p (c m : Str) | c (c m : Str) | s (c m : Str)
def Pl.at_ (K : PySem.W.Frag) : Pl → Addr
  | .g x => ga K x
  | .m x y => ma K (ga K x) y
  | .p x y => He5.wf K (ga K x) "property" y
  | .c x y => He5.wf K (ga K x) "classmethod" y
  | .s x y => He5.wf K (ga K x) "staticmethod" y
structure DefG where
  pl : Pl
  name : Str
  qual : Str
  st : Stmt
  dfl : List He.Dv
def DefG.a (d : DefG) : He5.DefA := { at_ := fun K => d.pl.at_ K, name := d.name, qual := d.qual, params := defArgs d.st, body := defBody d.st, scope := defScope d.st, dfl := d.dfl }
inductive Fg where
  | glo (x : Str) | free (x : Str) | int (x : Str) (i : Int) | str (x z : Str)
  | cls (c : Str) | noat (c f : Str) | con (c f : Str) (i : Int) | met (c m : Str) | sf (c : Str) | fni (c m : Str) | new (c : Str) | prp (c m : Str) | crd (c : Str) | isi (c : Str) | cme (c m : Str) | sme (c m : Str) | exm (c b : Str) (v : Bool) | xf (c : Str) (ats : List Str) | nb (c : Str) | nbs (c : Str) | cvl (c f : Str) (i : Int) | kwd (pl : Pl) (y : Str) (d : Option Int)
def dfB (u : Value) : Option Int → Bool
  | none => (match u with
    | .none => true
    | _ => false)
  | some i => (match u with
    | .int j _ => decide (j = i)
    | _ => false)
def kwdB (K : PySem.W.Frag) (f : Addr) (y : Str) (d : Option Int) : Bool := match K.lookup f with
  | some ⟨_, _, .func fd, _⟩ => (match fd.kwdefaults with
    | .ref D => (match PySem.W.nsIn K D y with
      | some (some u) => dfB u d
      | _ => false)
    | _ => false)
  | _ => false
def Fg.ok (K : PySem.W.Frag) : Fg → Bool
  | .glo x => (He.Fa.glo x).ok K
  | .free x => (He.Fa.free x).ok K
  | .int x i => (He.Fa.int x i).ok K
  | .str x i => (He.Fa.str x i).ok K
  | .cls x => (He.Fa.cls x).ok K
  | .noat x f => (He.Fa.noat x f).ok K
  | .con x f i => He.conB K x f (.int i)
  | .met x m => (He.Fa.meth x m).ok K
  | .sf x => PySem.W.selfFirst K (ga K x)
  | .fni x m => PySem.W.fnIn K (ma K (ga K x) m)
  | .new x => (He.Fa.mkr x).ok K
  | .prp c m => eqO (PySem.W.findIn K (.ref (ga K c)) m) (some (some (.ref (ma K (ga K c) m)))) && (eqO (PySem.W.specialIn K (.ref (ma K (ga K c) m)) "__get__") (some (some (.builtin "property.__get__"))) && (decide (PySem.W.takesIn K (.ref (ma K (ga K c) m)) = some true) &&
    (match PySem.W.recIn K (ma K (ga K c) m) "property" with
      | some (.ref _ :: _) => true
      | _ => false)))
  | .crd c => PySem.W.readsIn K (ga K c) (.type "type") && eqO (PySem.W.specialIn K (.ref (ga K c)) "__getattribute__") (some (some (.builtin "type.__getattribute__")))
  | .isi c => (eqO (PySem.W.findIn K (.ref (ga K c)) "__class__") (some (some (.builtin "object.__class__"))) && (eqO (PySem.W.specialIn K (.builtin "object.__class__") "__get__") (some (some (.builtin "getset_descriptor.__get__"))) && (decide (PySem.W.takesIn K (.builtin "object.__class__") = some true) &&
    (decide (PySem.W.mroIn K (ga K c) (.type "object") = some true) && decide (PySem.W.kitOne K (.ref (ga K c)) (.ref (ga K c)) = some true))))) && ((decide (PySem.W.kitOne K (.type "NoneType") (.ref (ga K c)) = some false) && decide (PySem.W.kitOne K (.type "str") (.ref (ga K c)) = some false)) && (decide (PySem.W.kitOne K (.type "tuple") (.ref (ga K c)) = some false) && decide (PySem.W.kitOne K (.type "list") (.ref (ga K c)) = some false)))
  | .cme c m => He5.wrapB K (ga K c) "classmethod" "classmethod.__get__" m && PySem.W.fnIn K (He5.wf K (ga K c) "classmethod" m)
  | .sme c m => He5.wrapB K (ga K c) "staticmethod" "staticmethod.__get__" m
  | .exm c b v => decide (PySem.W.exmOne K (.ref (ga K c)) (.ref (ga K b)) = some v)
  | .xf c ats => xfB K (ga K c) && ats.all fun n => eqO (PySem.W.findIn K (.ref (ga K c)) n) (some none)
  | .nb c => eqO (PySem.W.findIn K (.ref (ga K c)) "__ne__") (some (some (.builtin "object.__ne__"))) && decide (PySem.W.mroIn K (ga K c) (.type "object") = some true)
  | .nbs c => (decide (PySem.W.mroIn K (ga K c) (.type "tuple") = some false) && decide (PySem.W.mroIn K (ga K c) (.type "list") = some false)) && (decide (PySem.W.mroIn K (ga K c) (.type "str") = some false) && decide (PySem.W.mroIn K (ga K c) (.type "NoneType") = some false))
  | .cvl c f i => match PySem.W.findCls K (.ref (ga K c)) (.type "type") f with
    | some (.val (.int j _)) => decide (j = i)
    | _ => false
  | .kwd pl y d => kwdB K (pl.at_ K) y d
/-- a dict of texts: its keys with their hashes, its values -/
def dicS (K : PySem.W.Frag) (x : Str) : Option (List (Option (Str × Int × Str))) := match K.lookup (ga K x) with
  | some ⟨.type t, none, .dict es _, sl⟩ => if (t == "dict" && sl.size == 0) = true then some (es.toList.map fun e => match e.key, e.val with
    | .str k _, .str v _ => some (k, e.hash, v)
    | _, _ => none) else none
  | _ => none
abbrev TabG : Type := Str × List (Str × Str)
abbrev AlG : Type := Bool × List He5.FnW × List (Option (List (Option (Str × Int × Str))))
def obsG (fa : List Fg) (fn : List DefG) (ts : List TabG) (K : PySem.W.Frag) : AlG := ((fa.all fun f => f.ok K) && ((fn.all fun d => d.a.ok K) && ts.all fun t => !(ga K t.1 == sysModules)), fn.map fun d => He5.fnA K (d.pl.at_ K), ts.map fun t => dicS K t.1)
def valG (fn : List DefG) (ts : List TabG) (w : World) : AlG := (true, fn.map fun d => d.a.val, ts.map fun t => some (t.2.map fun kv => some (kv.1, PyData.keyHash w.params kv.1, kv.2)))
def SaysG (fa : List Fg) (fn : List DefG) (ts : List TabG) (w : World) (K : PySem.W.Frag) : Prop := obsG fa fn ts K = valG fn ts w
/-! ### what the names reach, each object looked at once (the seen ones as bits of a number) -/
def addQ {β : Type} : List Addr → Nat → List Addr → (Nat → List Addr → β) → β
  | [], v, acc, k => k v acc
  | a :: r, v, acc, k => HandSHeadRun.frNat a fun a => match Nat.mod (Nat.shiftRight v a) 2 with
    | 0 => HandSHeadRun.frNat (Nat.lor v (Nat.shiftLeft 1 a)) fun v => addQ r v (a :: acc) k
    | _ + 1 => addQ r v acc k
def expQ {β : Type} (g : Addr → Option Obj) : List Addr → Nat → List Addr → (Nat → List Addr → β) → β
  | [], v, acc, k => k v acc
  | a :: r, v, acc, k => match g a with
    | some o => addQ (He.refsD o) v acc fun v acc => expQ g r v acc k
    | none => expQ g r v acc k
/-- the last step goes on from functions alone -/
def expF {β : Type} (g : Addr → Option Obj) : List Addr → Nat → List Addr → (Nat → List Addr → β) → β
  | [], v, acc, k => k v acc
  | a :: r, v, acc, k => match g a with
    | some o => (match o.data with
      | .func _ => addQ (He.refsD o) v acc fun v acc => expF g r v acc k
      | _ => expF g r v acc k)
    | none => expF g r v acc k
def lvF (g : Addr → Option Obj) : Nat → List Addr → Nat → List Addr → List Addr
  | 0, fr, v, all => expF g fr v [] fun _ fr' => fr' ++ (fr ++ all)
  | n + 1, fr, v, all => expQ g fr v [] fun v fr' => lvF g n fr' v (fr ++ all)
def asQ (g : Addr → Option Obj) (n : Nat) : List Addr := lvF g (n - 1) [mainGlobals] (Nat.shiftLeft 1 mainGlobals) [] ++ [cStatics]
def oexB (K : PySem.W.Frag) (C : Addr) : Bool := (match K.lookup C with
  | some ⟨.type t, _, .cls cd, sl⟩ => t == "type" && (match cd.mro, sl.toList with
    | .ref C' :: bm, [_, _, _, _, some (.builtin n), _] => C' == C && (n == "ValueError.__new__" && (!cd.hasDel && (cd.hasDict && PySem.HandSPX.refsVE bm)))
    | _, _ => false)
  | _ => false) && (eqO (PySem.W.findIn K (.ref C) "__setattr__") (some (some (.builtin "object.__setattr__"))) && (decide (PySem.W.subIn K (.ref C) (.type "BaseException") = some true) && (decide (PySem.W.typeIn K (.ref C) = some (.type "type")) && PySem.W.keepIn K (.ref C))))
abbrev FnE : Type := Option (Str × Str × Arguments × FuncBody × Scope × Addr × List Str × Addr)
def fnE (K : PySem.W.Frag) (c : Str) : FnE := match K.lookup (ma K (ga K c) "__init__") with
  | some ⟨_, _, .func fd, _⟩ => some (fd.name, fd.qualname, fd.params, fd.body, fd.scope, fd.globals, fd.closure.map (·.1), fd.builtins)
  | _ => none
structure ErrG where
  c : Str
  st : Stmt
def ErrG.val (e : ErrG) : FnE := some ("__init__", e.c ++ ".__init__", defArgs e.st, .stmts (defBody e.st), defScope e.st, mainGlobals, ["__class__"], builtinsNs)
def errB (K : PySem.W.Frag) (file c : Str) : Bool := (Fg.glo c).ok K && (oexB K (ga K c) && (eqO (PySem.W.findIn K (.ref (ga K c)) "__init__") (some (some (.ref (ma K (ga K c) "__init__")))) && (decide (PySem.W.typeIn K (.ref (ma K (ga K c) "__init__")) = some (.type "function")) &&
  (eqO (PySem.W.ks_superIn K (ga K c) (ga K c) "__init__") (some (some (.builtin "ValueError.__init__"))) && (decide (PySem.W.subIn K (.ref (ga K c)) (.type "ValueError") = some true) && (eqO (PySem.W.nsIn K cStatics "thirdparty.any") (some none) && (match K.lookup (ma K (ga K c) "__init__") with
    | some ⟨_, _, .func fd, _⟩ => (match fd.defaults with
      | .none => true
      | _ => false) && (match fd.code, fd.closure with
        | .ref cda, [(_, cc)] => PySem.W.codeIn K (.ref cda) fd.qualname && ((match K.lookup cda with
          | some ⟨_, _, .fields vs, _⟩ => (match (vs[2]? : Option Value) with
            | some (.str fl _) => file == fl
            | _ => false)
          | _ => false) && (match K.lookup cc with
            | some ⟨_, _, .cell (some (.ref C')), _⟩ => C' == ga K c
            | _ => false))
        | _, _ => false)
    | _ => false)))))))
abbrev AlH : Type := AlG × List FnE × Bool
def obsH (file : Str) (n : Nat) (fa : List Fg) (fn : List DefG) (ts : List TabG) (es : List ErrG) (tf : List He.Defn) (g : Addr → Option Obj) : AlH :=
  (obsG fa fn ts (He.frT g (asQ g n)), es.map fun e => fnE (He.frT g (asQ g n)) e.c, (es.all fun e => errB (He.frT g (asQ g n)) file e.c) && He.tabsB g tf (He.frT g (asQ g n)))
def valH (fn : List DefG) (ts : List TabG) (es : List ErrG) (w : World) : AlH := (valG fn ts w, es.map ErrG.val, true)
structure SaysH (file : Str) (fa : List Fg) (fn : List DefG) (ts : List TabG) (es : List ErrG) (tf : List He.Defn) (w : World) (h : Heap) (K : PySem.W.Frag) : Prop where
  g : SaysG fa fn ts w K
  e1 : (es.map fun e => fnE K e.c) = es.map ErrG.val
  e2 : (es.all fun e => errB K file e.c) = true
  hd : ∀ p ∈ tf, PySem.W.codeHdIn K (He.cT K p).1 (He.cT K p).2 = true
  out : ∀ p ∈ tf, K.lookup (He.cT K p).2 = none
  empty : ∀ p ∈ tf, h.get? (He.cT K p).2 = some { cls := .none, data := .fields #[] }
theorem saysH_of {file : Str} {n : Nat} {fa : List Fg} {fn : List DefG} {ts : List TabG} {es : List ErrG} {tf : List He.Defn} {w : World} {h : Heap} (e : obsH file n fa fn ts es tf h.get? = valH fn ts es w) : SaysH file fa fn ts es tf w h (He.frT h.get? (asQ h.get? n)) := by
  have e1 := congrArg (fun z : AlH => z.1) e
  have e2 := congrArg (fun z : AlH => z.2.1) e
  have e3 : ((es.all fun e => errB (He.frT h.get? (asQ h.get? n)) file e.c) && He.tabsB h.get? tf (He.frT h.get? (asQ h.get? n))) = true := congrArg (fun z : AlH => z.2.2) e
  obtain ⟨h1, h2⟩ := ba e3
  have key : ∀ p ∈ tf, PySem.W.codeHdIn (He.frT h.get? (asQ h.get? n)) (He.cT (He.frT h.get? (asQ h.get? n)) p).1 (He.cT (He.frT h.get? (asQ h.get? n)) p).2 = true ∧ ∃ o, h.get? (He.cT (He.frT h.get? (asQ h.get? n)) p).2 = some o ∧ He.emptyTab o = true := fun p hp => by
    obtain ⟨h3, h4⟩ := ba (List.all_eq_true.mp h2 p hp)
    refine ⟨h3, ?_⟩
    split at h4
    · rename_i o q
      exact ⟨o, q, h4⟩
    · cases h4
  refine ⟨e1, e2, h1, fun p hp => (key p hp).1, fun p hp => ?_, fun p hp => ?_⟩
  · obtain ⟨_, o, q, z⟩ := key p hp
    exact He.frT_none q z
  · obtain ⟨_, o, q, z⟩ := key p hp
    rw [q, He.emptyTab_eq z]
def hookH (file : Str) (n : Nat) (fa : List Fg) (fn : List DefG) (ts : List TabG) (es : List ErrG) (tf : List He.Defn) : PySem.W.Hook where
  α := AlH
  obs := fun s => obsH file n fa fn ts es tf s.heap.get?
  val := fun w => valH fn ts es w
  says := fun w h => ∃ K : PySem.W.Frag, K.In h ∧ SaysH file fa fn ts es tf w h K
  of := fun _ _ e => ⟨_, He.frT_in, saysH_of e⟩
  keeps := fun _ _ _ ⟨K, hK, c⟩ k => ⟨K, PySem.W.Frag.In.keeps hK k, ⟨c.g, c.e1, c.e2, c.hd, c.out, fun p hp => k _ _ (c.empty p hp)⟩⟩
theorem obsH_eq {file : Str} {n : Nat} {fa : List Fg} {fn : List DefG} {ts : List TabG} {es : List ErrG} {tf : List He.Defn} {g : Addr → Option Obj} {s : Shared} (h : ∀ a, g a = s.heap.get? a) : obsH file n fa fn ts es tf g = (hookH file n fa fn ts es tf).obs s := by
  have e : g = s.heap.get? := funext h
  rw [e] <;> rfl
/-! ### the same at the end of a run in pieces: the heap as a tree first -/
end GD
/-! GFB: the run of the top told by two looks, each a kernel run of its own (less memory at a time). -/
namespace GD
open PySem PySem.Spec PyProof.Rows L2 PySem.W HandSHeadRun
def Tells {α : Type} (r : OpenRow) (M : Nat) (w : World) (f : SharedT → α) (a : α) : Prop := ∀ os : OsState, (endF (stepQ (denQ tabQ) r.prog w) M r.prog w os).map f = some a
noncomputable def lookS (r : OpenRow) (q : Program) (loose : List PySem.Str) (w : World) (s : SharedT) := (looksF r.prog (boot_heap w.params) s.abs, seenQ q loose (importedModules r.prog.main.body) (fun s => xlAt q [] s && recOk r.toRowW.records s) s.abs)
def Look0 (r : OpenRow) (q : Program) (loose : List PySem.Str) (M : Nat) (w : World) : Prop := Tells r M w (lookS r q loose w) (true, openGood q loose)
def Look1 {α : Type} (r : OpenRow) (M : Nat) (w : World) (ob : SharedT → α) (a : α) : Prop := Tells r M w ob a
theorem run_two {r : OpenRow} {q : Program} {H : Hook} {ob : SharedT → H.α} {M : Nat} {loose : List PySem.Str} {w : World}
    (h0 : Look0 r q loose M w) (h1 : Look1 r M w ob (H.val w)) : RunEq r q H ob M loose w := by
  intro os
  replace h0 := h0 os
  replace h1 := h1 os
  generalize endF (stepQ (denQ tabQ) r.prog w) M r.prog w os = x at h0 h1 ⊢
  cases x with
  | none => cases h0
  | some s =>
    rw [Option.map_some] at h0 h1 ⊢
    replace h0 := Option.some.inj h0
    replace h1 := Option.some.inj h1
    unfold lookS at h0
    obtain ⟨a0, b0⟩ := Prod.mk.inj h0
    rw [a0, b0, h1]
end GD
namespace GD
open PySem PySem.Spec PyProof.Rows L2
def top (i : Nat) : Stmt := PySem.Challenge.pw_pileports_k25_forms_that_are_too_wide.main.body.getD i (.Pass ⟨0, 0, 0, 0⟩)
abbrev s_Form_parts : Stmt := inClass (top 43) 22
abbrev s_Form___eq__ : Stmt := inClass (top 43) 21
abbrev s_image_counts : Stmt := top 37
abbrev s_are_parts : Stmt := top 38
abbrev s_ruled : Stmt := top 35
abbrev s_trimmed : Stmt := top 36
abbrev s_Form___init__ : Stmt := inClass (top 43) 1
abbrev s_Form_inverse : Stmt := inClass (top 43) 19
abbrev s_Form_least : Stmt := inClass (top 43) 7
abbrev s_Form_entry : Stmt := inClass (top 43) 10
abbrev s_Form_followed : Stmt := inClass (top 43) 17
abbrev s_Form_reached : Stmt := inClass (top 43) 16
abbrev s_Form___mul__ : Stmt := inClass (top 43) 18
abbrev s_Form_still : Stmt := inClass (top 43) 2
abbrev s_is_item : Stmt := top 29
abbrev s_is_move : Stmt := top 30
abbrev s_depth_of : Stmt := top 31
abbrev s_carried : Stmt := top 32
abbrev s_placed : Stmt := top 21
abbrev s_moved : Stmt := top 33
abbrev s_end_entry : Stmt := top 39
abbrev s_move_parts : Stmt := top 40
abbrev s_Form_of : Stmt := inClass (top 43) 3
abbrev s__law_bag : Stmt := top 45
abbrev s__law_odd_moves : Stmt := top 51
abbrev s__law_pull : Stmt := top 46
abbrev s__law_of : Stmt := top 47
abbrev s__law_same : Stmt := top 48
abbrev s_Form_top : Stmt := inClass (top 43) 8
abbrev s_law : Stmt := top 52
abbrev s__law_field : Stmt := top 49
abbrev s__law_try : Stmt := top 50
abbrev ats : List Str := ["code", "place", "at", "limit", "name", "number", "size", "rounds", "value", "row"]
abbrev PGM : Program := (PySem.Challenge.rw_pileports_k25_forms_that_are_too_wide).prog
abbrev s_err_TooWide : Stmt := inClass (top 8) 0
abbrev s_err_BadForm : Stmt := inClass (top 7) 0
abbrev s_err_BadMove : Stmt := inClass (top 5) 0
def fcts_0 : List Fg := [.free "super", .noat "TooWide" "code", .noat "TooWide" "limit", .noat "BadForm" "code", .noat "BadMove" "code", .noat "BadMove" "at", .glo "_law_try", .glo "_law_field", .glo "PileError", .glo "Missing", .glo "TooWide", .xf "TooWide" ats, .exm "TooWide" "PileError" true, .glo "BadForm", .xf "BadForm" ats, .exm "BadForm" "PileError" true, .glo "BadMove", .xf "BadMove" ats, .exm "BadMove" "PileError" true, .free "abs", .free "all", .free "bool", .free "dict", .free "enumerate", .free "int", .free "isinstance", .free "len", .free "list", .free "max", .free "range"]
def fcts_1 : List Fg := [.free "sorted", .free "str", .free "tuple", .free "zip", .int "MOST_BLOCK" (400), .int "MOST_DEPTH" (399), .glo "SHAPES", .glo "ENDS", .glo "Form", .crd "Form", .cme "Form" "of", .cls "Form", .prp "Form" "least", .met "Form" "__mul__", .sf "Form", .fni "Form" "__mul__", .sme "Form" "still", .met "Form" "__eq__", .fni "Form" "__eq__", .nb "Form", .new "Form", .met "Form" "inverse", .met "Form" "top", .isi "Form", .met "Form" "parts", .noat "Form" "last", .noat "Form" "first", .noat "Form" "moved_by", .noat "Form" "faced", .con "Form" "WIDEST" (400)]
def fcts_2 : List Fg := [.met "Form" "reached", .met "Form" "followed", .met "Form" "entry", .glo "image_counts", .glo "are_parts", .glo "ruled", .glo "trimmed", .glo "is_item", .glo "is_move", .glo "depth_of", .glo "carried", .glo "placed", .glo "moved", .glo "end_entry", .glo "move_parts", .glo "_law_bag", .glo "_law_odd_moves", .glo "_law_pull", .glo "_law_of", .glo "_law_same", .glo "law"]
def fcts : List Fg := fcts_0 ++ fcts_1 ++ fcts_2
def fns_0 : List DefG := [⟨.g "_law_try", "_law_try", "_law_try", s__law_try, []⟩, ⟨.g "_law_field", "_law_field", "_law_field", s__law_field, []⟩, ⟨.c "Form" "of", "of", "Form.of", s_Form_of, []⟩, ⟨.p "Form" "least", "least", "Form.least", s_Form_least, []⟩, ⟨.m "Form" "__mul__", "__mul__", "Form.__mul__", s_Form___mul__, []⟩, ⟨.s "Form" "still", "still", "Form.still", s_Form_still, []⟩, ⟨.m "Form" "__eq__", "__eq__", "Form.__eq__", s_Form___eq__, []⟩, ⟨.m "Form" "__init__", "__init__", "Form.__init__", s_Form___init__, []⟩, ⟨.m "Form" "inverse", "inverse", "Form.inverse", s_Form_inverse, []⟩, ⟨.m "Form" "top", "top", "Form.top", s_Form_top, []⟩, ⟨.m "Form" "parts", "parts", "Form.parts", s_Form_parts, []⟩, ⟨.m "Form" "reached", "reached", "Form.reached", s_Form_reached, []⟩, ⟨.m "Form" "followed", "followed", "Form.followed", s_Form_followed, []⟩, ⟨.m "Form" "entry", "entry", "Form.entry", s_Form_entry, []⟩, ⟨.g "image_counts", "image_counts", "image_counts", s_image_counts, []⟩, ⟨.g "are_parts", "are_parts", "are_parts", s_are_parts, []⟩, ⟨.g "ruled", "ruled", "ruled", s_ruled, []⟩, ⟨.g "trimmed", "trimmed", "trimmed", s_trimmed, []⟩, ⟨.g "is_item", "is_item", "is_item", s_is_item, []⟩, ⟨.g "is_move", "is_move", "is_move", s_is_move, []⟩, ⟨.g "depth_of", "depth_of", "depth_of", s_depth_of, []⟩, ⟨.g "carried", "carried", "carried", s_carried, []⟩, ⟨.g "placed", "placed", "placed", s_placed, []⟩, ⟨.g "moved", "moved", "moved", s_moved, []⟩, ⟨.g "end_entry", "end_entry", "end_entry", s_end_entry, []⟩, ⟨.g "move_parts", "move_parts", "move_parts", s_move_parts, []⟩, ⟨.g "_law_bag", "_law_bag", "_law_bag", s__law_bag, []⟩, ⟨.g "_law_odd_moves", "_law_odd_moves", "_law_odd_moves", s__law_odd_moves, []⟩, ⟨.g "_law_pull", "_law_pull", "_law_pull", s__law_pull, []⟩, ⟨.g "_law_of", "_law_of", "_law_of", s__law_of, []⟩]
def fns_1 : List DefG := [⟨.g "_law_same", "_law_same", "_law_same", s__law_same, []⟩, ⟨.g "law", "law", "law", s_law, []⟩]
def fns : List DefG := fns_0 ++ fns_1
def tbs_0 : List TabG := [("SHAPES", [("swap", "pp"), ("carry", "pp"), ("cut", "k"), ("turn", "eb"), ("over", ""), ("face", "p")]), ("ENDS", [("top", "t"), ("bottom", "b")])]
def tbs : List TabG := tbs_0
def ers_0 : List ErrG := [⟨"TooWide", s_err_TooWide⟩, ⟨"BadForm", s_err_BadForm⟩, ⟨"BadMove", s_err_BadMove⟩]
def ers : List ErrG := ers_0
def tfs : List He.Defn := [("law", none)]
def loose_0 : List PySem.Str := ["_wall", "__name__", "PileError", "Missing", "BadPlace", "BadMove", "BadText", "BadForm", "TooWide", "BadSize", "TooSmall", "NoPlace", "MOST_DEPTH", "MOST_CARDS", "MOST_DIGITS", "ENDS", "DIGITS", "need_size", "need_place", "need_end_place", "placed", "natural", "integer", "place_text", "place_in", "MOST_BLOCK", "SHAPES", "is_item", "is_move", "depth_of"]
def loose_1 : List PySem.Str := ["carried", "moved", "ruled", "trimmed", "image_counts", "are_parts", "end_entry", "move_parts", "entry_text", "entry_in", "Form", "_law_bag", "_law_pull", "_law_of", "_law_same", "_law_field", "_law_try", "_law_odd_moves"]
def loose : List PySem.Str := loose_0 ++ loose_1
abbrev hk : PySem.W.Hook := hookH PGM.main.file 5 fcts fns tbs ers tfs
abbrev RR : PySem.W.OpenRow := PySem.W.OpenLaw.row PySem.Challenge.rw_pileports_k25_forms_that_are_too_wide
def ob (s : PySem.W.SharedT) : AlH := obsH PGM.main.file 5 fcts fns tbs ers tfs (HandSHeadRun.getT s)
theorem ob_eq (s : PySem.W.SharedT) : ob s = hk.obs s.abs := obsH_eq (HandSHeadRun.getT_eq s)
set_option maxHeartbeats 0 in
theorem runF0 (w : World) : Look0 RR (PySem.W.view RR.prog [52]) loose 20000 (w.withFollow "special-get-raises" false) := fun os => by kernel_rfl
set_option maxHeartbeats 0 in
theorem runF1 (w : World) : Look1 RR 20000 (w.withFollow "special-get-raises" false) ob (hk.val (w.withFollow "special-get-raises" false)) := fun os => by kernel_rfl
theorem runF (w : World) : HandSHeadRun.RunEq RR (PySem.W.view RR.prog [52]) hk ob 20000 loose (w.withFollow "special-get-raises" false) := run_two (runF0 w) (runF1 w)
set_option maxHeartbeats 0 in
theorem runT0 (w : World) : Look0 RR (PySem.W.view RR.prog [52]) loose 20000 (w.withFollow "special-get-raises" true) := fun os => by kernel_rfl
set_option maxHeartbeats 0 in
theorem runT1 (w : World) : Look1 RR 20000 (w.withFollow "special-get-raises" true) ob (hk.val (w.withFollow "special-get-raises" true)) := fun os => by kernel_rfl
theorem runT (w : World) : HandSHeadRun.RunEq RR (PySem.W.view RR.prog [52]) hk ob 20000 loose (w.withFollow "special-get-raises" true) := run_two (runT0 w) (runT1 w)
theorem run (w : World) : HandSHeadRun.RunEq RR (PySem.W.view RR.prog [52]) hk ob 20000 loose w := PySem.W.byRow2 "special-get-raises" (P := fun w => HandSHeadRun.RunEq RR (PySem.W.view RR.prog [52]) hk ob 20000 loose w) runF runT w
end GD
/-! GD0: data, results, the mirrors' words. -/
namespace GD
open PySem
/-- the words of a lambda -/
structure LamF where
  qual : Str
  params : Arguments
  body : Expr
  scope : Scope
/-- the lambdas of a frame: its cells, the words of each -/
structure LamZ where
  C : List (Str × Addr)
  F : Nat → LamF
/-- an exception that is handled: its address, its class, its dict -/
structure XT where
  a : Addr
  C : Addr
  dd : Addr
/-- data: what is not changed any more -/
inductive D where
  | non | bl (b : Bool) | int (i : Int) | str (x : Str)
  | tup (xs : List D) | lst (xs : List D)
  /-- the script: a list that is never changed -/
  | fls (xs : List D)
  /-- an instance of the class with this global name: the names and values of its attributes -/
  | obj (c : Str) (ns : List Str) (vs : List D)
  /-- what a global name holds (a def, a class) -/
  | gl (x : Str)
  /-- a built-in class -/
  | ty (n : String)
  /-- the lambda i of the frame Z -/
  | lam (i : Nat) (Z : LamZ)
  /-- the exception that is handled: its attributes -/
  | xin (x : XT) (ns : List Str) (vs : List D)
  /-- in an attribute: a list of its own, the changeable object j -/
  | own (j : Nat)
  deriving Inhabited
@[simp] def D.isOwn : D → Bool
  | .own _ => true
  | _ => false
/-- a value: data, or a changeable object by its number -/
inductive W where
  | d (x : D)
  | m (k : Nat)
  deriving Inhabited
/-- a changeable object -/
inductive MO where
  | lst (xs : List D)
  | ins (c : Str) (ns : List Str) (vs : List D)
  /-- what has become data meanwhile -/
  | dead
  /-- the table of a code object: the code objects of its lambdas bear the name q -/
  | tab (P : Addr) (q : Str)
  /-- a dict whose keys are tuples of numbers, truth values and texts -/
  | dic (w : World) (kvs : List (D × D))
  /-- a set of whole numbers -/
  | iset (w : World) (xs : List Int)
  /-- a list of changeable objects of smaller numbers -/
  | lks (js : List Nat)
  /-- a list that the attribute f of the object k alone holds -/
  | own (k : Nat) (f : Str) (xs : List D)
  deriving Inhabited
abbrev Mem := List MO
inductive R (α : Type) where
  | ok (a : α) (m : Mem)
  | exc (c : Str) (ns : List Str) (vs : List D) (m : Mem)
  | bad
  deriving Inhabited
def R.bind {α β : Type} (r : R α) (k : α → Mem → R β) : R β :=
  match r with
  | .ok a m => k a m
  | .exc c ns vs m => .exc c ns vs m
  | .bad => .bad
@[simp] theorem R.bind_ok {α β : Type} (a : α) (m : Mem) (k : α → Mem → R β) : (R.ok a m).bind k = k a m := Eq.trans rfl rfl
@[simp] theorem R.bind_exc {α β : Type} (c ns vs) (m : Mem) (k : α → Mem → R β) : (R.exc c ns vs m : R α).bind k = .exc c ns vs m := Eq.trans rfl rfl
@[simp] theorem R.bind_bad {α β : Type} (k : α → Mem → R β) : (R.bad : R α).bind k = .bad := Eq.trans rfl rfl
/-- no error may leave -/
def noX {α : Type} (r : R α) : R α := match r with
  | .exc _ _ _ _ => .bad
  | r => r
abbrev Env := List (Option W)
/-- an expression, an argument list, a test -/
abbrev Ev := Env → Mem → R W
abbrev EvL := Env → Mem → R (List W)
abbrev EvT := Env → Mem → R Bool
/-- where a statement goes -/
inductive RS where
  | nx (ρ : Env) (m : Mem) | rt (w : W) (m : Mem) | bk (ρ : Env) (m : Mem) | ct (ρ : Env) (m : Mem)
  | xc (c : Str) (ns : List Str) (vs : List D) (ρ : Env) (m : Mem)
  | bad
  deriving Inhabited
def R.lift {α : Type} (r : R α) (ρ : Env) (k : α → Mem → RS) : RS := match r with
  | .ok a m => k a m
  | .exc c ns vs m => .xc c ns vs ρ m
  | .bad => .bad
@[simp] theorem R.lift_ok {α : Type} (a : α) (m : Mem) (ρ : Env) (k : α → Mem → RS) : (R.ok a m).lift ρ k = k a m := Eq.trans rfl rfl
@[simp] theorem R.lift_exc {α : Type} (c ns vs) (m : Mem) (ρ : Env) (k : α → Mem → RS) : (R.exc c ns vs m : R α).lift ρ k = .xc c ns vs ρ m := Eq.trans rfl rfl
@[simp] theorem R.lift_bad {α : Type} (ρ : Env) (k : α → Mem → RS) : (R.bad : R α).lift ρ k = .bad := Eq.trans rfl rfl
abbrev Ex := Env → Mem → RS
/-- a def -/
abbrev Fn := List W → Mem → R W
/-! ### data -/
mutual
def D.py : D → Option PyData
  | .non => some .none
  | .bl b => some (.bool b)
  | .int i => some (.int i)
  | .str x => some (.str x)
  | .tup xs => (D.pyL xs).map .tuple
  | .lst xs => (D.pyL xs).map .list
  | .fls _ | .obj _ _ _ | .gl _ | .ty _ | .lam _ _ | .xin _ _ _ | .own _ => none
def D.pyL : List D → Option (List PyData)
  | [] => some []
  | x :: xs => match D.py x, D.pyL xs with
    | some a, some b => some (a :: b)
    | _, _ => none
end
/-! ### expressions -/
def fVar (i : Nat) : Ev := fun ρ m => match ρ[i]? with
  | some (some w) => .ok w m
  | _ => .bad
def fC (x : D) : Ev := fun _ m => .ok (.d x) m
def fNil : EvL := fun _ m => .ok [] m
def fCons (a : Ev) (b : EvL) : EvL := fun ρ m => (a ρ m).bind fun x m => (b ρ m).bind fun xs m => .ok (x :: xs) m
/-- the data of values -/
def dats : List W → Option (List D)
  | [] => some []
  | .d x :: ws => (dats ws).map (x :: ·)
  | .m _ :: _ => none
def fTup (a : EvL) : Ev := fun ρ m => (a ρ m).bind fun ws m => match dats ws with
  | some xs => if xs.length ≤ 100000 then .ok (.d (.tup xs)) m else .bad
  | none => .bad
/-- a list that nobody changes; one that may be changed -/
def fLst (a : EvL) : Ev := fun ρ m => (a ρ m).bind fun ws m => match dats ws with
  | some xs => if xs.length ≤ 100000 then .ok (.d (.lst xs)) m else .bad
  | none => .bad
def fLstM (a : EvL) : Ev := fun ρ m => (a ρ m).bind fun ws m => match dats ws with
  | some xs => if xs.length ≤ 100000 then .ok (.m m.length) (m ++ [.lst xs]) else .bad
  | none => .bad
/-- a two-place operation; a one-place one -/
abbrev O2 := W → W → Mem → R W
abbrev O1 := W → Mem → R W
def fOp (o : O2) (a b : Ev) : Ev := fun ρ m => (a ρ m).bind fun x m => (b ρ m).bind fun y m => o x y m
def fUn (o : O1) (a : Ev) : Ev := fun ρ m => (a ρ m).bind fun x m => o x m
/-! ### tests -/
def truth : W → Mem → Option Bool
  | .d .non, _ => some false
  | .d (.bl b), _ => some b
  | .d (.int i), _ => some (i != 0)
  | .d (.lst xs), _ => some (!xs.isEmpty)
  | .d (.tup xs), _ => some (!xs.isEmpty)
  | .d (.str x), _ => if x.length ≤ 100000 then some (x.length != 0) else none
  | _, _ => none
def gTest (a : Ev) : EvT := fun ρ m => (a ρ m).bind fun x m => match truth x m with
  | some b => .ok b m
  | none => .bad
/-- a comparison as a test: its answer is a truth value -/
def gBool (a : Ev) : EvT := fun ρ m => (a ρ m).bind fun x m => match x with
  | .d (.bl b) => .ok b m
  | _ => .bad
def gAnd (a b : EvT) : EvT := fun ρ m => (a ρ m).bind fun x m => if x then b ρ m else .ok false m
def gOr (a b : EvT) : EvT := fun ρ m => (a ρ m).bind fun x m => if x then .ok true m else b ρ m
def gNot (a : EvT) : EvT := fun ρ m => (a ρ m).bind fun x m => .ok (!x) m
def fIf (t : EvT) (a b : Ev) : Ev := fun ρ m => (t ρ m).bind fun x m => if x then a ρ m else b ρ m
/-- a and b, a or b, not a as values, the first one a truth value -/
def fAnd (a b : Ev) : Ev := fun ρ m => (a ρ m).bind fun x m => match x with
  | .d (.bl true) => b ρ m
  | .d (.bl false) => .ok (.d (.bl false)) m
  | _ => .bad
def fOr (a b : Ev) : Ev := fun ρ m => (a ρ m).bind fun x m => match x with
  | .d (.bl true) => .ok (.d (.bl true)) m
  | .d (.bl false) => b ρ m
  | _ => .bad
def fNot (a : Ev) : Ev := fun ρ m => (a ρ m).bind fun x m => match x with
  | .d (.bl b) => .ok (.d (.bl (!b))) m
  | _ => .bad
/-! ### statements -/
def sNext : Ex := fun ρ m => .nx ρ m
def sSeq (a b : Ex) : Ex := fun ρ m => match a ρ m with
  | .nx ρ m => b ρ m
  | r => r
def sIf (t : EvT) (a b : Ex) : Ex := fun ρ m => (t ρ m).lift ρ fun x m => if x then a ρ m else b ρ m
def sDrop (a : Ev) : Ex := fun ρ m => (a ρ m).lift ρ fun _ m => .nx ρ m
def sRet (a : Ev) : Ex := fun ρ m => (a ρ m).lift ρ fun w m => .rt w m
/-- a target -/
abbrev Tg := W → Env → Mem → R (Env)
abbrev TgL := List W → Env → Mem → R (Env)
def tgName (i : Nat) : Tg := fun w ρ m => .ok (ρ.set i (some w)) m
def tgNil : TgL := fun ws ρ m => match ws with
  | [] => .ok ρ m
  | _ => .bad
def tgCons (a : Tg) (b : TgL) : TgL := fun ws ρ m => match ws with
  | [] => .bad
  | w :: ws => (a w ρ m).bind fun ρ m => b ws ρ m
def tgTup (n : Nat) (a : TgL) : Tg := fun w ρ m => match w with
  | .d (.tup xs) => if xs.length = n then a (xs.map .d) ρ m else .bad
  | _ => .bad
def sAsg (a : Ev) (g : Tg) : Ex := fun ρ m => (a ρ m).lift ρ fun w m => (noX (g w ρ m)).lift ρ fun ρ m => .nx ρ m
def sPar (i j : Nat) (a : EvL) : Ex := fun ρ m => (a ρ m).lift ρ fun ws m => match ws with
  | [x, y] => .nx ((ρ.set i (some x)).set j (some y)) m
  | _ => .bad
/-- a loop over items -/
def loop (g : Tg) (b : Ex) : List W → Ex
  | [] => fun ρ m => .nx ρ m
  | w :: ws => fun ρ m => (noX (g w ρ m)).lift ρ fun ρ m => match b ρ m with
    | .nx ρ m => loop g b ws ρ m
    | .ct ρ m => loop g b ws ρ m
    | .bk ρ m => .nx ρ m
    | r => r
def sFor (it : EvL) (g : Tg) (b : Ex) : Ex := fun ρ m => (it ρ m).lift ρ fun ws m => loop g b ws ρ m
/-- a while of at most n turns -/
def whl (t : EvT) (b : Ex) : Nat → Ex
  | 0 => fun _ _ => .bad
  | n + 1 => fun ρ m => (t ρ m).lift ρ fun x m => if x then (match b ρ m with
    | .nx ρ m => whl t b n ρ m
    | .ct ρ m => whl t b n ρ m
    | .bk ρ m => .nx ρ m
    | r => r) else .nx ρ m
/-- as many turns as the number in slot i says, and k more -/
def fuelI (i k : Nat) : Env → Mem → Nat := fun ρ _ => match ρ[i]? with
  | some (some (.d (.int n))) => n.natAbs + k
  | _ => 0
def sWhile (fuel : Env → Mem → Nat) (t : EvT) (b : Ex) : Ex := fun ρ m => whl t b (fuel ρ m) ρ m
/-- behind the statement the list in slot i is not changed any more -/
def sFrz (i : Nat) (f : Ex) : Ex := fun ρ m => match f ρ m with
  | .nx ρ' m' => match ρ'[i]? with
    | some (some (.m k)) => match m'[k]? with
      | some (.lst xs) => .nx (ρ'.set i (some (.d (.lst xs)))) (m'.set k .dead)
      | _ => .bad
    | _ => .bad
  | r => r
/-! ### comprehensions -/
/-- vs: the slots of the comprehension's own names -/
def wipeE (ρ : Env) : List Nat → Env
  | [] => ρ
  | v :: vs => (wipeE ρ vs).set v none
def lcs (g : Tg) (t : EvT) (e : Ev) (ρ : Env) : List W → List D → Mem → R (List D)
  | [], acc, m => .ok acc m
  | w :: ws, acc, m => (g w ρ m).bind fun ρ' m => (t ρ' m).bind fun b m => if b then (e ρ' m).bind fun x m => match x with
      | .d x => if acc.length < 100000 then lcs g t e ρ ws (acc ++ [x]) m else .bad
      | .m _ => .bad
    else lcs g t e ρ ws acc m
def gYes : EvT := fun _ m => .ok true m
def fLc (it : EvL) (g : Tg) (t : EvT) (e : Ev) (vs : List Nat) : Ev := fun ρ m => (it ρ m).bind fun ws m => (noX (lcs g t e (wipeE ρ vs) ws [] m)).bind fun xs m => .ok (.d (.lst xs)) m
def fLcM (it : EvL) (g : Tg) (t : EvT) (e : Ev) (vs : List Nat) : Ev := fun ρ m => (it ρ m).bind fun ws m => (noX (lcs g t e (wipeE ρ vs) ws [] m)).bind fun xs m => .ok (.m m.length) (m ++ [.lst xs])
/-! ### defs -/
/-- how a def is left: what it made itself becomes data (or, mu, stays changeable) -/
def leave (mu : Bool) (n : Nat) (w : W) (m : Mem) : R W := match w with
  | .d x => .ok (.d x) (m.take n)
  | .m k => if k < n then .ok (.m k) (m.take n) else match m[k]? with
    | some (.lst xs) => if mu then .ok (.m n) (m.take n ++ [.lst xs]) else .ok (.d (.lst xs)) (m.take n)
    | some (.dic w kvs) => if mu then .ok (.m n) (m.take n ++ [.dic w kvs]) else .bad
    | _ => .bad
/-- np parameters, N names -/
def fnOf (mu : Bool) (np N : Nat) (b : Ex) : Fn := fun ws m => if ws.length = np then (match b (ws.map some ++ List.replicate (N - ws.length) none) m with
  | .nx _ m' => leave mu m.length (.d .non) m'
  | .rt w m' => leave mu m.length w m'
  | .xc c ns vs _ m' => .exc c ns vs (m'.take m.length)
  | _ => .bad) else .bad
def fCall (f : Fn) (a : EvL) : Ev := fun ρ m => (a ρ m).bind fun ws m => f ws m
/-- f(e, .., k = v, ..): g puts the keywords' values in their places -/
def fCallK (f : Fn) (g : List W → List W → List W) (a b : EvL) : Ev := fun ρ m => (a ρ m).bind fun ws m => (b ρ m).bind fun zs m => f (g ws zs) m
end GD
/-! GD1: what represents what; the readings. -/
namespace PySem
mutual
def dataK : PyData → Option NestedKey
  | .none => some .none
  | .bool b => some (.num (if b = true then 1 else 0))
  | .int i => some (.num i)
  | .str x => some (.text x)
  | .tuple xs => (dataKs xs).map .tup
  | _ => none
def dataKs : List PyData → Option (List NestedKey)
  | [] => some []
  | d :: ds => match dataK d, dataKs ds with
    | some k, some ks => some (k :: ks)
    | _, _ => none
end
end PySem
namespace GD
open PySem PySem.Spec PyProof.Rows L2
/-- the function of a lambda -/
abbrev lamFn (F : LamF) (cl : List (Str × Addr)) (dV pm cdv ct : Value) : FuncData :=
  { name := "<lambda>", qualname := F.qual, params := F.params, body := .expr F.body, scope := F.scope, globals := mainGlobals, closure := cl, defaults := dV, kwdefaults := .none, doc := .none, pyModule := pm, annotations := none, code := cdv, closureTuple := ct, builtins := builtinsNs }
/-- at f: the lambda F made in a frame with the cells C, its code object at c, its defaults dV -/
def LamO (f : Addr) (F : LamF) (C : List (Str × Addr)) (c : Addr) (dV : Value) : HO := .ext fun h => ∃ (od : Option Addr) (sl : Array (Option Value)) (pm ctv : Value), h.get? f = some (⟨.type "function", od, .func (lamFn F (cloFrom C F.scope.names []) dV pm (.ref c) ctv), sl⟩ : Obj)
/-- the default values: none, or one int -/
def DflO (H : Hp) (F : LamF) (dV : Value) : Prop := (F.params.defaults = [] ∧ dV = .none) ∨ (F.params.defaults ≠ [] ∧ ∃ (T : Addr) (i : Int), dV = .ref T ∧ H T = some (.tup [.int i]))
theorem DflO.mono {H H' : Hp} {F : LamF} {dV : Value} (e : Same H H') (h : DflO H F dV) : DflO H' F dV := h.elim .inl fun ⟨h0, T, i, h1, h2⟩ => .inr ⟨h0, T, i, h1, e _ _ h2⟩
/-- a table of code objects that stand in Hi -/
def TabI (Hi H : Hp) (P : Addr) (q : Str) : Prop := ∃ ps : Array Value, H P = some (.tbl ps) ∧ TriplesOk ps.toList ∧ ∀ (pos : Pos) (cv : Value), codeAmong pos ps.toList = some cv → ∃ c, cv = .ref c ∧ Hi c = some (LamX.CodeO c q)
/-- the key that data are -/
def nkD (d : D) : Option NestedKey := match d.py with
  | some p => match dataK p with
    | some k => if k.depth ≤ 8 then some k else none
    | none => none
  | none => none
/-- at a: a dict with these keys (each a tuple at its place) and values -/
def DicO (w : World) (a : Addr) (ps : List (NestedKey × Addr × V)) : HO := .ext fun h => ∃ xs : List (NestedKey × Addr × Value), Paired (fun (p : NestedKey × Addr × V) (q : NestedKey × Addr × Value) => p.1 = q.1 ∧ p.2.1 = q.2.1 ∧ RelV p.2.2 q.2.2) ps xs ∧
  ∃ o es ep, h.get? a = some o ∧ o.ExactDict ∧ o.data = .dict es ep ∧ es.toList = xs.map (fun x => (⟨x.1.hash w, .ref x.2.1, x.2.2⟩ : DictEntry)) ∧ (xs.map (·.1)).Nodup
section
variable (K : PySem.W.Frag) (mg : Str → Option Value)
mutual
inductive Rep : Hp → V → D → Prop
  | non {H} : Rep H .non .non
  | bl {H} (b : Bool) : Rep H (.bl b) (.bl b)
  | int {H} (i : Int) : Rep H (.int i) (.int i)
  | str {H} (x : Str) : Rep H (.str x) (.str x)
  | tup {H} {a : Addr} {vs : List V} {ds : List D} : SqT K H a vs → RepL H vs ds → Rep H (.ref a) (.tup ds)
  | lst {H} {a : Addr} {vs : List V} {ds : List D} : H a = some (.lst vs) → RepL H vs ds → Rep H (.ref a) (.lst ds)
  | fls {H} {a : Addr} {vs : List V} {ds : List D} : SqL K H a vs → RepL H vs ds → Rep H (.ref a) (.fls ds)
  | obj {H} {a C dx : Addr} {c : Str} {ns : List Str} {vs : List V} {ds : List D} : mg c = some (.ref C) → H a = some (.ins C dx (ns.zip vs)) → H dx = some (.own a) → ns.length = vs.length → RepL H vs ds → Rep H (.ref a) (.obj c ns ds)
  | gl {H} {x : Str} {u : Value} {v : V} : mg x = some u → RelV v u → Rep H v (.gl x)
  | ty {H} (n : String) : Rep H (.ty n) (.ty n)
  | lam {H} {f c : Addr} {dV : Value} {i : Nat} {Z : LamZ} : H f = some (LamO f (Z.F i) Z.C c dV) → H c = some (LamX.CodeO c (Z.F i).qual) → DflO H (Z.F i) dV → Rep H (.ref f) (.lam i Z)
  | own {H} {a : Addr} (j : Nat) : Rep H (.ref a) (.own j)
  | xin {H} {x : XT} {ns : List Str} {fs : List V} {ds : List D} : H x.dd = some (.xd (ns.zip fs)) → ns.length = fs.length → RepL H fs ds → Rep H (.ref x.a) (.xin x ns ds)
inductive RepL : Hp → List V → List D → Prop
  | nil {H} : RepL H [] []
  | cons {H} {v : V} {vs : List V} {d : D} {ds : List D} : Rep H v d → RepL H vs ds → RepL H (v :: vs) (d :: ds)
end
end
section
variable {K : PySem.W.Frag} {mg : Str → Option Value}
theorem rd_mono {H H' : Hp} {a : Addr} {u : HO} (e : Same H H') (h : Rd H a u) : Rd H' a u := by
  rcases h with h | ⟨o, h⟩
  · exact Or.inl (e a _ h)
  · exact Or.inr ⟨o, e a _ h⟩
theorem sqT_mono {H H' : Hp} {a : Addr} {xs : List V} (e : Same H H') (h : SqT K H a xs) : SqT K H' a xs := by
  rcases h with h | h
  · exact Or.inl (rd_mono e h)
  · exact Or.inr h
theorem sqL_mono {H H' : Hp} {a : Addr} {xs : List V} (e : Same H H') (h : SqL K H a xs) : SqL K H' a xs := by
  rcases h with h | h
  · exact Or.inl (rd_mono e h)
  · exact Or.inr h
mutual
theorem Rep.mono {H H' : Hp} (e : Same H H') : ∀ {v : V} {d : D}, Rep K mg H v d → Rep K mg H' v d
  | _, _, .non => .non
  | _, _, .bl b => .bl b
  | _, _, .int b => .int b
  | _, _, .str b => .str b
  | _, _, .tup s r => .tup (sqT_mono e s) (RepL.mono e r)
  | _, _, .lst s r => .lst (e _ _ s) (RepL.mono e r)
  | _, _, .fls s r => .fls (sqL_mono e s) (RepL.mono e r)
  | _, _, .obj c h1 h2 l r => .obj c (e _ _ h1) (e _ _ h2) l (RepL.mono e r)
  | _, _, .gl a b => .gl a b
  | _, _, .ty n => .ty n
  | _, _, .lam a b c => .lam (e _ _ a) (e _ _ b) (c.mono e)
  | _, _, .xin a b c => .xin (e _ _ a) b (RepL.mono e c)
  | _, _, .own j => .own j
theorem RepL.mono {H H' : Hp} (e : Same H H') : ∀ {vs : List V} {ds : List D}, RepL K mg H vs ds → RepL K mg H' vs ds
  | _, _, .nil => .nil
  | _, _, .cons a b => .cons (Rep.mono e a) (RepL.mono e b)
end
theorem RepL.length {H : Hp} : ∀ {vs : List V} {ds : List D}, RepL K mg H vs ds → vs.length = ds.length
  | _, _, .nil => rfl
  | _, _, .cons _ b => by rw [List.length_cons, List.length_cons, RepL.length b]
theorem RepL.get {H : Hp} : ∀ {vs : List V} {ds : List D} {i : Nat} {d : D}, RepL K mg H vs ds → ds[i]? = some d → ∃ v, vs[i]? = some v ∧ Rep K mg H v d
  | _, _, _, _, .nil, h => by simp at h
  | _, _, 0, _, .cons (v := v) a b, h => ⟨v, rfl, by simp at h; subst h; exact a⟩
  | _, _, i + 1, _, .cons a b, h => by
    obtain ⟨v, h1, h2⟩ := RepL.get (i := i) b (by simpa using h)
    exact ⟨v, by simpa using h1, h2⟩
theorem RepL.append {H : Hp} : ∀ {vs ws : List V} {ds es : List D}, RepL K mg H vs ds → RepL K mg H ws es → RepL K mg H (vs ++ ws) (ds ++ es)
  | _, _, _, _, .nil, h => h
  | _, _, _, _, .cons a b, h => .cons a (RepL.append b h)
theorem RepL.one {H : Hp} {v : V} {d : D} (h : Rep K mg H v d) : RepL K mg H [v] [d] := .cons h .nil
mutual
theorem Rep.dp {H : Hp} : ∀ {v : V} {d : D} {p : PyData}, Rep K mg H v d → d.py = some p → Dp K H v p
  | _, _, _, .non, h => by simp only [D.py, Option.some.injEq] at h; subst h; exact .non
  | _, _, _, .bl b, h => by simp only [D.py, Option.some.injEq] at h; subst h; exact .bl b
  | _, _, _, .int b, h => by simp only [D.py, Option.some.injEq] at h; subst h; exact .int b
  | _, _, _, .str b, h => by simp only [D.py, Option.some.injEq] at h; subst h; exact .str b
  | _, _, _, .tup s r, h => by
    simp only [D.py, Option.map_eq_some_iff] at h
    obtain ⟨ps, h1, h2⟩ := h
    subst h2
    exact .tup s (RepL.dp r h1)
  | _, _, _, .lst s r, h => by
    simp only [D.py, Option.map_eq_some_iff] at h
    obtain ⟨ps, h1, h2⟩ := h
    subst h2
    exact .lst (.inl (.inl s)) (RepL.dp r h1)
  | _, _, _, .fls _ _, h => by simp [D.py] at h
  | _, _, _, .obj _ _ _ _ _, h => by simp [D.py] at h
  | _, _, _, .gl _ _, h => by simp [D.py] at h
  | _, _, _, .ty _, h => by simp [D.py] at h
  | _, _, _, .lam _ _ _, h => by simp [D.py] at h
  | _, _, _, .xin _ _ _, h => by simp [D.py] at h
  | _, _, _, .own _, h => by simp [D.py] at h
theorem RepL.dp {H : Hp} : ∀ {vs : List V} {ds : List D} {ps : List PyData}, RepL K mg H vs ds → D.pyL ds = some ps → DpAll K H vs ps
  | _, _, _, .nil, h => by simp only [D.pyL, Option.some.injEq] at h; subst h; exact .nil
  | _, _, _, .cons a b, h => by
    unfold D.pyL at h
    split at h
    · rename_i x y h1 h2
      cases h
      exact .cons (Rep.dp a h1) (RepL.dp b h2)
    · cases h
end
end
/-! ### the state -/
section
variable (K : PySem.W.Frag) (mg : Str → Option Value)
def RepW (Hi : Hp) (ι : List Addr) (v : V) : W → Prop
  | .d x => Rep K mg Hi v x
  | .m k => ∃ a, ι[k]? = some a ∧ v = .ref a
inductive RepWs (Hi : Hp) (ι : List Addr) : List V → List W → Prop
  | nil : RepWs Hi ι [] []
  | cons {v : V} {vs : List V} {w : W} {ws : List W} : RepW K mg Hi ι v w → RepWs Hi ι vs ws → RepWs Hi ι (v :: vs) (w :: ws)
inductive DicR (Hi : Hp) : List (D × D) → List (NestedKey × Addr × V) → Prop
  | nil : DicR Hi [] []
  | cons {k : NestedKey} {a : Addr} {v : V} {d e : D} {kvs : List (D × D)} {ps : List (NestedKey × Addr × V)} : nkD d = some k → Rep K mg Hi (.ref a) d → Rep K mg Hi v e → DicR Hi kvs ps → DicR Hi ((d, e) :: kvs) ((k, a, v) :: ps)
def RepO (Hi : Hp) (ι : List Addr) (H : Hp) (a : Addr) : MO → Prop
  | .lst xs => ∃ vs, H a = some (.lst vs) ∧ RepL K mg Hi vs xs
  | .ins c ns xs => ∃ C dx vs, mg c = some (.ref C) ∧ H a = some (.ins C dx (ns.zip vs)) ∧ Hi dx = some (.own a) ∧ ns.length = vs.length ∧ RepL K mg Hi vs xs
  | .dead => ∃ o, H a = some o
  | .tab P q => a = P ∧ TabI Hi H P q
  | .dic w kvs => (a == sysModules) = false ∧ ∃ ps, H a = some (DicO w a ps) ∧ DicR K mg Hi kvs ps
  | .iset w xs => H a = some (L2.SetO w a (fun i => xs.contains i) xs.length)
  | .lks js => ∃ vs, H a = some (.lst vs) ∧ RepWs K mg Hi ι vs (js.map .m)
  | .own _ _ xs => ∃ vs, H a = some (.lst vs) ∧ RepL K mg Hi vs xs
/-- the attributes hold the lists that are their own -/
def Lnk (ι : List Addr) (m : Mem) (H : Hp) : Prop := ∀ (k : Nat) (c : Str) (ns : List Str) (vs : List D) (a : Addr) (f : Str) (j : Nat) (xs : List D), m[k]? = some (.ins c ns vs) → ι[k]? = some a → (ns.zip vs).lookup f = some (.own j) → m[j]? = some (.own k f xs) →
  ∃ (b C dx : Addr) (fs : List (Str × V)), ι[j]? = some b ∧ H a = some (.ins C dx fs) ∧ fs.lookup f = some (.ref b)
/-- Hi: what is not changed any more; ι: where the changeable objects m stand -/
structure Mok (Hi : Hp) (ι : List Addr) (m : Mem) (H : Hp) : Prop where
  sub : Same Hi H
  len : ι.length = m.length
  nd : ι.Nodup
  free : ∀ (k : Nat) (mo : MO) (a : Addr), m[k]? = some mo → ι[k]? = some a → mo ≠ .dead → Hi a = none
  obj : ∀ (k : Nat) (mo : MO) (a : Addr), m[k]? = some mo → ι[k]? = some a → RepO K mg Hi (ι.take k) H a mo
  lnk : Lnk ι m H
def RepS (Hi : Hp) (ι : List Addr) (ρ : Env) (σ : L2.St) : Prop := ρ.length = σ.length ∧ ∀ (i : Nat) (w : W), ρ[i]? = some (some w) → ∃ v, σ[i]? = some (some v) ∧ RepW K mg Hi ι v w
structure Rel (Hi : Hp) (ι : List Addr) (ρ : Env) (m : Mem) (σ : L2.St) (H : Hp) : Prop where
  mok : Mok K mg Hi ι m H
  slots : RepS K mg Hi ι ρ σ
end
structure Step (Hi : Hp) (ι : List Addr) (H : Hp) (Hi' : Hp) (ι' : List Addr) (H' : Hp) : Prop where
  imm : Same Hi Hi'
  pre : ι <+: ι'
  frm : ∀ a o, H a = some o → a ∉ ι → H' a = some o
  new : ∀ a ∈ ι', a ∉ ι → H a = none
  live : ∀ a, H' a = none → H a = none
  inew : ∀ a, a ∉ ι → Hi a = none → H a ≠ none → Hi' a = none
theorem upd_live {H : Hp} {p a : Addr} {o : HO} (h : upd H p o a = none) : H a = none := by
  by_cases e : a = p
  · subst e; rw [upd_same] at h; cases h
  · rw [upd_ne e] at h; exact h
section
variable {K : PySem.W.Frag} {mg : Str → Option Value} {Hi Hi' Hi2 H H' H2 : Hp} {ι ι' ι2 : List Addr} {ρ ρ' : Env} {m m' : Mem} {σ σ' : L2.St}
theorem Step.refl : Step Hi ι H Hi ι H := ⟨Same.refl _, List.prefix_refl _, fun _ _ h _ => h, fun _ h1 h2 => absurd h1 h2, fun _ h => h, fun _ _ h _ => h⟩
theorem Step.trans (a : Step Hi ι H Hi' ι' H') (b : Step Hi' ι' H' Hi2 ι2 H2) : Step Hi ι H Hi2 ι2 H2 := by
  refine ⟨a.imm.trans b.imm, a.pre.trans b.pre, fun x o h hn => ?_, fun x h1 h2 => ?_, fun x h => a.live x (b.live x h), fun x h0 h1 h2 => b.inew x (fun h3 => h2 (a.new x h3 h0)) (a.inew x h0 h1 h2) fun q => h2 (a.live x q)⟩
  · refine b.frm x o (a.frm x o h hn) fun h3 => ?_
    rw [a.new x h3 hn] at h
    cases h
  · by_cases h3 : x ∈ ι'
    · exact a.new x h3 h2
    · cases e : H x with
      | none => rfl
      | some o =>
        have e1 := a.frm x o e h2
        rw [b.new x h1 h3] at e1
        cases e1
theorem RepW.mono (e : Same Hi Hi') (p : ι <+: ι') : ∀ {v : V} {w : W}, RepW K mg Hi ι v w → RepW K mg Hi' ι' v w
  | _, .d x, h => Rep.mono e h
  | _, .m k, ⟨a, h1, h2⟩ => ⟨a, by
    obtain ⟨t, rfl⟩ := p
    rw [List.getElem?_append_left (List.getElem?_eq_some_iff.mp h1).1]
    exact h1, h2⟩
theorem RepW.step (s : Step Hi ι H Hi' ι' H') {v : V} {w : W} (h : RepW K mg Hi ι v w) : RepW K mg Hi' ι' v w := h.mono s.imm s.pre
theorem RepWs.step (s : Step Hi ι H Hi' ι' H') : ∀ {vs : List V} {ws : List W}, RepWs K mg Hi ι vs ws → RepWs K mg Hi' ι' vs ws
  | _, _, .nil => .nil
  | _, _, .cons a b => .cons (a.step s) (b.step s)
theorem RepWs.length : ∀ {vs : List V} {ws : List W}, RepWs K mg Hi ι vs ws → vs.length = ws.length
  | _, _, .nil => rfl
  | _, _, .cons _ b => by rw [List.length_cons, List.length_cons, RepWs.length b]
theorem RepWs.get : ∀ {vs : List V} {ws : List W} {i : Nat} {w : W}, RepWs K mg Hi ι vs ws → ws[i]? = some w → ∃ v, vs[i]? = some v ∧ RepW K mg Hi ι v w
  | _, _, _, _, .nil, h => by simp at h
  | _, _, 0, _, .cons (v := v) a b, h => ⟨v, rfl, by simp at h; subst h; exact a⟩
  | _, _, i + 1, _, .cons a b, h => by
    obtain ⟨v, h1, h2⟩ := RepWs.get (i := i) b (by simpa using h)
    exact ⟨v, by simpa using h1, h2⟩
theorem RepWs.drop : ∀ {vs : List V} {ws : List W} (n : Nat), RepWs K mg Hi ι vs ws → RepWs K mg Hi ι (vs.drop n) (ws.drop n)
  | _, _, 0, r => r
  | _, _, _ + 1, .nil => .nil
  | _, _, n + 1, .cons _ t => RepWs.drop n t
theorem RepWs.take : ∀ {vs : List V} {ws : List W} (n : Nat), RepWs K mg Hi ι vs ws → RepWs K mg Hi ι (vs.take n) (ws.take n)
  | _, _, 0, _ => .nil
  | _, _, _ + 1, .nil => .nil
  | _, _, n + 1, .cons r t => .cons r (RepWs.take n t)
theorem RepWs.dats : ∀ {vs : List V} {ws : List W} {xs : List D}, RepWs K mg Hi ι vs ws → dats ws = some xs → RepL K mg Hi vs xs
  | _, _, _, .nil, h => by simp only [GD.dats, Option.some.injEq] at h; subst h; exact .nil
  | _, _, xs, .cons (w := .d x) a b, h => by
    simp only [GD.dats, Option.map_eq_some_iff] at h
    obtain ⟨ys, h1, h2⟩ := h
    subst h2
    exact .cons a (RepWs.dats b h1)
  | _, _, _, .cons (w := .m x) a b, h => by simp [GD.dats] at h
theorem RepL.ws {Hi : Hp} {ι : List Addr} : ∀ {vs : List V} {ds : List D}, RepL K mg Hi vs ds → RepWs K mg Hi ι vs (ds.map .d)
  | _, _, .nil => .nil
  | _, _, .cons a b => .cons a (RepL.ws b)
theorem RepS.step (s : Step Hi ι H Hi' ι' H') (h : RepS K mg Hi ι ρ σ) : RepS K mg Hi' ι' ρ σ := ⟨h.1, fun i w e => by
  obtain ⟨v, h1, h2⟩ := h.2 i w e
  exact ⟨v, h1, h2.step s⟩⟩
theorem RepS.set (h : RepS K mg Hi ι ρ σ) {v : V} {w : W} (i : Nat) (r : RepW K mg Hi ι v w) : RepS K mg Hi ι (ρ.set i (some w)) (σ.set i (some v)) := by
  refine ⟨by rw [List.length_set, List.length_set]; exact h.1, fun j w' e => ?_⟩
  by_cases hj : i = j
  · subst hj
    by_cases hl : i < ρ.length
    · rw [List.getElem?_set_self hl] at e
      cases e
      exact ⟨v, List.getElem?_set_self (by rw [← h.1]; exact hl), r⟩
    · rw [List.getElem?_eq_none (by rw [List.length_set]; omega)] at e
      cases e
  · rw [List.getElem?_set_ne hj] at e
    obtain ⟨v', h1, h2⟩ := h.2 j w' e
    exact ⟨v', by rw [List.getElem?_set_ne hj]; exact h1, h2⟩
theorem RepS.forget (h : RepS K mg Hi ι ρ σ) (i : Nat) : RepS K mg Hi ι (ρ.set i none) (σ.set i none) := by
  refine ⟨by rw [List.length_set, List.length_set]; exact h.1, fun j w' e => ?_⟩
  by_cases hj : i = j
  · subst hj
    by_cases hl : i < ρ.length
    · rw [List.getElem?_set_self hl] at e
      cases e
    · rw [List.getElem?_eq_none (by rw [List.length_set]; omega)] at e
      cases e
  · rw [List.getElem?_set_ne hj] at e
    obtain ⟨v', h1, h2⟩ := h.2 j w' e
    exact ⟨v', by rw [List.getElem?_set_ne hj]; exact h1, h2⟩
theorem RepS.wipe (h : RepS K mg Hi ι ρ σ) : ∀ vs : List Nat, RepS K mg Hi ι (wipeE ρ vs) (L2.wipe σ vs)
  | [] => h
  | v :: vs => by
    unfold wipeE L2.wipe
    exact RepS.forget (RepS.wipe h vs) v
/-! ### objects made and changed -/
theorem Mok.live (M : Mok K mg Hi ι m H) {a : Addr} (h : a ∈ ι) : ∃ o, H a = some o := by
  obtain ⟨k, hk⟩ := List.getElem?_of_mem h
  have hl : k < m.length := by rw [← M.len]; exact (List.getElem?_eq_some_iff.mp hk).1
  have q := M.obj k m[k] a (by simp [hl]) hk
  cases e : m[k] with
  | lst xs => rw [e] at q; obtain ⟨vs, q, _⟩ := q; exact ⟨_, q⟩
  | ins c ns xs => rw [e] at q; obtain ⟨C, dx, vs, _, q, _⟩ := q; exact ⟨_, q⟩
  | dead => rw [e] at q; exact q
  | tab P q' => rw [e] at q; obtain ⟨rfl, ps, q, _⟩ := q; exact ⟨_, q⟩
  | dic w kvs => rw [e] at q; obtain ⟨_, ps, q, _⟩ := q; exact ⟨_, q⟩
  | iset w xs => rw [e] at q; exact ⟨_, q⟩
  | lks js => rw [e] at q; obtain ⟨vs, q, _⟩ := q; exact ⟨_, q⟩
  | own k f xs => rw [e] at q; obtain ⟨vs, q, _⟩ := q; exact ⟨_, q⟩
theorem RepWs.monoI (e : Same Hi Hi') : ∀ {vs : List V} {ws : List W}, RepWs K mg Hi ι vs ws → RepWs K mg Hi' ι vs ws
  | _, _, .nil => .nil
  | _, _, .cons a b => .cons (a.mono e (List.prefix_refl _)) (RepWs.monoI e b)
theorem take_app {ι : List Addr} {p : Addr} {k : Nat} (h : k ≤ ι.length) : (ι ++ [p]).take k = ι.take k := by rw [List.take_append_of_le_length h]
theorem DicR.mono (e : Same Hi Hi') : ∀ {kvs : List (D × D)} {ps : List (NestedKey × Addr × V)}, DicR K mg Hi kvs ps → DicR K mg Hi' kvs ps
  | _, _, .nil => .nil
  | _, _, .cons a b c d => .cons a (b.mono e) (c.mono e) (d.mono e)
theorem RepO.mono {a : Addr} {mo : MO} (e : Same Hi Hi') (h : RepO K mg Hi ι H a mo) (eh : H' a = H a) : RepO K mg Hi' ι H' a mo := by
  cases mo with
  | lst xs => obtain ⟨vs, h1, h2⟩ := h; exact ⟨vs, by rw [eh]; exact h1, h2.mono e⟩
  | ins c ns xs => obtain ⟨C, dx, vs, h0, h1, h2, h3, h4⟩ := h; exact ⟨C, dx, vs, h0, by rw [eh]; exact h1, e _ _ h2, h3, h4.mono e⟩
  | dead => obtain ⟨o, h⟩ := h; exact ⟨o, by rw [eh]; exact h⟩
  | tab P q =>
    obtain ⟨rfl, ps, h1, h2, h3⟩ := h
    refine ⟨rfl, ps, by rw [eh]; exact h1, h2, fun pos cv hc => ?_⟩
    obtain ⟨c, h4, h5⟩ := h3 pos cv hc
    exact ⟨c, h4, e _ _ h5⟩
  | dic w kvs => obtain ⟨h0, ps, h1, h2⟩ := h; exact ⟨h0, ps, by rw [eh]; exact h1, h2.mono e⟩
  | iset w xs => exact eh.trans h
  | lks js => obtain ⟨vs, h1, h2⟩ := h; exact ⟨vs, by rw [eh]; exact h1, RepWs.monoI e h2⟩
  | own k f xs => obtain ⟨vs, h1, h2⟩ := h; exact ⟨vs, by rw [eh]; exact h1, h2.mono e⟩
theorem RepO.any {a : Addr} {mo : MO} (h : RepO K mg Hi ι H a mo) (hl : ∀ js, mo ≠ .lks js) : RepO K mg Hi ι2 H a mo := by
  cases mo with
  | lks js => exact absurd rfl (hl js)
  | _ => exact h
/-! the links of own lists -/
theorem Lnk.upd (L : Lnk ι m H) {p : Addr} {o : HO} (hp : ∀ C dx fs, H p ≠ some (.ins C dx fs)) : Lnk ι m (upd H p o) := fun k c ns vs a f j xs h1 h2 h3 h4 => by
  obtain ⟨b, C, dx, fs, q1, q2, q3⟩ := L k c ns vs a f j xs h1 h2 h3 h4
  exact ⟨b, C, dx, fs, q1, by rw [upd_ne (fun e => hp C dx fs (by rw [← e]; exact q2))]; exact q2, q3⟩
/-- what is no instance with a list of its own, and no such list -/
def MO.free : MO → Prop
  | .own _ _ _ => False
  | .ins _ ns vs => ∀ f j, (ns.zip vs).lookup f ≠ some (.own j)
  | _ => True
theorem Lnk.push (L : Lnk ι m H) (hl : ι.length = m.length) {p : Addr} {mo : MO} (hm : mo.free) : Lnk (ι ++ [p]) (m ++ [mo]) H := fun k c ns vs a f j xs h1 h2 h3 h4 => by
  have old : ∀ {i : Nat} {x : MO}, (m ++ [mo])[i]? = some x → (∃ (h : i < m.length), m[i]? = some x) ∨ (i = m.length ∧ x = mo) := fun {i x} h => by
    by_cases hi : i < m.length
    · rw [List.getElem?_append_left hi] at h
      exact .inl ⟨hi, h⟩
    · rw [List.getElem?_append_right (by omega)] at h
      have e := List.mem_of_getElem? h
      rw [List.mem_singleton] at e
      have := (List.getElem?_eq_some_iff.mp h).1
      rw [List.length_singleton] at this
      exact .inr ⟨by omega, e⟩
  rcases old h1 with ⟨hk, e1⟩ | ⟨_, e1⟩
  · rcases old h4 with ⟨hj, e4⟩ | ⟨_, e4⟩
    · rw [List.getElem?_append_left (by omega)] at h2
      obtain ⟨b, C, dx, fs, q1, q2, q3⟩ := L k c ns vs a f j xs e1 h2 h3 e4
      exact ⟨b, C, dx, fs, by rw [List.getElem?_append_left (by omega)]; exact q1, q2, q3⟩
    · subst e4
      exact hm.elim
  · subst e1
    exact absurd h3 (hm f j)
theorem Lnk.cut (L : Lnk ι m H) (n : Nat) : Lnk (ι.take n) (m.take n) H := fun k c ns vs a f j xs h1 h2 h3 h4 => by
  have old : ∀ {α : Type} {l : List α} {i : Nat} {x : α}, (l.take n)[i]? = some x → i < n ∧ l[i]? = some x := fun {α l i x} h => by
    by_cases hi : i < n
    · rw [List.getElem?_take_of_lt hi] at h
      exact ⟨hi, h⟩
    · rw [List.getElem?_eq_none (by rw [List.length_take]; omega)] at h
      cases h
  obtain ⟨b, C, dx, fs, q1, q2, q3⟩ := L k c ns vs a f j xs (old h1).2 (old h2).2 h3 (old h4).2
  exact ⟨b, C, dx, fs, by rw [List.getElem?_take_of_lt (old h4).1]; exact q1, q2, q3⟩
/-- an object that has no list of its own becomes another such -/
theorem Lnk.set (L : Lnk ι m H) {i : Nat} {mo : MO} (hm : mo.free) : Lnk ι (m.set i mo) H := fun k c ns vs a f j xs h1 h2 h3 h4 => by
  have old : ∀ {l : Nat} {x : MO}, (m.set i mo)[l]? = some x → m[l]? = some x ∨ x = mo := fun {l x} h => by
    by_cases hi : i = l
    · subst hi
      have hl := (List.getElem?_eq_some_iff.mp h).1
      rw [List.length_set] at hl
      rw [List.getElem?_set_self hl] at h
      cases h
      exact .inr rfl
    · rw [List.getElem?_set_ne hi] at h
      exact .inl h
  rcases old h1 with e1 | e1
  · rcases old h4 with e4 | e4
    · exact L k c ns vs a f j xs e1 h2 h3 e4
    · subst e4
      exact hm.elim
  · subst e1
    exact absurd h3 (hm f j)
/-- a new object of data -/
theorem Mok.newD (M : Mok K mg Hi ι m H) {p : Addr} {o : HO} (hp : H p = none) : Mok K mg (upd Hi p o) ι m (upd H p o) ∧ Step Hi ι H (upd Hi p o) ι (upd H p o) := by
  have hi : Hi p = none := M.sub.free hp
  have nm : ∀ a ∈ ι, a ≠ p := fun a ha e => by
    obtain ⟨o', h⟩ := M.live ha
    rw [e, hp] at h
    cases h
  have im : Same Hi (upd Hi p o) := fun b u q => by rw [upd_ne (ne_of_none q hi)]; exact q
  refine ⟨⟨fun b u q => ?_, M.len, M.nd, fun k mo a h1 h2 h3 => by rw [upd_ne (nm a (List.mem_of_getElem? h2))]; exact M.free k mo a h1 h2 h3, fun k mo a h1 h2 => ?_, M.lnk.upd fun C dx fs h => by rw [hp] at h; cases h⟩, im, List.prefix_refl _, fun a u q _ => by rw [upd_ne (ne_of_none q hp)]; exact q, fun a h1 h2 => absurd h1 h2, fun a h => upd_live h, fun a _ h1 h2 => by rw [upd_ne (fun z => h2 (by rw [z]; exact hp))]; exact h1⟩
  · by_cases hb : b = p
    · subst hb; rw [upd_same] at q ⊢; exact q
    · rw [upd_ne hb] at q ⊢; exact M.sub b u q
  · exact (M.obj k mo a h1 h2).mono im (upd_ne (nm a (List.mem_of_getElem? h2)))
/-- a new changeable list -/
theorem Mok.newM (M : Mok K mg Hi ι m H) {p : Addr} {vs : List V} {xs : List D} (hp : H p = none) (r : RepL K mg Hi vs xs) : Mok K mg Hi (ι ++ [p]) (m ++ [.lst xs]) (upd H p (.lst vs)) ∧ Step Hi ι H Hi (ι ++ [p]) (upd H p (.lst vs)) := by
  have hi : Hi p = none := M.sub.free hp
  have nm : ∀ a ∈ ι, a ≠ p := fun a ha e => by
    obtain ⟨o', h⟩ := M.live ha
    rw [e, hp] at h
    cases h
  refine ⟨⟨fun b u q => by rw [upd_ne (ne_of_none q hi)]; exact M.sub b u q, by simp [M.len], ?_, fun k mo a h1 h2 h3 => ?_, fun k mo a h1 h2 => ?_, (M.lnk.push (p := p) (mo := .lst xs) M.len trivial).upd fun C dx fs h => by rw [hp] at h; cases h⟩, Same.refl _, List.prefix_append _ _, fun a u q _ => by rw [upd_ne (ne_of_none q hp)]; exact q, fun a h1 h2 => ?_, fun a h => upd_live h, fun a _ h1 _ => h1⟩
  · rw [List.nodup_append]
    exact ⟨M.nd, by simp, fun a ha b hb => by rw [List.mem_singleton] at hb; subst hb; exact nm a ha⟩
  · by_cases hk : k < m.length
    · rw [List.getElem?_append_left hk] at h1
      rw [List.getElem?_append_left (by rw [M.len]; exact hk)] at h2
      exact M.free k mo a h1 h2 h3
    · rw [List.getElem?_append_right (by rw [M.len]; omega)] at h2
      have hm := List.mem_of_getElem? h2
      rw [List.mem_singleton] at hm; subst hm; exact hi
  · by_cases hk : k < m.length
    · rw [List.getElem?_append_left hk] at h1
      rw [List.getElem?_append_left (by rw [M.len]; exact hk)] at h2
      rw [take_app (by rw [M.len]; omega)]
      exact (M.obj k mo a h1 h2).mono (Same.refl _) (upd_ne (nm a (List.mem_of_getElem? h2)))
    · rw [List.getElem?_append_right (by omega)] at h1
      rw [List.getElem?_append_right (by rw [M.len]; omega)] at h2
      have ek : k - m.length = 0 := by
        cases e : k - m.length with
        | zero => rfl
        | succ n => rw [e] at h1; simp at h1
      rw [ek] at h1
      rw [M.len, ek] at h2
      simp at h1 h2
      subst h1 h2
      exact ⟨vs, upd_same, r⟩
  · rcases List.mem_append.mp h1 with h1 | h1
    · exact absurd h1 h2
    · rw [List.mem_singleton] at h1; subst h1; exact hp
/-- a changeable list changed -/
theorem Mok.set (M : Mok K mg Hi ι m H) {p : Addr} {k : Nat} {vs : List V} {xs ys : List D} (hk : ι[k]? = some p) (ho : m[k]? = some (.lst ys)) (r : RepL K mg Hi vs xs) : Mok K mg Hi ι (m.set k (.lst xs)) (upd H p (.lst vs)) ∧ Step Hi ι H Hi ι (upd H p (.lst vs)) := by
  have hm : p ∈ ι := List.mem_of_getElem? hk
  have hi := M.free k _ p ho hk (fun q => nomatch q)
  refine ⟨⟨fun b u q => by rw [upd_ne (ne_of_none q hi)]; exact M.sub b u q, by simp [M.len], M.nd, fun j mo a h1 h2 h3 => ?_, fun j mo a h1 h2 => ?_, (M.lnk.set (mo := .lst xs) trivial).upd fun C dx fs h => by
    obtain ⟨us, q, _⟩ := M.obj k _ p ho hk
    rw [q] at h
    cases h⟩, Same.refl _, List.prefix_refl _, fun a u q hn => ?_, fun a h1 h2 => absurd h1 h2, fun a h => upd_live h, fun a _ h1 _ => h1⟩
  · by_cases hj : k = j
    · subst hj
      rw [hk] at h2
      cases h2
      exact hi
    · rw [List.getElem?_set_ne hj] at h1
      exact M.free j mo a h1 h2 h3
  · by_cases hj : k = j
    · subst hj
      have hl : k < m.length := by rw [← M.len]; exact (List.getElem?_eq_some_iff.mp hk).1
      rw [List.getElem?_set_self hl] at h1
      rw [hk] at h2
      cases h1
      cases h2
      exact ⟨vs, upd_same, r⟩
    · rw [List.getElem?_set_ne hj] at h1
      have ne : a ≠ p := fun e => hj (by
        subst e
        obtain ⟨q1, e1⟩ := List.getElem?_eq_some_iff.mp hk
        obtain ⟨q2, e2⟩ := List.getElem?_eq_some_iff.mp h2
        exact (List.getElem_inj M.nd).mp (e1.trans e2.symm))
      exact (M.obj j mo a h1 h2).mono (Same.refl _) (upd_ne ne)
  · rw [upd_ne (fun e => hn (by rw [e]; exact hm))]
    exact q
/-- a changeable list becomes data; all behind n is let go -/
theorem Mok.cut (M : Mok K mg Hi ι m H) (n : Nat) : Mok K mg Hi (ι.take n) (m.take n) H := by
  refine ⟨M.sub, by rw [List.length_take, List.length_take, M.len], M.nd.sublist (List.take_sublist _ _), fun k mo a h1 h2 h3 => ?_, fun k mo a h1 h2 => ?_, M.lnk.cut n⟩
  · by_cases hk : k < n
    · rw [List.getElem?_take_of_lt hk] at h1 h2
      exact M.free k mo a h1 h2 h3
    · rw [List.getElem?_eq_none (by rw [List.length_take]; omega)] at h1
      cases h1
  by_cases hk : k < n
  · rw [List.getElem?_take_of_lt hk] at h1 h2
    rw [List.take_take, Nat.min_eq_left (by omega)]
    exact M.obj k mo a h1 h2
  · rw [List.getElem?_eq_none (by rw [List.length_take]; omega)] at h1
    cases h1
theorem Mok.keep (M : Mok K mg Hi ι m H) {a : Addr} {o : HO} (ho : H a = some o) (hn : a ∉ ι) (hi : Hi a = none) : Mok K mg (upd Hi a o) ι m H := by
  have im : Same Hi (upd Hi a o) := fun b u q => by rw [upd_ne (ne_of_none q hi)]; exact q
  refine ⟨fun b u q => ?_, M.len, M.nd, fun k mo b h1 h2 h3 => ?_, fun k mo b h1 h2 => (M.obj k mo b h1 h2).mono im rfl, M.lnk⟩
  · by_cases hb : b = a
    · subst hb; rw [upd_same] at q; cases q; exact ho
    · rw [upd_ne hb] at q; exact M.sub b u q
  · rw [upd_ne (fun e => hn (by rw [← e]; exact List.mem_of_getElem? h2))]
    exact M.free k mo b h1 h2 h3
/-- a changeable list becomes data -/
theorem Mok.frz (M : Mok K mg Hi ι m H) {k : Nat} {a : Addr} {vs : List V} {xs : List D} (hk : ι[k]? = some a) (ho : m[k]? = some (.lst xs)) (hv : H a = some (.lst vs)) : Mok K mg (upd Hi a (.lst vs)) ι (m.set k .dead) H ∧ Step Hi ι H (upd Hi a (.lst vs)) ι H := by
  have hi := M.free k _ a ho hk (fun q => nomatch q)
  have im : Same Hi (upd Hi a (.lst vs)) := fun b u q => by rw [upd_ne (ne_of_none q hi)]; exact q
  have hl : k < m.length := by rw [← M.len]; exact (List.getElem?_eq_some_iff.mp hk).1
  refine ⟨⟨fun b u q => ?_, by simp [M.len], M.nd, fun j mo b h1 h2 h3 => ?_, fun j mo b h1 h2 => ?_, M.lnk.set trivial⟩, im, List.prefix_refl _, fun _ _ h _ => h, fun _ h1 h2 => absurd h1 h2, fun _ h => h, fun b h0 h1 _ => ?_⟩
  · by_cases hb : b = a
    · subst hb; rw [upd_same] at q; cases q; exact hv
    · rw [upd_ne hb] at q; exact M.sub b u q
  · by_cases hj : k = j
    · subst hj
      rw [List.getElem?_set_self hl] at h1
      cases h1
      exact absurd rfl h3
    · rw [List.getElem?_set_ne hj] at h1
      have ne : b ≠ a := fun e => hj (by
        subst e
        obtain ⟨q1, e1⟩ := List.getElem?_eq_some_iff.mp hk
        obtain ⟨q2, e2⟩ := List.getElem?_eq_some_iff.mp h2
        exact (List.getElem_inj M.nd).mp (e1.trans e2.symm))
      rw [upd_ne ne]
      exact M.free j mo b h1 h2 h3
  · by_cases hj : k = j
    · subst hj
      rw [List.getElem?_set_self hl] at h1
      cases h1
      exact M.live (List.mem_of_getElem? h2)
    · rw [List.getElem?_set_ne hj] at h1
      exact (M.obj j mo b h1 h2).mono im rfl
  · rw [upd_ne (fun e => h0 (by rw [e]; exact List.mem_of_getElem? hk))]
    exact h1
end
end GD
/-! GD2: the readings of the mirrors; expressions. -/
namespace GD
open PySem PySem.Spec PyProof.Rows L2
section
variable (K : PySem.W.Frag) (mg : Str → Option Value)
/-- what is wanted of an error -/
def GoodX (Wx : WX) (σ : L2.St) (Hi : Hp) (ι : List Addr) (H : Hp) (c : Str) (ns : List Str) (vs : List D) (m' : Mem) : Prop :=
  ∀ (Hi' : Hp) (ι' : List Addr) (H' : Hp) (C dx : Addr) (fs : List V), Step Hi ι H Hi' ι' H' → Mok K mg Hi' ι' m' H' → mg c = some (.ref C) → Hi' dx = some (.xd (ns.zip fs)) → ns.length = fs.length → RepL K mg Hi' fs vs → Wx (.ref C) (some dx) σ H'
def Good {A α : Type} (rep : Hp → List Addr → A → α → Prop) (Wx : WX) (σ : L2.St) (Hi : Hp) (ι : List Addr) (H : Hp) (r : R α) (Q : A → Hp → Prop) : Prop := match r with
  | .ok a m' => ∀ (Hi' : Hp) (ι' : List Addr) (x : A) (H' : Hp), Step Hi ι H Hi' ι' H' → Mok K mg Hi' ι' m' H' → rep Hi' ι' x a → Q x H'
  | .exc c ns vs m' => GoodX K mg Wx σ Hi ι H c ns vs m'
  | .bad => False
def tD (Wx : WX) (f : Ev) : TE := fun σ H Q => ∃ Hi ι ρ m, Rel K mg Hi ι ρ m σ H ∧ Good K mg (RepW K mg) Wx σ Hi ι H (f ρ m) Q
def tDA (Wx : WX) (f : EvL) : TA := fun σ H Q => ∃ Hi ι ρ m, Rel K mg Hi ι ρ m σ H ∧ Good K mg (RepWs K mg) Wx σ Hi ι H (f ρ m) Q
def tDT (Wx : WX) (f : EvT) : TT := fun σ H Q => ∃ Hi ι ρ m, Rel K mg Hi ι ρ m σ H ∧ Good K mg (fun _ _ x a => x = a) Wx σ Hi ι H (f ρ m) Q
end
section
variable {K : PySem.W.Frag} {mg : Str → Option Value} {Wx : WX} {σ : L2.St} {Hi Hi' H H' : Hp} {ι ι' : List Addr} {m m' : Mem} {ρ : Env}
theorem GoodX.step {c : Str} {ns : List Str} {vs : List D} (h : GoodX K mg Wx σ Hi ι H c ns vs m) (s : Step Hi ι H Hi' ι' H') : GoodX K mg Wx σ Hi' ι' H' c ns vs m :=
  fun Hi2 ι2 H2 C dx fs st => h Hi2 ι2 H2 C dx fs (s.trans st)
theorem Good.step {A α : Type} {rep : Hp → List Addr → A → α → Prop} {r : R α} {Q : A → Hp → Prop} (h : Good K mg rep Wx σ Hi ι H r Q) (s : Step Hi ι H Hi' ι' H') : Good K mg rep Wx σ Hi' ι' H' r Q := by
  cases r with
  | ok a m' => exact fun Hi2 ι2 x H2 st => h Hi2 ι2 x H2 (s.trans st)
  | exc c ns vs m' => exact GoodX.step h s
  | bad => exact h
theorem good_bind {A B α β : Type} {rep : Hp → List Addr → A → α → Prop} {rep' : Hp → List Addr → B → β → Prop} {r : R α} {k : α → Mem → R β} {Q : B → Hp → Prop} {Q1 : A → Hp → Prop} (h : Good K mg rep' Wx σ Hi ι H (r.bind k) Q)
    (f : ∀ (a : α) (m' : Mem) (Hi' : Hp) (ι' : List Addr) (x : A) (H' : Hp), Step Hi ι H Hi' ι' H' → Mok K mg Hi' ι' m' H' → rep Hi' ι' x a → Good K mg rep' Wx σ Hi' ι' H' (k a m') Q → Q1 x H') : Good K mg rep Wx σ Hi ι H r Q1 := by
  cases r with
  | ok a m' => exact fun Hi2 ι2 x H2 st M rx => f a m' Hi2 ι2 x H2 st M rx (Good.step h st)
  | exc c ns vs m' => exact h
  | bad => exact h
theorem Good.here {A α : Type} {rep : Hp → List Addr → A → α → Prop} {a : α} {x : A} {Q : A → Hp → Prop} (h : Good K mg rep Wx σ Hi ι H (.ok a m) Q) (M : Mok K mg Hi ι m H) (r : rep Hi ι x a) : Q x H := h Hi ι x H Step.refl M r
theorem Rel.step (R : Rel K mg Hi ι ρ m σ H) (s : Step Hi ι H Hi' ι' H') (M : Mok K mg Hi' ι' m' H') : Rel K mg Hi' ι' ρ m' σ H' := ⟨M, R.slots.step s⟩
theorem PE.imp {X : Cx} {e : Expr} {t t' : TE} (h : PE X e t) (hi : ∀ σ H Q, t' σ H Q → t σ H Q) : PE X e t' := ⟨fun pins s σ H Q I q => h.run pins s σ H Q I (hi σ H Q q)⟩
theorem PT.imp {X : Cx} {e : Expr} {t t' : TT} (h : PT X e t) (hi : ∀ σ H Q, t' σ H Q → t σ H Q) : PT X e t' := ⟨fun pins s σ H Q I q => h.run pins s σ H Q I (hi σ H Q q)⟩
theorem PW.imp {X : Cx} {e : Expr} {t t' : TT} (h : PW X e t) (hi : ∀ σ H Q, t' σ H Q → t σ H Q) : PW X e t' := ⟨fun wh pins s σ H Q I q => h.run wh pins s σ H Q I (hi σ H Q q)⟩
theorem PA.imp {X : Cx} {es : List Expr} {t t' : TA} (h : PA X es t) (hi : ∀ σ H Q, t' σ H Q → t σ H Q) : PA X es t' := ⟨fun p pins s σ H Q I q => h.run p pins s σ H Q I (hi σ H Q q)⟩
theorem OpR.or {X : Cx} {f : Value → Value → Sem Value} {r r' : R2} (h : OpR X f r) (h' : OpR X f r') : OpR X f (fun x y H Q => r x y H Q ∨ r' x y H Q) := fun pins s σ H x y v u Q I rx ry q =>
  q.elim (h pins s σ H x y v u Q I rx ry) (h' pins s σ H x y v u Q I rx ry)
theorem UnR.or {X : Cx} {f : Value → Sem Value} {r r' : V → Hp → VK → Prop} (h : UnR X f r) (h' : UnR X f r') : UnR X f (fun x H Q => r x H Q ∨ r' x H Q) := fun pins s σ H x v Q I rx q =>
  q.elim (h pins s σ H x v Q I rx) (h' pins s σ H x v Q I rx)
theorem CallR.or {X : Cx} {f : Value} {r r' : List V → Hp → VK → Prop} (h : CallR X f r) (h' : CallR X f r') : CallR X f (fun x H Q => r x H Q ∨ r' x H Q) := fun pins s σ H x v Q I rx q =>
  q.elim (h pins s σ H x v Q I rx) (h' pins s σ H x v Q I rx)
end
/-! ### the place where a piece of a def stands -/
structure Cc (X : Cx) (Wx : WX) (k : Nat) : Prop where
  tk : Takes X Wx
  hp : PassesOwn (model X.prog X.w) X.A X.env X.xe
  nd : X.N.Nodup
  calm : X.calm = true
  room : Room k X.A
section
variable {X : Cx} {Wx : WX} {kk : Nat}
/-! ### names, constants, displays -/
theorem pd_var {i : Nat} {x : Str} {pos : Pos} (h : PE X (.Name x pos) (tVar i)) : PE X (.Name x pos) (tD X.K X.mg Wx (fVar i)) := PE.imp h fun σ H Q t => by
  obtain ⟨Hi, ι, ρ, m, R, g⟩ := t
  unfold fVar at g
  split at g
  · rename_i w e
    obtain ⟨v, h1, h2⟩ := R.slots.2 i w e
    exact ⟨v, h1, g.here R.mok h2⟩
  · exact g.elim
theorem pd_c {e : Expr} {v : V} {x : D} (h : PE X e (tC v)) (r : ∀ Hi, Rep X.K X.mg Hi v x) : PE X e (tD X.K X.mg Wx (fC x)) := PE.imp h fun σ H Q t => by
  obtain ⟨Hi, ι, ρ, m, R, g⟩ := t
  exact g.here (rep := RepW X.K X.mg) R.mok (r Hi)
theorem pd_int {i j pos} : PE X (.Constant (.int i) j pos) (tD X.K X.mg Wx (fC (.int i))) := pd_c pe_int fun _ => .int i
theorem pd_bl {i j pos} : PE X (.Constant (.bool i) j pos) (tD X.K X.mg Wx (fC (.bl i))) := pd_c pe_bl fun _ => .bl i
theorem pd_non {j pos} : PE X (.Constant .none j pos) (tD X.K X.mg Wx (fC .non)) := pd_c pe_non fun _ => .non
theorem pd_str {x j pos} : PE X (.Constant (.str x) j pos) (tD X.K X.mg Wx (fC (.str x))) := pd_c pe_str fun _ => .str x
theorem pad_nil : PA X [] (tDA X.K X.mg Wx fNil) := PA.imp pa_nil fun σ H Q t => by
  obtain ⟨Hi, ι, ρ, m, R, g⟩ := t
  exact g.here (rep := RepWs X.K X.mg) R.mok .nil
theorem pad_cons {e : Expr} {es : List Expr} {f : Ev} {g : EvL} (ha : PE X e (tD X.K X.mg Wx f)) (hr : PA X es (tDA X.K X.mg Wx g)) (hs : starEach (e :: es) X.env = (false, eval e X.env) :: starEach es X.env := by rfl) : PA X (e :: es) (tDA X.K X.mg Wx (fCons f g)) :=
  PA.imp (pa_cons ha hr hs) fun σ H Q t => by
    obtain ⟨Hi, ι, ρ, m, R, g⟩ := t
    refine ⟨Hi, ι, ρ, m, R, good_bind g fun w m1 Hi1 ι1 v H1 st M rv g1 => ⟨Hi1, ι1, ρ, m1, R.step st M, good_bind g1 fun ws m2 Hi2 ι2 vs H2 st2 M2 rvs g2 => ?_⟩⟩
    exact g2.here M2 (.cons (rv.step st2) rvs)
end
end GD
/-! GD3: displays, operators, tests, statements. -/
namespace GD
open PySem PySem.Spec PyProof.Rows L2
theorem sz5 {n : Nat} (h : n ≤ 100000) : n ≤ sizeLine := Nat.le_trans h (by decide)
theorem sz5' {n : Nat} (h : n < 100000) : n < sizeLine := Nat.lt_of_lt_of_le h (by decide)
/-! ### operations on values -/
/-- o tells what r gives -/
def S2 (K : PySem.W.Frag) (mg : Str → Option Value) (r : R2) (o : O2) : Prop := ∀ (Wx : WX) (σ : L2.St) (Hi : Hp) (ι : List Addr) (m : Mem) (H : Hp) (x y : V) (a b : W) (Q : VK), Mok K mg Hi ι m H → RepW K mg Hi ι x a → RepW K mg Hi ι y b →
  Good K mg (RepW K mg) Wx σ Hi ι H (o a b m) Q → r x y H Q
def S1 (K : PySem.W.Frag) (mg : Str → Option Value) (r : V → Hp → VK → Prop) (o : O1) : Prop := ∀ (Wx : WX) (σ : L2.St) (Hi : Hp) (ι : List Addr) (m : Mem) (H : Hp) (x : V) (a : W) (Q : VK), Mok K mg Hi ι m H → RepW K mg Hi ι x a →
  Good K mg (RepW K mg) Wx σ Hi ι H (o a m) Q → r x H Q
/-- a call by values -/
abbrev ON := List W → Mem → R W
def SN (K : PySem.W.Frag) (mg : Str → Option Value) (r : List V → Hp → VK → Prop) (o : ON) : Prop := ∀ (Wx : WX) (σ : L2.St) (Hi : Hp) (ι : List Addr) (m : Mem) (H : Hp) (xs : List V) (as : List W) (Q : VK), Mok K mg Hi ι m H → RepWs K mg Hi ι xs as →
  Good K mg (RepW K mg) Wx σ Hi ι H (o as m) Q → r xs H Q
def fCB (o : ON) (a : EvL) : Ev := fun ρ m => (a ρ m).bind fun ws m => o ws m
section
variable {X : Cx} {Wx : WX} {kk : Nat}
theorem pd_tup {es : List Expr} {x1} {pos : Pos} {f : EvL} (h : PA X es (tDA X.K X.mg Wx f)) : PE X (.Tuple es x1 pos) (tD X.K X.mg Wx (fTup f)) := PE.imp (pe_tup h) fun σ H Q t => by
  obtain ⟨Hi, ι, ρ, m, RR, g⟩ := t
  refine ⟨Hi, ι, ρ, m, RR, good_bind g fun ws m1 Hi1 ι1 vs H1 st M rv g1 => ?_⟩
  split at g1
  · rename_i xs e
    split at g1
    · rename_i hl
      have rl := rv.dats e
      refine ⟨sz5 (by rw [rl.length]; exact hl), fun p hp => ?_⟩
      obtain ⟨M2, st2⟩ := M.newD (o := .tup vs) hp
      exact g1 _ _ _ _ st2 M2 (.tup (.inl (.inl upd_same)) (rl.mono st2.imm))
    · exact g1.elim
  · exact g1.elim
theorem pd_lst {es : List Expr} {pos : Pos} {f : EvL} (h : PA X es (tDA X.K X.mg Wx f)) : PE X (.List es pos) (tD X.K X.mg Wx (fLst f)) := PE.imp (pe_lst h) fun σ H Q t => by
  obtain ⟨Hi, ι, ρ, m, RR, g⟩ := t
  refine ⟨Hi, ι, ρ, m, RR, good_bind g fun ws m1 Hi1 ι1 vs H1 st M rv g1 => ?_⟩
  split at g1
  · rename_i xs e
    split at g1
    · rename_i hl
      have rl := rv.dats e
      refine ⟨sz5 (by rw [rl.length]; exact hl), fun p hp => ?_⟩
      obtain ⟨M2, st2⟩ := M.newD (o := .lst vs) hp
      exact g1 _ _ _ _ st2 M2 (.lst upd_same (rl.mono st2.imm))
    · exact g1.elim
  · exact g1.elim
theorem pd_lstM {es : List Expr} {pos : Pos} {f : EvL} (h : PA X es (tDA X.K X.mg Wx f)) : PE X (.List es pos) (tD X.K X.mg Wx (fLstM f)) := PE.imp (pe_lst h) fun σ H Q t => by
  obtain ⟨Hi, ι, ρ, m, RR, g⟩ := t
  refine ⟨Hi, ι, ρ, m, RR, good_bind g fun ws m1 Hi1 ι1 vs H1 st M rv g1 => ?_⟩
  split at g1
  · rename_i xs e
    split at g1
    · rename_i hl
      have rl := rv.dats e
      refine ⟨sz5 (by rw [rl.length]; exact hl), fun p hp => ?_⟩
      obtain ⟨M2, st2⟩ := M.newM hp rl
      exact g1 _ _ _ _ st2 M2 ⟨p, by rw [← M.len, List.getElem?_append_right (Nat.le_refl _)]; simp, rfl⟩
    · exact g1.elim
  · exact g1.elim
theorem pd_op {a b : Expr} {op : Operator} {pos : Pos} {r : R2} {o : O2} {fa fb : Ev} (ho : OpR X (binaryOp op) r) (so : S2 X.K X.mg r o) (ha : PE X a (tD X.K X.mg Wx fa)) (hb : PE X b (tD X.K X.mg Wx fb)) : PE X (.BinOp a op b pos) (tD X.K X.mg Wx (fOp o fa fb)) :=
  PE.imp (pe_op ho ha hb) fun σ H Q t => by
    obtain ⟨Hi, ι, ρ, m, RR, g⟩ := t
    exact ⟨Hi, ι, ρ, m, RR, good_bind g fun x m1 Hi1 ι1 v H1 st M rv g1 => ⟨Hi1, ι1, ρ, m1, RR.step st M, good_bind g1 fun y m2 Hi2 ι2 u H2 st2 M2 ru g2 => so _ _ _ _ _ _ _ _ _ _ _ M2 (rv.step st2) ru g2⟩⟩
theorem pd_cmp {a b : Expr} {op : CmpOp} {pos : Pos} {r : R2} {o : O2} {fa fb : Ev} (ho : OpR X (compareOp op) r) (so : S2 X.K X.mg r o) (ha : PE X a (tD X.K X.mg Wx fa)) (hb : PE X b (tD X.K X.mg Wx fb)) (hm : behindInMarks op b = false) : PE X (.Compare a [op] [b] pos) (tD X.K X.mg Wx (fOp o fa fb)) :=
  PE.imp (pe_cmpR ho ha hb hm) fun σ H Q t => by
    obtain ⟨Hi, ι, ρ, m, RR, g⟩ := t
    exact ⟨Hi, ι, ρ, m, RR, good_bind g fun x m1 Hi1 ι1 v H1 st M rv g1 => ⟨Hi1, ι1, ρ, m1, RR.step st M, good_bind g1 fun y m2 Hi2 ι2 u H2 st2 M2 ru g2 => so _ _ _ _ _ _ _ _ _ _ _ M2 (rv.step st2) ru g2⟩⟩
theorem ptd_cmp {a b : Expr} {op : CmpOp} {pos : Pos} {r : R2} {o : O2} {fa fb : Ev} (ho : OpR X (compareOp op) r) (so : S2 X.K X.mg r o) (ha : PE X a (tD X.K X.mg Wx fa)) (hb : PE X b (tD X.K X.mg Wx fb)) (hm : behindInMarks op b = false) : PT X (.Compare a [op] [b] pos) (tDT X.K X.mg Wx (gBool (fOp o fa fb))) :=
  PT.imp (pt_cmpR ho ha hb hm) fun σ H Q t => by
    obtain ⟨Hi, ι, ρ, m, RR, g⟩ := t
    unfold gBool fOp at g
    have g' : Good X.K X.mg (fun _ _ x a => x = a) Wx σ Hi ι H ((fa ρ m).bind fun x m => (fb ρ m).bind fun y m => (o x y m).bind fun z m => match z with | .d (.bl b) => R.ok b m | _ => R.bad) Q := by
      cases e : fa ρ m with
      | ok x m1 =>
        rw [e] at g
        simp only [R.bind_ok] at g ⊢
        cases e2 : fb ρ m1 with
        | ok y m2 => rw [e2] at g; exact g
        | exc c ns vs m2 => rw [e2] at g; exact g
        | bad => rw [e2] at g; exact g
      | exc c ns vs m2 => rw [e] at g; exact g
      | bad => rw [e] at g; exact g
    refine ⟨Hi, ι, ρ, m, RR, good_bind g' fun x m1 Hi1 ι1 v H1 st M rv g1 => ⟨Hi1, ι1, ρ, m1, RR.step st M, good_bind g1 fun y m2 Hi2 ι2 u H2 st2 M2 ru g2 => so Wx σ _ _ _ _ _ _ _ _ _ M2 (rv.step st2) ru (good_bind g2 fun z m3 Hi3 ι3 z' H3 st3 M3 rz g3 => ?_)⟩⟩
    split at g3
    · cases rz
      exact ⟨_, rfl, g3.here M3 rfl⟩
    · exact g3.elim
theorem pd_un {a : Expr} {op : UnaryOp} {pos : Pos} {r : V → Hp → VK → Prop} {o : O1} {fa : Ev} (ho : UnR X (unaryOp op) r) (so : S1 X.K X.mg r o) (ha : PE X a (tD X.K X.mg Wx fa)) : PE X (.UnaryOp op a pos) (tD X.K X.mg Wx (fUn o fa)) :=
  PE.imp (pe_un ho ha) fun σ H Q t => by
    obtain ⟨Hi, ι, ρ, m, RR, g⟩ := t
    exact ⟨Hi, ι, ρ, m, RR, good_bind g fun x m1 Hi1 ι1 v H1 st M rv g1 => so _ _ _ _ _ _ _ _ _ M rv g1⟩
theorem pd_callB {x : Str} {p pos : Pos} {e : Expr} {es : List Expr} {id : String} {r : List V → Hp → VK → Prop} {o : ON} {f : EvL} (hc : CallR X (.builtin id) r) (so : SN X.K X.mg r o) (hg : Gl X x) (hm : X.mg x = none) (hv : bootBuiltins x = some (.builtin id)) (ha : PA X (e :: es) (tDA X.K X.mg Wx f))
    (hn : x ≠ "__name__" := by decide) (hdb : (x == ("__debug__" : Str)) = false := by decide) (he : starEach (e :: es) X.env = (false, eval e X.env) :: starEach es X.env := by rfl) (hpl : (backTo pos (starEach es X.env)).any (·.1) = false := by rfl) :
    PE X (.Call (.Name x p) (e :: es) [] pos) (tD X.K X.mg Wx (fCB o f)) := PE.imp (pe_callB hc hg hm hv ha hn hdb he hpl) fun σ H Q t => by
  obtain ⟨Hi, ι, ρ, m, RR, g⟩ := t
  exact ⟨Hi, ι, ρ, m, RR, good_bind g fun x m1 Hi1 ι1 v H1 st M rv g1 => so _ _ _ _ _ _ _ _ _ M rv g1⟩
theorem pd_callTy {x : Str} {p pos : Pos} {e : Expr} {es : List Expr} {T : String} {r : List V → Hp → VK → Prop} {o : ON} {f : EvL} (hc : CallR X (.type T) r) (so : SN X.K X.mg r o) (hg : Gl X x) (hm : X.mg x = none) (hv : bootBuiltins x = some (.type T)) (ha : PA X (e :: es) (tDA X.K X.mg Wx f))
    (hn : x ≠ "__name__" := by decide) (hdb : (x == ("__debug__" : Str)) = false := by decide) (he : starEach (e :: es) X.env = (false, eval e X.env) :: starEach es X.env := by rfl) (hpl : (backTo pos (starEach es X.env)).any (·.1) = false := by rfl) :
    PE X (.Call (.Name x p) (e :: es) [] pos) (tD X.K X.mg Wx (fCB o f)) := PE.imp (pe_callTy hc hg hm hv ha hn hdb he hpl) fun σ H Q t => by
  obtain ⟨Hi, ι, ρ, m, RR, g⟩ := t
  exact ⟨Hi, ι, ρ, m, RR, good_bind g fun x m1 Hi1 ι1 v H1 st M rv g1 => so _ _ _ _ _ _ _ _ _ M rv g1⟩
/-! ### tests -/
theorem natE (n : Nat) : (n != 0) = ((n : Int) != 0) := by
  cases n with
  | zero => rfl
  | succ n =>
    have h1 : ((n + 1 : Nat) != 0) = true := by simp
    have h2 : (((n + 1 : Nat) : Int) != 0) = true := by simp; omega
    rw [h1, h2]
theorem isE {α : Type} {xs : List α} {n : Nat} (h : xs.length = n) : xs.isEmpty = (n == 0) := by
  cases xs with
  | nil => subst h; rfl
  | cons a l => subst h; rfl
theorem ptd_truth {a : Expr} {f : Ev} (ha : PE X a (tD X.K X.mg Wx f)) (he : ∀ whole, isTrue a X.env whole = (do let v ← whole; standAt a.pos; holding [v] (truthy v)) := by intro _; rfl) : PT X a (tDT X.K X.mg Wx (gTest f)) :=
  PT.imp (pt_truth ha he) fun σ H Q t => by
    obtain ⟨Hi, ι, ρ, m, RR, g⟩ := t
    refine ⟨Hi, ι, ρ, m, RR, good_bind g fun x m1 Hi1 ι1 v H1 st M rv g1 => ?_⟩
    split at g1
    · rename_i b e
      refine ⟨b, ?_, g1.here M rfl⟩
      unfold truth at e
      split at e
      · cases e; cases rv; rfl
      · cases e; cases rv; rfl
      · cases e; cases rv; rfl
      · cases e
        cases rv with
        | lst s r => exact .inl ⟨_, .inl (.inl (M.sub _ _ s)), by rw [isE r.length, isE rfl]⟩
      · cases e
        cases rv with
        | tup s r => exact .inr (.inl ⟨_, sqT_mono M.sub s, by rw [isE r.length, isE rfl]⟩)
      · split at e
        · rename_i hl
          cases e
          cases rv
          exact ⟨sz5 hl, natE _⟩
        · cases e
      · cases e
    · exact g1.elim
theorem ptd_not {a : Expr} {pos : Pos} {f : EvT} (ha : PT X a (tDT X.K X.mg Wx f)) : PT X (.UnaryOp .Not a pos) (tDT X.K X.mg Wx (gNot f)) := PT.imp (pt_not ha) fun σ H Q t => by
  obtain ⟨Hi, ι, ρ, m, RR, g⟩ := t
  exact ⟨Hi, ι, ρ, m, RR, good_bind g fun x m1 Hi1 ι1 v H1 st M rv g1 => by cases rv; exact g1.here M rfl⟩
theorem pwd_and1 {a : Expr} {pos : Pos} {f : EvT} (ha : PT X a (tDT X.K X.mg Wx f)) : PW X (.BoolOp .And [a] pos) (tDT X.K X.mg Wx f) := pw_and1 ha
theorem pwd_or1 {a : Expr} {pos : Pos} {f : EvT} (ha : PT X a (tDT X.K X.mg Wx f)) : PW X (.BoolOp .Or [a] pos) (tDT X.K X.mg Wx f) := pw_or1 ha
theorem pwd_and {a b : Expr} {rest : List Expr} {pos : Pos} {f g : EvT} (ha : PT X a (tDT X.K X.mg Wx f)) (hb : PW X (.BoolOp .And (b :: rest) pos) (tDT X.K X.mg Wx g)) : PW X (.BoolOp .And (a :: b :: rest) pos) (tDT X.K X.mg Wx (gAnd f g)) :=
  PW.imp (pw_and ha hb) fun σ H Q t => by
    obtain ⟨Hi, ι, ρ, m, RR, g⟩ := t
    refine ⟨Hi, ι, ρ, m, RR, good_bind g fun x m1 Hi1 ι1 v H1 st M rv g1 => ?_⟩
    cases rv
    cases x with
    | true => exact ⟨Hi1, ι1, ρ, m1, RR.step st M, g1⟩
    | false => exact g1.here (rep := fun _ _ x a => x = a) M rfl
theorem pwd_or {a b : Expr} {rest : List Expr} {pos : Pos} {f g : EvT} (ha : PT X a (tDT X.K X.mg Wx f)) (hb : PW X (.BoolOp .Or (b :: rest) pos) (tDT X.K X.mg Wx g)) : PW X (.BoolOp .Or (a :: b :: rest) pos) (tDT X.K X.mg Wx (gOr f g)) :=
  PW.imp (pw_or ha hb) fun σ H Q t => by
    obtain ⟨Hi, ι, ρ, m, RR, g⟩ := t
    refine ⟨Hi, ι, ρ, m, RR, good_bind g fun x m1 Hi1 ι1 v H1 st M rv g1 => ?_⟩
    cases rv
    cases x with
    | true => exact g1.here (rep := fun _ _ x a => x = a) M rfl
    | false => exact ⟨Hi1, ι1, ρ, m1, RR.step st M, g1⟩
theorem pd_if {c a b : Expr} {pos : Pos} {t : EvT} {f g : Ev} (hc : PT X c (tDT X.K X.mg Wx t)) (ha : PE X a (tD X.K X.mg Wx f)) (hb : PE X b (tD X.K X.mg Wx g)) : PE X (.IfExp c a b pos) (tD X.K X.mg Wx (fIf t f g)) := PE.imp (pe_ifExp hc ha hb) fun σ H Q t => by
  obtain ⟨Hi, ι, ρ, m, RR, g⟩ := t
  refine ⟨Hi, ι, ρ, m, RR, good_bind g fun x m1 Hi1 ι1 v H1 st M rv g1 => ?_⟩
  cases rv
  cases x with
  | true => exact ⟨Hi1, ι1, ρ, m1, RR.step st M, g1⟩
  | false => exact ⟨Hi1, ι1, ρ, m1, RR.step st M, g1⟩
/-- a and b, a or b, not a as values -/
theorem pd_one {op : BoolOp} {a : Expr} {pos : Pos} {t : TE} (ha : PE X a t) : PE X (.BoolOp op [a] pos) t := pe_one ha
theorem pd_and {a b : Expr} {rest : List Expr} {pos : Pos} {f g : Ev} (ha : PE X a (tD X.K X.mg Wx f)) (hb : PE X (.BoolOp .And (b :: rest) pos) (tD X.K X.mg Wx g)) : PE X (.BoolOp .And (a :: b :: rest) pos) (tD X.K X.mg Wx (fAnd f g)) := PE.imp (pe_and ha hb) fun σ H Q t => by
  obtain ⟨Hi, ι, ρ, m, RR, g⟩ := t
  refine ⟨Hi, ι, ρ, m, RR, good_bind g fun x m1 Hi1 ι1 v H1 st M rv g1 => ?_⟩
  split at g1
  · cases rv; exact ⟨true, rfl, ⟨Hi1, ι1, ρ, m1, RR.step st M, g1⟩⟩
  · cases rv; exact ⟨false, rfl, g1.here (rep := RepW X.K X.mg) M (.bl false)⟩
  · exact g1.elim
end
/-! ### statements -/
section
variable (K : PySem.W.Frag) (mg : Str → Option Value)
def GoodS (Wx : WX) (E : Ends) (Hi : Hp) (ι : List Addr) (H : Hp) (r : RS) : Prop := match r with
  | .nx ρ m => ∀ (Hi' : Hp) (ι' : List Addr) (σ' : L2.St) (H' : Hp), Step Hi ι H Hi' ι' H' → Rel K mg Hi' ι' ρ m σ' H' → E.nx σ' H'
  | .bk ρ m => ∀ (Hi' : Hp) (ι' : List Addr) (σ' : L2.St) (H' : Hp), Step Hi ι H Hi' ι' H' → Rel K mg Hi' ι' ρ m σ' H' → E.bk σ' H'
  | .ct ρ m => ∀ (Hi' : Hp) (ι' : List Addr) (σ' : L2.St) (H' : Hp), Step Hi ι H Hi' ι' H' → Rel K mg Hi' ι' ρ m σ' H' → E.ct σ' H'
  | .rt w m => ∀ (Hi' : Hp) (ι' : List Addr) (v : V) (H' : Hp), Step Hi ι H Hi' ι' H' → Mok K mg Hi' ι' m H' → RepW K mg Hi' ι' v w → E.rt v H'
  | .xc c ns vs ρ m => ∀ (Hi' : Hp) (ι' : List Addr) (σ' : L2.St) (H' : Hp) (C dx : Addr) (fs : List V), Step Hi ι H Hi' ι' H' → Rel K mg Hi' ι' ρ m σ' H' → mg c = some (.ref C) → Hi' dx = some (.xd (ns.zip fs)) → ns.length = fs.length → RepL K mg Hi' fs vs → Wx (.ref C) (some dx) σ' H'
  | .bad => False
def tDS (Wx : WX) (f : Ex) : TS := fun E σ H => ∃ Hi ι ρ m, Rel K mg Hi ι ρ m σ H ∧ GoodS K mg Wx E Hi ι H (f ρ m)
def tDG (g : Tg) : TG := fun v σ H Q => ∃ Hi ι ρ m w, Rel K mg Hi ι ρ m σ H ∧ RepW K mg Hi ι v w ∧ (match g w ρ m with
  | .ok ρ' m' => ∀ (Hi' : Hp) (ι' : List Addr) (σ' : L2.St) (H' : Hp), Step Hi ι H Hi' ι' H' → Rel K mg Hi' ι' ρ' m' σ' H' → Q σ' H'
  | _ => False)
def tDGs (g : TgL) : TGs := fun vs σ H Q => ∃ Hi ι ρ m ws, Rel K mg Hi ι ρ m σ H ∧ RepWs K mg Hi ι vs ws ∧ (match g ws ρ m with
  | .ok ρ' m' => ∀ (Hi' : Hp) (ι' : List Addr) (σ' : L2.St) (H' : Hp), Step Hi ι H Hi' ι' H' → Rel K mg Hi' ι' ρ' m' σ' H' → Q σ' H'
  | _ => False)
end
section
variable {K : PySem.W.Frag} {mg : Str → Option Value} {Wx : WX} {E : Ends} {σ : L2.St} {Hi Hi' H H' : Hp} {ι ι' : List Addr} {m m' : Mem} {ρ : Env}
theorem GoodS.step {r : RS} (h : GoodS K mg Wx E Hi ι H r) (s : Step Hi ι H Hi' ι' H') : GoodS K mg Wx E Hi' ι' H' r := by
  cases r with
  | nx ρ m => exact fun a b c d st => h a b c d (s.trans st)
  | bk ρ m => exact fun a b c d st => h a b c d (s.trans st)
  | ct ρ m => exact fun a b c d st => h a b c d (s.trans st)
  | rt w m => exact fun a b c d st => h a b c d (s.trans st)
  | xc x ns vs ρ m => exact fun a b c d e f g st => h a b c d e f g (s.trans st)
  | bad => exact h
theorem goodS_lift {A α : Type} {rep : Hp → List Addr → A → α → Prop} {r : R α} {k : α → Mem → RS} {Q1 : A → Hp → Prop} (RR : Rel K mg Hi ι ρ m σ H) (h : GoodS K mg Wx E Hi ι H (r.lift ρ k))
    (f : ∀ (a : α) (m' : Mem) (Hi' : Hp) (ι' : List Addr) (x : A) (H' : Hp), Step Hi ι H Hi' ι' H' → Mok K mg Hi' ι' m' H' → rep Hi' ι' x a → GoodS K mg Wx E Hi' ι' H' (k a m') → Q1 x H') : Good K mg rep Wx σ Hi ι H r Q1 := by
  cases r with
  | ok a m' => exact fun Hi2 ι2 x H2 st M rx => f a m' Hi2 ι2 x H2 st M rx (GoodS.step h st)
  | exc c ns vs m' => exact fun Hi2 ι2 H2 C dx fs st M => h Hi2 ι2 σ H2 C dx fs st (RR.step st M)
  | bad => exact h
theorem PS.imp {X : Cx} {st : Stmt} {t t' : TS} (h : PS X st t) (hi : ∀ D σ H, t' D σ H → t D σ H) : PS X st t' := ⟨fun pins s σ H D I q => h.run pins s σ H D I (hi D σ H q)⟩
theorem PSs.imp {X : Cx} {st : List Stmt} {t t' : TS} (h : PSs X st t) (hi : ∀ D σ H, t' D σ H → t D σ H) : PSs X st t' := ⟨fun pins s σ H D I q => h.run pins s σ H D I (hi D σ H q)⟩
theorem PG.imp {X : Cx} {e : Expr} {t t' : TG} (h : PG X e t) (hi : ∀ v σ H Q, t' v σ H Q → t v σ H Q) : PG X e t' := ⟨fun pins s σ H v u Q I r q => h.run pins s σ H v u Q I r (hi v σ H Q q)⟩
theorem PGs.imp {X : Cx} {e : List Expr} {t t' : TGs} (h : PGs X e t) (hi : ∀ v σ H Q, t' v σ H Q → t v σ H Q) : PGs X e t' := ⟨fun pins s σ H v u Q I r q => h.run pins s σ H v u Q I r (hi v σ H Q q)⟩
end
section
variable {X : Cx} {Wx : WX} {kk : Nat}
theorem pssd_nil : PSs X [] (tDS X.K X.mg Wx sNext) := PSs.imp pss_nil fun D σ H t => by
  obtain ⟨Hi, ι, ρ, m, RR, g⟩ := t
  exact g _ _ _ _ Step.refl RR
theorem pssd_one {st : Stmt} {f : Ex} (h : PS X st (tDS X.K X.mg Wx f)) : PSs X [st] (tDS X.K X.mg Wx f) := pss_one h
theorem pssd_cons {st : Stmt} {rest : List Stmt} {f g : Ex} (h1 : PS X st (tDS X.K X.mg Wx f)) (h2 : PSs X rest (tDS X.K X.mg Wx g)) : PSs X (st :: rest) (tDS X.K X.mg Wx (sSeq f g)) := PSs.imp (pss_cons h1 h2) fun D σ H t => by
  obtain ⟨Hi, ι, ρ, m, RR, gd⟩ := t
  refine ⟨Hi, ι, ρ, m, RR, ?_⟩
  unfold sSeq at gd
  cases e : f ρ m with
  | nx ρ' m' =>
    rw [e] at gd
    intro Hi2 ι2 σ2 H2 st R2
    exact ⟨Hi2, ι2, ρ', m', R2, GoodS.step gd st⟩
  | bk ρ' m' => rw [e] at gd; exact gd
  | ct ρ' m' => rw [e] at gd; exact gd
  | rt w m' => rw [e] at gd; exact gd
  | xc c ns vs ρ' m' => rw [e] at gd; exact gd
  | bad => rw [e] at gd; exact gd
theorem psd_if {c : Expr} {a b : List Stmt} {pos : Pos} {t : EvT} {f g : Ex} (hc : PT X c (tDT X.K X.mg Wx t)) (ha : PSs X a (tDS X.K X.mg Wx f)) (hb : PSs X b (tDS X.K X.mg Wx g)) : PS X (.If c a b pos) (tDS X.K X.mg Wx (sIf t f g)) := PS.imp (ps_if hc ha hb) fun D σ H t => by
  obtain ⟨Hi, ι, ρ, m, RR, g⟩ := t
  refine ⟨Hi, ι, ρ, m, RR, goodS_lift RR g fun x m1 Hi1 ι1 v H1 st M rv g1 => ?_⟩
  cases rv
  cases x with
  | true => exact ⟨Hi1, ι1, ρ, m1, RR.step st M, g1⟩
  | false => exact ⟨Hi1, ι1, ρ, m1, RR.step st M, g1⟩
theorem psd_ret {e : Expr} {pos : Pos} {f : Ev} (he : PE X e (tD X.K X.mg Wx f)) : PS X (.Return (some e) pos) (tDS X.K X.mg Wx (sRet f)) := PS.imp (ps_ret he) fun D σ H t => by
  obtain ⟨Hi, ι, ρ, m, RR, g⟩ := t
  exact ⟨Hi, ι, ρ, m, RR, goodS_lift RR g fun x m1 Hi1 ι1 v H1 st M rv g1 => g1 _ _ _ _ Step.refl M rv⟩
/-! targets -/
theorem pgd_name {i : Nat} {x : Str} {pos : Pos} (h : PG X (.Name x pos) (gName i)) : PG X (.Name x pos) (tDG X.K X.mg (tgName i)) := PG.imp h fun v σ H Q t => by
  obtain ⟨Hi, ι, ρ, m, w, RR, rw', g⟩ := t
  exact g _ _ _ _ Step.refl ⟨RR.mok, RR.slots.set i rw'⟩
theorem pgsd_nil : PGs X [] (tDGs X.K X.mg tgNil) := PGs.imp pgs_nil fun v σ H Q t => by
  obtain ⟨Hi, ι, ρ, m, ws, RR, rw', g⟩ := t
  cases rw' with
  | nil => exact ⟨rfl, g _ _ _ _ Step.refl RR⟩
  | cons a b => exact g.elim
theorem pgsd_cons {e : Expr} {es : List Expr} {f : Tg} {g : TgL} (h1 : PG X e (tDG X.K X.mg f)) (h2 : PGs X es (tDGs X.K X.mg g)) (hs : (assignEach (e :: es) X.env).map (·.2) = assign e X.env :: (assignEach es X.env).map (·.2) := by rfl) : PGs X (e :: es) (tDGs X.K X.mg (tgCons f g)) :=
  PGs.imp (pgs_cons h1 h2 hs) fun v σ H Q t => by
    obtain ⟨Hi, ι, ρ, m, ws, RR, rw', gd⟩ := t
    cases rw' with
    | nil => exact gd.elim
    | cons a b =>
      rename_i v vs w ws
      refine ⟨v, vs, rfl, Hi, ι, ρ, m, w, RR, a, ?_⟩
      unfold tgCons at gd
      cases e : f w ρ m with
      | ok ρ' m' =>
        simp only [e, R.bind_ok] at gd
        intro Hi2 ι2 σ2 H2 st R2
        refine ⟨Hi2, ι2, ρ', m', ws, R2, b.step st, ?_⟩
        cases e2 : g ws ρ' m' with
        | ok ρ2 m2 =>
          rw [e2] at gd
          exact fun a b c d st2 => gd a b c d (st.trans st2)
        | exc c ns vs m2 => rw [e2] at gd; exact gd
        | bad => rw [e2] at gd; exact gd
      | exc c ns vs m2 => simp only [e, R.bind_exc] at gd
      | bad => simp only [e, R.bind_bad] at gd
theorem asg_imp {f : Ev} {g : Tg} {D : Ends} {σ : L2.St} {H : Hp} (t : tDS X.K X.mg Wx (sAsg f g) D σ H) : tAsg (tD X.K X.mg Wx f) (tDG X.K X.mg g) D σ H := by
  obtain ⟨Hi, ι, ρ, m, RR, gd⟩ := t
  refine ⟨Hi, ι, ρ, m, RR, goodS_lift RR gd fun x m1 Hi1 ι1 v H1 st M rv g1 => ⟨Hi1, ι1, ρ, m1, x, RR.step st M, rv, ?_⟩⟩
  cases e : g x ρ m1 with
  | ok ρ2 m2 =>
    rw [e] at g1
    exact g1
  | exc c ns vs m2 => rw [e] at g1; exact g1
  | bad => rw [e] at g1; exact g1
theorem psd_asg {tg e : Expr} {pos : Pos} {f : Ev} {g : Tg} (he : PE X e (tD X.K X.mg Wx f)) (hg : PG X tg (tDG X.K X.mg g)) (hs : swapsWithSole [tg] e pos.line X.env = pure false := by rfl) (hw : swappedStores [tg] e X.env = pure none := by rfl)
    (h1 : (assignEach [tg] X.env).map (·.2) = [assign tg X.env] := by rfl) : PS X (.Assign [tg] e pos) (tDS X.K X.mg Wx (sAsg f g)) := PS.imp (ps_asg he hg hs hw h1) fun D σ H t => asg_imp t
theorem psd_set {i : Nat} {x : Str} {e : Expr} {pos pos' : Pos} {f : Ev} (hN : X.N.Nodup) (hi : X.N[i]? = some x) (hx : Loc X.env.scope x) (he : PE X e (tD X.K X.mg Wx f)) (hs : swapsWith e (some (.Name x pos')) pos.line X.env = pure false := by rfl) (hf : X.fn x = true ∨ X.env.scope.names.lookup x = some .local := by first | exact .inl rfl | exact .inr rfl | assumption) :
    PS X (.Assign [.Name x pos'] e pos) (tDS X.K X.mg Wx (sAsg f (tgName i))) := PS.imp (ps_set hN hi hx he hs hf) fun D σ H t => by
  obtain ⟨Hi, ι, ρ, m, RR, gd⟩ := t
  refine ⟨Hi, ι, ρ, m, RR, goodS_lift RR gd fun x m1 Hi1 ι1 v H1 st M rv g1 => ?_⟩
  exact g1 _ _ _ _ Step.refl ⟨M, (RR.slots.step st).set i rv⟩
theorem psd_par {i j : Nat} {x y : Str} {a b : Expr} {f : EvL} {px py pt pos : Pos} {kt k2 pt2} (h : ∀ ta : TA, PA X [a, b] ta → PS X (.Assign [.Tuple [.Name x px, .Name y py] kt pt] (.Tuple [a, b] k2 pt2) pos) (tPar i j ta)) (ha : PA X [a, b] (tDA X.K X.mg Wx f)) :
    PS X (.Assign [.Tuple [.Name x px, .Name y py] kt pt] (.Tuple [a, b] k2 pt2) pos) (tDS X.K X.mg Wx (sPar i j f)) := PS.imp (h _ ha) fun D σ H t => by
  obtain ⟨Hi, ι, ρ, m, RR, gd⟩ := t
  refine ⟨Hi, ι, ρ, m, RR, goodS_lift RR gd fun ws m1 Hi1 ι1 vs H1 st M rv g1 => ?_⟩
  split at g1
  · cases rv with
    | cons a1 b1 =>
      cases b1 with
      | cons a2 b2 =>
        cases b2
        exact ⟨_, _, rfl, g1 _ _ _ _ Step.refl ⟨M, ((RR.slots.step st).set i a1).set j a2⟩⟩
  · exact g1.elim
/-! while -/
theorem psd_while {c : Expr} {body : List Stmt} {pos : Pos} {fuel : Env → Mem → Nat} {t : EvT} {b : Ex} (hp : PassesOwn (model X.prog X.w) X.A X.env X.xe) (hc : PT X c (tDT X.K X.mg Wx t)) (hb : PSs X body (tDS X.K X.mg Wx b)) : PS X (.While c body [] pos) (tDS X.K X.mg Wx (sWhile fuel t b)) :=
  PS.imp (ps_while hp hc hb) fun D σ H t0 => by
    obtain ⟨Hi, ι, ρ, m, RR, gd⟩ := t0
    refine ⟨fun n σ' H' => ∃ Hi' ι' ρ' m', Rel X.K X.mg Hi' ι' ρ' m' σ' H' ∧ GoodS X.K X.mg Wx D Hi' ι' H' (whl t b n ρ' m'), ⟨fuel ρ m, Hi, ι, ρ, m, RR, gd⟩, ?_⟩
    rintro n σ' H' ⟨Hi', ι', ρ', m', RR', gd'⟩
    cases n with
    | zero => exact gd'.elim
    | succ n =>
      refine ⟨Hi', ι', ρ', m', RR', goodS_lift RR' gd' fun x m1 Hi1 ι1 v H1 st M rv g1 => ?_⟩
      cases rv
      cases x with
      | false => exact g1 _ _ _ _ Step.refl (RR'.step st M)
      | true =>
        refine ⟨fun σ'' H'' => ∃ Hi' ι' ρ' m', Rel X.K X.mg Hi' ι' ρ' m' σ'' H'' ∧ GoodS X.K X.mg Wx D Hi' ι' H'' (whl t b n ρ' m'), fun σ'' H'' h => ⟨n, Nat.lt_succ_self n, h⟩, Hi1, ι1, ρ', m1, RR'.step st M, ?_⟩
        simp only [if_true] at g1
        cases e : b ρ' m1 with
        | nx ρ2 m2 =>
          rw [e] at g1
          exact fun Hi3 ι3 σ3 H3 st3 R3 => ⟨Hi3, ι3, ρ2, m2, R3, GoodS.step g1 st3⟩
        | ct ρ2 m2 =>
          rw [e] at g1
          exact fun Hi3 ι3 σ3 H3 st3 R3 => ⟨Hi3, ι3, ρ2, m2, R3, GoodS.step g1 st3⟩
        | bk ρ2 m2 => rw [e] at g1; exact g1
        | rt w m2 => rw [e] at g1; exact g1
        | xc c ns vs ρ2 m2 => rw [e] at g1; exact g1
        | bad => rw [e] at g1; exact g1
end
end GD
/-! GD4: loops, comprehensions, defs. -/
namespace GD
open PySem PySem.Spec PyProof.Rows L2
section
variable (K : PySem.W.Frag) (mg : Str → Option Value)
/-- J walks the items ws, whatever is made or changed meanwhile -/
structure ItOk (Hi : Hp) (ι : List Addr) (J : It) (ws : List W) : Prop where
  go : ∀ (i : Nat) (Hi1 : Hp) (ι1 : List Addr) (m1 : Mem) (H1 : Hp), Same Hi Hi1 → ι <+: ι1 → Mok K mg Hi1 ι1 m1 H1 → i < ws.length → J.go i H1
  stop : ∀ (i : Nat) (Hi1 : Hp) (ι1 : List Addr) (m1 : Mem) (H1 : Hp), Same Hi Hi1 → ι <+: ι1 → Mok K mg Hi1 ι1 m1 H1 → ws.length ≤ i → J.stop i H1
  yld : ∀ (i : Nat) (w : W) (Hi1 : Hp) (ι1 : List Addr) (m1 : Mem) (H1 : Hp) (x : V) (H2 : Hp), Same Hi Hi1 → ι <+: ι1 → Mok K mg Hi1 ι1 m1 H1 → ws[i]? = some w → J.yld i H1 x H2 → ∃ Hi2, Step Hi1 ι1 H1 Hi2 ι1 H2 ∧ Mok K mg Hi2 ι1 m1 H2 ∧ RepW K mg Hi2 ι1 x w
def tDI (Wx : WX) (f : EvL) : TI := fun σ H Q => ∃ Hi ι ρ m, Rel K mg Hi ι ρ m σ H ∧ Good K mg (ItOk K mg) Wx σ Hi ι H (f ρ m) Q
end
section
variable {X : Cx} {Wx : WX} {kk : Nat}
theorem PI.imp {tg iter : Expr} {t t' : TI} (h : PI X tg iter t) (hi : ∀ σ H Q, t' σ H Q → t σ H Q) : PI X tg iter t' := ⟨fun pins s σ H R I q => h.run pins s σ H R I (hi σ H R q)⟩
theorem drop_cons {α : Type} {ws : List α} {i : Nat} {w : α} {r : List α} (h : ws.drop i = w :: r) : i < ws.length ∧ ws[i]? = some w ∧ ws.drop (i + 1) = r := by
  have h1 : i < ws.length := by
    apply Nat.lt_of_not_le
    intro hl
    rw [List.drop_eq_nil_of_le hl] at h
    cases h
  rw [List.drop_eq_getElem_cons h1] at h
  injection h with h2 h3
  exact ⟨h1, by rw [List.getElem?_eq_getElem h1, h2], h3⟩
theorem drop_nil {α : Type} {ws : List α} {i : Nat} (h : ws.drop i = []) : ws.length ≤ i := by
  rw [List.drop_eq_nil_iff] at h
  exact h
theorem psd_for {tg iter : Expr} {body : List Stmt} {pos : Pos} {it : EvL} {g : Tg} {b : Ex} (hp : PassesOwn (model X.prog X.w) X.A X.env X.xe) (hc : X.calm = true) (hi : PI X tg iter (tDI X.K X.mg Wx it)) (hg : PG X tg (tDG X.K X.mg g)) (hb : PSs X body (tDS X.K X.mg Wx b))
    (hs : ∀ x, foldedSetIterable iter X.env x = pure x := by intro _; rfl) : PS X (.For tg iter body [] pos) (tDS X.K X.mg Wx (sFor it g b)) := PS.imp (ps_for hp hc hi hg hb hs) fun D σ H t0 => by
  obtain ⟨Hi, ι, ρ, m, RR, gd⟩ := t0
  refine ⟨Hi, ι, ρ, m, RR, goodS_lift RR gd fun ws m1 Hi1 ι1 J H1 st M rJ g1 => ?_⟩
  refine ⟨fun i n σ' H' => ∃ Hi' ι' ρ' m', Same Hi1 Hi' ∧ ι1 <+: ι' ∧ Rel X.K X.mg Hi' ι' ρ' m' σ' H' ∧ n = ws.length - i ∧ GoodS X.K X.mg Wx D Hi' ι' H' (loop g b (ws.drop i) ρ' m'), ⟨_, Hi1, ι1, ρ, m1, Same.refl _, List.prefix_refl _, RR.step st M, rfl, g1⟩, ?_⟩
  rintro i n σ' H' ⟨Hi', ι', ρ', m', sm, pr, R', rfl, gd'⟩
  cases e : ws.drop i with
  | nil =>
    rw [e] at gd'
    exact .inl ⟨rJ.stop i _ _ _ _ sm pr R'.mok (drop_nil e), gd' _ _ _ _ Step.refl R'⟩
  | cons w r =>
    obtain ⟨h1, h2, h3⟩ := drop_cons e
    rw [e] at gd'
    refine .inr ⟨rJ.go i _ _ _ _ sm pr R'.mok h1, fun σ'' H'' => ∃ Hi2 ι2 ρ2 m2, Same Hi1 Hi2 ∧ ι1 <+: ι2 ∧ Rel X.K X.mg Hi2 ι2 ρ2 m2 σ'' H'' ∧ GoodS X.K X.mg Wx D Hi2 ι2 H'' (loop g b (ws.drop (i + 1)) ρ2 m2),
      fun σ'' H'' ⟨Hi2, ι2, ρ2, m2, a1, a2, a3, a4⟩ => ⟨ws.length - (i + 1), by omega, Hi2, ι2, ρ2, m2, a1, a2, a3, rfl, a4⟩, fun x H2 hy => ?_⟩
    obtain ⟨Hi2, st2, M2, rx⟩ := rJ.yld i w _ _ _ _ x H2 sm pr R'.mok h2 hy
    refine ⟨Hi2, ι', ρ', m', w, R'.step st2 M2, rx, ?_⟩
    unfold loop at gd'
    cases e2 : g w ρ' m' with
    | exc c ns vs m2 => rw [e2] at gd'; exact gd'.elim
    | bad => rw [e2] at gd'; exact gd'.elim
    | ok ρ2 m2 =>
      rw [e2] at gd'
      simp only [noX, R.lift_ok] at gd'
      intro Hi3 ι3 σ3 H3 st3 R3
      refine ⟨Hi3, ι3, ρ2, m2, R3, ?_⟩
      have sm3 := (sm.trans st2.imm).trans st3.imm
      have pr3 := pr.trans st3.pre
      have gd3 := GoodS.step gd' (st2.trans st3)
      rw [h3]
      cases e4 : b ρ2 m2 with
      | nx ρ4 m4 =>
        rw [e4] at gd3
        exact fun Hi5 ι5 σ5 H5 st5 R5 => ⟨Hi5, ι5, ρ4, m4, sm3.trans st5.imm, pr3.trans st5.pre, R5, GoodS.step gd3 st5⟩
      | ct ρ4 m4 =>
        rw [e4] at gd3
        exact fun Hi5 ι5 σ5 H5 st5 R5 => ⟨Hi5, ι5, ρ4, m4, sm3.trans st5.imm, pr3.trans st5.pre, R5, GoodS.step gd3 st5⟩
      | bk ρ4 m4 => rw [e4] at gd3; exact gd3
      | rt w m4 => rw [e4] at gd3; exact gd3
      | xc c ns vs ρ4 m4 => rw [e4] at gd3; exact gd3
      | bad => rw [e4] at gd3; exact gd3
/-! ### what is walked -/
/-- a list or a tuple -/
def iSeq (a : Ev) : EvL := fun ρ m => (a ρ m).bind fun w m => match w with
  | .d (.lst xs) => .ok (xs.map .d) m
  | .d (.fls xs) => .ok (xs.map .d) m
  | .d (.tup xs) => .ok (xs.map .d) m
  | _ => .bad
theorem PI.or {tg iter : Expr} {t t' : TI} (h : PI X tg iter t) (h' : PI X tg iter t') : PI X tg iter (fun σ H Q => t σ H Q ∨ t' σ H Q) := ⟨fun pins s σ H R I q => q.elim (h.run pins s σ H R I) (h'.run pins s σ H R I)⟩
theorem get_map {ds : List D} {i : Nat} {w : W} (h : (ds.map W.d)[i]? = some w) : ∃ x, ds[i]? = some x ∧ w = .d x := by
  rw [List.getElem?_map] at h
  cases e : ds[i]? with
  | none => rw [e] at h; cases h
  | some x => rw [e] at h; cases h; exact ⟨x, rfl, rfl⟩
theorem itOk_list {K : PySem.W.Frag} {mg : Str → Option Value} {Hi : Hp} {ι : List Addr} {a : Addr} {vs : List V} {ds : List D} (s : SqL K Hi a vs) (r : RepL K mg Hi vs ds) : ItOk K mg Hi ι (Itl K a) (ds.map .d) where
  go := fun i Hi1 ι1 m1 H1 sm _ M hi => by
    have hl : i < vs.length := by rw [r.length]; simpa using hi
    exact ⟨vs, vs[i], sqL_mono (sm.trans M.sub) s, by simp [hl]⟩
  stop := fun i Hi1 ι1 m1 H1 sm _ M hi => ⟨vs, sqL_mono (sm.trans M.sub) s, by rw [r.length]; simpa using hi⟩
  yld := fun i w Hi1 ι1 m1 H1 x H2 sm pr M hw hy => by
    obtain ⟨e, hy⟩ := hy
    subst e
    have hv := hy vs (sqL_mono (sm.trans M.sub) s)
    obtain ⟨d, hd, rfl⟩ := get_map hw
    obtain ⟨v, h1, h2⟩ := r.get hd
    rw [hv] at h1
    cases h1
    exact ⟨Hi1, Step.refl, M, h2.mono sm⟩
theorem itOk_tup {K : PySem.W.Frag} {mg : Str → Option Value} {Hi : Hp} {ι : List Addr} {a : Addr} {vs : List V} {ds : List D} (s : SqT K Hi a vs) (r : RepL K mg Hi vs ds) : ItOk K mg Hi ι (Itt K a) (ds.map .d) where
  go := fun i Hi1 ι1 m1 H1 sm _ M hi => by
    have hl : i < vs.length := by rw [r.length]; simpa using hi
    exact ⟨vs, vs[i], sqT_mono (sm.trans M.sub) s, by simp [hl]⟩
  stop := fun i Hi1 ι1 m1 H1 sm _ M hi => ⟨vs, sqT_mono (sm.trans M.sub) s, by rw [r.length]; simpa using hi⟩
  yld := fun i w Hi1 ι1 m1 H1 x H2 sm pr M hw hy => by
    obtain ⟨e, hy⟩ := hy
    subst e
    have hv := hy vs (sqT_mono (sm.trans M.sub) s)
    obtain ⟨d, hd, rfl⟩ := get_map hw
    obtain ⟨v, h1, h2⟩ := r.get hd
    rw [hv] at h1
    cases h1
    exact ⟨Hi1, Step.refl, M, h2.mono sm⟩
theorem pid_seq {tg l : Expr} {f : Ev} (hl : PE X l (tD X.K X.mg Wx f)) : PI X tg l (tDI X.K X.mg Wx (iSeq f)) := PI.imp (PI.or (pi_list hl) (pi_tup hl)) fun σ H Q t => by
  obtain ⟨Hi, ι, ρ, m, RR, gd⟩ := t
  unfold iSeq at gd
  cases e : f ρ m with
  | bad => rw [e] at gd; exact gd.elim
  | exc c ns vs m1 => rw [e] at gd; exact .inl ⟨Hi, ι, ρ, m, RR, by rw [e]; exact gd⟩
  | ok w m1 =>
    rw [e, R.bind_ok] at gd
    split at gd
    · rename_i xs
      refine .inl ⟨Hi, ι, ρ, m, RR, ?_⟩
      rw [e]
      intro Hi1 ι1 v H1 st M rv
      cases rv with
      | lst s r => exact ⟨_, rfl, ⟨_, .inl (.inl (M.sub _ _ s))⟩, gd _ _ _ _ st M (itOk_list (.inl (.inl s)) r)⟩
    · rename_i xs
      refine .inl ⟨Hi, ι, ρ, m, RR, ?_⟩
      rw [e]
      intro Hi1 ι1 v H1 st M rv
      cases rv with
      | fls s r => exact ⟨_, rfl, ⟨_, sqL_mono M.sub s⟩, gd _ _ _ _ st M (itOk_list s r)⟩
    · rename_i xs
      refine .inr ⟨Hi, ι, ρ, m, RR, ?_⟩
      rw [e]
      intro Hi1 ι1 v H1 st M rv
      cases rv with
      | tup s r => exact ⟨_, rfl, ⟨_, sqT_mono M.sub s⟩, gd _ _ _ _ st M (itOk_tup s r)⟩
    · exact gd.elim
/-- range(a), range(a, b) -/
def rngL (i j : Int) : List W := (List.range (j - i).toNat).map fun (k : Nat) => W.d (.int (i + (k : Int)))
def iRange1 (a : EvL) : EvL := fun ρ m => (a ρ m).bind fun ws m => match ws with
  | [.d (.int j)] => if j < 2 ^ 62 ∧ -(2 ^ 62) ≤ j then .ok (rngL 0 j) m else .bad
  | _ => .bad
theorem itOk_rng {K : PySem.W.Frag} {mg : Str → Option Value} {Hi : Hp} {ι : List Addr} {i j : Int} : ItOk K mg Hi ι (Itr i (j - i).toNat) (rngL i j) where
  go := fun k Hi1 ι1 m1 H1 sm _ M hi => by
    have hi' : k < (rngL i j).length := hi
    unfold rngL at hi'
    rw [List.length_map, List.length_range] at hi'
    exact hi'
  stop := fun k Hi1 ι1 m1 H1 sm _ M hi => by
    have hi' : (rngL i j).length ≤ k := hi
    unfold rngL at hi'
    rw [List.length_map, List.length_range] at hi'
    exact hi'
  yld := fun k w Hi1 ι1 m1 H1 x H2 sm pr M hw hy => by
    obtain ⟨e, hy⟩ := hy
    subst e hy
    refine ⟨Hi1, Step.refl, M, ?_⟩
    unfold rngL at hw
    rw [List.getElem?_map] at hw
    cases e : (List.range (j - i).toNat)[k]? with
    | none => rw [e] at hw; cases hw
    | some n =>
      rw [e] at hw
      cases hw
      have e2 : k = n := by
        obtain ⟨h1, h2⟩ := List.getElem?_eq_some_iff.mp e
        simpa using h2
      subst e2
      exact .int _
theorem pid_range1 {tg a : Expr} {p pos : Pos} {f : EvL} (hg : Gl X "range") (hm : X.mg "range" = none) (ha : PA X [a] (tDA X.K X.mg Wx f)) (hs : starEach [a] X.env = [(false, eval a X.env)] := by rfl) : PI X tg (.Call (.Name "range" p) [a] [] pos) (tDI X.K X.mg Wx (iRange1 f)) :=
  PI.imp (pi_range1 hg hm ha hs) fun σ H Q t => by
    obtain ⟨Hi, ι, ρ, m, RR, gd⟩ := t
    refine ⟨Hi, ι, ρ, m, RR, good_bind gd fun ws m1 Hi1 ι1 vs H1 st M rv g1 => ?_⟩
    split at g1
    · rename_i j
      split at g1
      · rename_i hj
        cases rv with
        | cons r1 r2 =>
          cases r2
          cases r1
          have z := itOk_rng (K := X.K) (mg := X.mg) (Hi := Hi1) (ι := ι1) (i := 0) (j := j)
          rw [Int.sub_zero] at z
          exact ⟨j, rfl, hj.2, hj.1, g1.here M z⟩
      · exact g1.elim
    · exact g1.elim
end
/-! ### comprehensions -/
section
variable (K : PySem.W.Frag) (mg : Str → Option Value)
/-- a target of a comprehension: it stores to the slots vs alone -/
def tDGv (vs : List Nat) (g : Tg) : TG := fun v σ H Q => ∃ Hi ι ρ m w, Rel K mg Hi ι ρ m σ H ∧ RepW K mg Hi ι v w ∧ (match g w ρ m with
  | .ok ρ' m' => ∀ (Hi' : Hp) (ι' : List Addr) (σ' : L2.St) (H' : Hp), Step Hi ι H Hi' ι' H' → Rel K mg Hi' ι' ρ' m' σ' H' → L2.wipe σ' vs = L2.wipe σ vs → Q σ' H'
  | _ => False)
def tDGsv (vs : List Nat) (g : TgL) : TGs := fun us σ H Q => ∃ Hi ι ρ m ws, Rel K mg Hi ι ρ m σ H ∧ RepWs K mg Hi ι us ws ∧ (match g ws ρ m with
  | .ok ρ' m' => ∀ (Hi' : Hp) (ι' : List Addr) (σ' : L2.St) (H' : Hp), Step Hi ι H Hi' ι' H' → Rel K mg Hi' ι' ρ' m' σ' H' → L2.wipe σ' vs = L2.wipe σ vs → Q σ' H'
  | _ => False)
end
theorem wipe_set {σ : L2.St} {i : Nat} {o : Option V} : ∀ {vs : List Nat}, i ∈ vs → L2.wipe (σ.set i o) vs = L2.wipe σ vs
  | [], h => by cases h
  | v :: vs, h => by
    unfold L2.wipe
    by_cases hv : i ∈ vs
    · rw [wipe_set hv]
    · have e : v = i := by
        rcases List.mem_cons.mp h with h | h
        · exact h.symm
        · exact absurd h hv
      subst e
      have com : ∀ us : List Nat, v ∉ us → L2.wipe (σ.set v o) us = (L2.wipe σ us).set v o := by
        intro us
        induction us with
        | nil => intro _; rfl
        | cons u us ih =>
          intro hu
          unfold L2.wipe
          rw [ih (fun q => hu (List.mem_cons_of_mem _ q)), List.set_comm]
          intro q
          exact hu (by rw [q]; exact List.mem_cons_self)
      rw [com vs hv, List.set_set]
theorem wipe_wipe (σ : L2.St) : ∀ vs : List Nat, L2.wipe (L2.wipe σ vs) vs = L2.wipe σ vs := by
  intro vs
  have h : ∀ us : List Nat, (∀ u ∈ us, u ∈ vs) → L2.wipe (L2.wipe σ us) vs = L2.wipe σ vs := by
    intro us
    induction us with
    | nil => intro _; rfl
    | cons u us ih =>
      intro hu
      show L2.wipe ((L2.wipe σ us).set u none) vs = _
      rw [wipe_set (hu u List.mem_cons_self)]
      exact ih fun z hz => hu z (List.mem_cons_of_mem _ hz)
  exact h vs fun _ h => h
section
variable {X : Cx} {Wx : WX} {kk : Nat} {vs : List Nat}
theorem pgv_name {i : Nat} {x : Str} {pos : Pos} (h : PG X (.Name x pos) (gName i)) (hi : i ∈ vs) : PG X (.Name x pos) (tDGv X.K X.mg vs (tgName i)) := PG.imp h fun v σ H Q t => by
  obtain ⟨Hi, ι, ρ, m, w, RR, rw', g⟩ := t
  exact g _ _ _ _ Step.refl ⟨RR.mok, RR.slots.set i rw'⟩ (wipe_set hi)
theorem pgsv_nil : PGs X [] (tDGsv X.K X.mg vs tgNil) := PGs.imp pgs_nil fun v σ H Q t => by
  obtain ⟨Hi, ι, ρ, m, ws, RR, rw', g⟩ := t
  cases rw' with
  | nil => exact ⟨rfl, g _ _ _ _ Step.refl RR rfl⟩
  | cons a b => exact g.elim
theorem pgsv_cons {e : Expr} {es : List Expr} {f : Tg} {g : TgL} (h1 : PG X e (tDGv X.K X.mg vs f)) (h2 : PGs X es (tDGsv X.K X.mg vs g)) (hs : (assignEach (e :: es) X.env).map (·.2) = assign e X.env :: (assignEach es X.env).map (·.2) := by rfl) : PGs X (e :: es) (tDGsv X.K X.mg vs (tgCons f g)) :=
  PGs.imp (pgs_cons h1 h2 hs) fun v σ H Q t => by
    obtain ⟨Hi, ι, ρ, m, ws, RR, rw', gd⟩ := t
    cases rw' with
    | nil => exact gd.elim
    | cons a b =>
      rename_i v vs w ws
      refine ⟨v, vs, rfl, Hi, ι, ρ, m, w, RR, a, ?_⟩
      unfold tgCons at gd
      cases e : f w ρ m with
      | ok ρ' m' =>
        simp only [e, R.bind_ok] at gd
        intro Hi2 ι2 σ2 H2 st R2 ew
        refine ⟨Hi2, ι2, ρ', m', ws, R2, b.step st, ?_⟩
        cases e2 : g ws ρ' m' with
        | ok ρ2 m2 =>
          rw [e2] at gd
          exact fun a b c d st2 r2 ew2 => gd a b c d (st.trans st2) r2 (ew2.trans ew)
        | exc c ns vs m2 => rw [e2] at gd; exact gd
        | bad => rw [e2] at gd; exact gd
      | exc c ns vs m2 => simp only [e, R.bind_exc] at gd
      | bad => simp only [e, R.bind_bad] at gd
theorem pgv_tup {es : List Expr} {k : Nat} {pos : Pos} {g : TgL} {n : Nat} (hc : X.calm = true) (h : PGs X es (tDGsv X.K X.mg vs g)) (hn : (assignEach es X.env).length = n := by rfl) (hst : (assignEach es X.env).findIdx? (·.1) = none := by rfl) :
    PG X (.Tuple es k pos) (tDGv X.K X.mg vs (tgTup n g)) := PG.imp (pg_tup hc h hn hst) fun v σ H Q t => by
  obtain ⟨Hi, ι, ρ, m, w, RR, rw', gd⟩ := t
  cases w with
  | m k => exact gd.elim
  | d x =>
    cases x with
    | tup xs =>
      by_cases hl : xs.length = n
      · have e : tgTup n g (.d (.tup xs)) ρ m = g (xs.map .d) ρ m := if_pos hl
        rw [e] at gd
        cases rw' with
        | tup s r =>
          rename_i a vs
          exact ⟨a, vs, rfl, sqT_mono RR.mok.sub s, r.length.trans hl, Hi, ι, ρ, m, _, RR, r.ws, gd⟩
      · have e : tgTup n g (.d (.tup xs)) ρ m = .bad := if_neg hl
        rw [e] at gd
        exact gd.elim
    | _ => exact gd.elim
/-- no error is wanted -/
abbrev W0 : WX := fun _ _ _ _ => False
theorem ptsd_nil : PTs X [] (tDT X.K X.mg Wx gYes) := ⟨fun pins s σ H Q I h => pts_nil.run pins s σ H Q I (by
  obtain ⟨Hi, ι, ρ, m, RR, gd⟩ := h
  exact gd.here (rep := fun _ _ x a => x = a) RR.mok rfl)⟩
theorem lc_imp {it : EvL} {g : Tg} {t : EvT} {e : Ev} {mu : Bool} {σ : L2.St} {H : Hp} {Q : VK} (h : tD X.K X.mg Wx (if mu then fLcM it g t e vs else fLc it g t e vs) σ H Q) : tLc (tDI X.K X.mg Wx it) (tDGv X.K X.mg vs g) (tDT X.K X.mg W0 t) (tD X.K X.mg W0 e) vs σ H Q := by
  obtain ⟨Hi, ι, ρ, m, RR, gd⟩ := h
  have gd' : Good X.K X.mg (RepW X.K X.mg) Wx σ Hi ι H ((it ρ m).bind fun ws m => (noX (lcs g t e (wipeE ρ vs) ws [] m)).bind fun xs m => if mu then .ok (.m m.length) (m ++ [MO.lst xs]) else .ok (W.d (D.lst xs)) m) Q := by
    cases mu with
    | true => exact gd
    | false => exact gd
  clear gd
  refine ⟨Hi, ι, ρ, m, RR, good_bind gd' fun ws m1 Hi1 ι1 J H1 st M rJ g1 => ?_⟩
  intro DD hD
  have R1 := RR.step st M
  have hDi : Hi1 DD = none := M.sub.free hD
  have hDm : DD ∉ ι1 := fun hm => by
    obtain ⟨o, ho⟩ := M.live hm
    rw [hD] at ho
    cases ho
  refine ⟨fun i n H' => ∃ Hi' ι' m' acc vacc, Step Hi1 ι1 H1 Hi' ι' H' ∧ Mok X.K X.mg Hi' ι' m' H' ∧ Hi' DD = none ∧ DD ∉ ι' ∧ H' DD = some (.lst vacc) ∧ RepL X.K X.mg Hi' vacc acc ∧ n = ws.length - i ∧
    Good X.K X.mg (RepW X.K X.mg) Wx σ Hi1 ι1 H1 ((noX (lcs g t e (wipeE ρ vs) (ws.drop i) acc m')).bind fun xs m => if mu then .ok (.m m.length) (m ++ [MO.lst xs]) else .ok (W.d (D.lst xs)) m) Q,
    ⟨_, Hi1, ι1, m1, [], [], ⟨Same.refl _, List.prefix_refl _, fun a o ha _ => by rw [upd_ne (ne_of_none ha hD)]; exact ha, fun a h1 h2 => absurd h1 h2, fun a h => upd_live h, fun a _ h1 _ => h1⟩, ?_, hDi, hDm, upd_same, .nil, rfl, g1⟩, ?_⟩
  · refine ⟨fun b u q => by rw [upd_ne (ne_of_none q hDi)]; exact M.sub b u q, M.len, M.nd, M.free, fun k mo a h1 h2 => (M.obj k mo a h1 h2).mono (Same.refl _) (upd_ne fun z => hDm (by rw [← z]; exact List.mem_of_getElem? h2)), M.lnk.upd fun C dx fs h => by rw [hD] at h; cases h⟩
  rintro i n H' ⟨Hi', ι', m', acc, vacc, st', M', hi', hm', hd', ra, rfl, gd⟩
  cases ew : ws.drop i with
  | nil =>
    rw [ew] at gd
    refine .inl ⟨rJ.stop i _ _ _ _ st'.imm st'.pre M' (drop_nil ew), ?_⟩
    cases mu with
    | false =>
      refine gd (upd Hi' DD (.lst vacc)) ι' (.ref DD) H' ?_ (M'.keep hd' hm' hi') (.lst upd_same (ra.mono fun b u q => by rw [upd_ne (ne_of_none q hi')]; exact q))
      exact ⟨st'.imm.trans fun b u q => by rw [upd_ne (ne_of_none q hi')]; exact q, st'.pre, st'.frm, st'.new, st'.live, fun a h0 h1 h2 => by rw [upd_ne (fun z => h2 (by rw [z]; exact hD))]; exact st'.inew a h0 h1 h2⟩
    | true =>
      refine gd Hi' (ι' ++ [DD]) (.ref DD) H' ⟨st'.imm, st'.pre.trans (List.prefix_append _ _), st'.frm, fun a h1 h2 => ?_, st'.live, st'.inew⟩ ?_ ⟨DD, by rw [← M'.len, List.getElem?_append_right (Nat.le_refl _)]; simp, rfl⟩
      · rcases List.mem_append.mp h1 with h1 | h1
        · exact st'.new a h1 h2
        · rw [List.mem_singleton] at h1; subst h1; exact hD
      · refine ⟨M'.sub, by simp [M'.len], ?_, fun k mo a h1 h2 h3 => ?_, fun k mo a h1 h2 => ?_, M'.lnk.push (mo := .lst acc) M'.len trivial⟩
        · rw [List.nodup_append]
          exact ⟨M'.nd, by simp, fun a ha b hb => by rw [List.mem_singleton] at hb; subst hb; exact fun z => hm' (by rw [← z]; exact ha)⟩
        · by_cases hk : k < m'.length
          · rw [List.getElem?_append_left hk] at h1
            rw [List.getElem?_append_left (by rw [M'.len]; exact hk)] at h2
            exact M'.free k mo a h1 h2 h3
          · rw [List.getElem?_append_right (by rw [M'.len]; omega)] at h2
            have hm := List.mem_of_getElem? h2
            rw [List.mem_singleton] at hm; subst hm; exact hi'
        · by_cases hk : k < m'.length
          · rw [List.getElem?_append_left hk] at h1
            rw [List.getElem?_append_left (by rw [M'.len]; exact hk)] at h2
            rw [take_app (by rw [M'.len]; omega)]
            exact M'.obj k mo a h1 h2
          · rw [List.getElem?_append_right (by omega)] at h1
            rw [List.getElem?_append_right (by rw [M'.len]; omega)] at h2
            have ek : k - m'.length = 0 := by
              cases e : k - m'.length with
              | zero => rfl
              | succ n => rw [e] at h1; simp at h1
            rw [ek] at h1
            rw [M'.len, ek] at h2
            simp at h1 h2
            subst h1 h2
            exact ⟨vacc, hd', ra⟩
  | cons w r =>
    obtain ⟨h1, h2, h3⟩ := drop_cons ew
    rw [ew] at gd
    refine .inr ⟨rJ.go i _ _ _ _ st'.imm st'.pre M' h1, fun H'' => ∃ Hi2 ι2 m2 acc2 vacc2, Step Hi1 ι1 H1 Hi2 ι2 H'' ∧ Mok X.K X.mg Hi2 ι2 m2 H'' ∧ Hi2 DD = none ∧ DD ∉ ι2 ∧ H'' DD = some (.lst vacc2) ∧ RepL X.K X.mg Hi2 vacc2 acc2 ∧
      Good X.K X.mg (RepW X.K X.mg) Wx σ Hi1 ι1 H1 ((noX (lcs g t e (wipeE ρ vs) (ws.drop (i + 1)) acc2 m2)).bind fun xs m => if mu then .ok (.m m.length) (m ++ [MO.lst xs]) else .ok (W.d (D.lst xs)) m) Q,
      fun H'' ⟨Hi2, ι2, m2, acc2, vacc2, a1, a2, a3, a4, a5, a6, a7⟩ => ⟨ws.length - (i + 1), by omega, Hi2, ι2, m2, acc2, vacc2, a1, a2, a3, a4, a5, a6, rfl, a7⟩, fun x H2 hy => ?_⟩
    rw [h3]
    obtain ⟨Hi2, st2, M2, rx⟩ := rJ.yld i w _ _ _ _ x H2 st'.imm st'.pre M' h2 hy
    -- what happens to DD in a step
    have dstep : ∀ {Ha : Hp} {ιa : List Addr} {Hb : Hp} {ιb : List Addr} {Ga Gb : Hp}, Step Ha ιa Ga Hb ιb Gb → DD ∉ ιa → Ga DD = some (.lst vacc) → Ha DD = none → Gb DD = some (.lst vacc) ∧ DD ∉ ιb ∧ Hb DD = none := fun s h1 h2 h3 =>
      ⟨s.frm DD _ h2 h1, (fun hm => by rw [s.new DD hm h1] at h2; cases h2), s.inew DD h1 h3 (by rw [h2]; exact fun q => nomatch q)⟩
    obtain ⟨d2, m2, i2⟩ := dstep st2 hm' hd' hi'
    have st12 := st'.trans st2
    refine ⟨Hi2, ι', wipeE ρ vs, m', w, ⟨M2, (R1.slots.wipe vs).step st12⟩, rx, ?_⟩
    unfold lcs at gd
    cases e3 : g w (wipeE ρ vs) m' with
    | exc c ns vs m2 => rw [e3] at gd; exact gd.elim
    | bad => rw [e3] at gd; exact gd.elim
    | ok ρ3 m3 =>
      rw [e3, R.bind_ok] at gd
      intro Hi3 ι3 σ3 H3 st3 R3 ew3
      refine ⟨ew3.trans (wipe_wipe σ vs), Hi3, ι3, ρ3, m3, R3, ?_⟩
      obtain ⟨d3, mm3, i3⟩ := dstep st3 m2 d2 i2
      have st13 := st12.trans st3
      cases e4 : t ρ3 m3 with
      | exc c ns vs m2 => rw [e4] at gd; exact gd.elim
      | bad => rw [e4] at gd; exact gd.elim
      | ok b m4 =>
        rw [e4, R.bind_ok] at gd
        intro Hi4 ι4 b' H4 st4 M4 eb
        cases eb
        obtain ⟨d4, mm4, i4⟩ := dstep st4 mm3 d3 i3
        have st14 := st13.trans st4
        cases b with
        | false =>
          simp only [Bool.false_eq_true, if_false] at gd ⊢
          exact ⟨Hi4, ι4, m4, acc, vacc, st14, M4, i4, mm4, d4, ra.mono ((st2.trans st3).trans st4).imm, gd⟩
        | true =>
          simp only [if_true] at gd ⊢
          refine ⟨Hi4, ι4, ρ3, m4, ⟨M4, R3.slots.step st4⟩, ?_⟩
          cases e5 : e ρ3 m4 with
          | exc c ns vs m2 => rw [e5] at gd; exact gd.elim
          | bad => rw [e5] at gd; exact gd.elim
          | ok y m5 =>
            rw [e5, R.bind_ok] at gd
            intro Hi5 ι5 yv H5 st5 M5 ry
            obtain ⟨d5, mm5, i5⟩ := dstep st5 mm4 d4 i4
            have st15 := st14.trans st5
            have ra5 := ra.mono (((st2.trans st3).trans st4).trans st5).imm
            cases y with
            | m k => exact gd.elim
            | d y =>
              simp only at gd
              split at gd
              · rename_i hl
                refine ⟨vacc, d5, sz5' (by rw [ra.length]; exact hl), Hi5, ι5, m5, acc ++ [y], vacc ++ [yv], ?_, ?_, i5, mm5, upd_same, ra5.append (.one ry), gd⟩
                · refine ⟨st15.imm, st15.pre, fun a o h1 h2 => ?_, st15.new, fun a h => st15.live a (upd_live h), st15.inew⟩
                  rw [upd_ne (ne_of_none h1 hD)]
                  exact st15.frm a o h1 h2
                · refine ⟨fun b u q => ?_, M5.len, M5.nd, M5.free, fun k mo a h1 h2 => (M5.obj k mo a h1 h2).mono (Same.refl _) (upd_ne fun z => mm5 (by rw [← z]; exact List.mem_of_getElem? h2)), M5.lnk.upd fun C dx fs h => by rw [d5] at h; cases h⟩
                  rw [upd_ne (ne_of_none q i5)]
                  exact M5.sub b u q
              · exact gd.elim
theorem pd_lc {elt tg iter : Expr} {ifs : List Expr} {scope : Scope} {own : List (Str × Nat)} {pos : Pos} {it : EvL} {g : Tg} {t : EvT} {e : Ev} (hc : X.calm = true) (hN : X.N.Nodup) (hi : PI X tg iter (tDI X.K X.mg Wx it)) (ok : BlkOk X.N X.env.scope scope own)
    (hg : ∀ (s : Shared) (H : Hp) (C : Addr) (cl : List (Str × Addr)) (fp : List Addr), PG (X.blk s H scope (compEnvC scope cl C X.env) fp) tg (tDGv X.K X.mg (own.map (·.2)) g)) (ht : ∀ (s : Shared) (H : Hp) (C : Addr) (cl : List (Str × Addr)) (fp : List Addr), PTs (X.blk s H scope (compEnvC scope cl C X.env) fp) ifs (tDT X.K X.mg W0 t))
    (he : ∀ (s : Shared) (H : Hp) (C : Addr) (cl : List (Str × Addr)) (fp : List Addr), PE (X.blk s H scope (compEnvC scope cl C X.env) fp) elt (tD X.K X.mg W0 e)) (hs : ∀ x, foldedSetIterable iter X.env x = pure x := by intro _; rfl) :
    PE X (.ListComp elt [⟨tg, iter, ifs, 0⟩] scope pos) (tD X.K X.mg Wx (fLc it g t e (own.map (·.2)))) := PE.imp (pe_lc hc hN hi ok hg ht he hs) fun σ H Q h => lc_imp (mu := false) h
theorem psd_setLc {mu : Bool} {i : Nat} {y : Str} {py : Pos} {elt tg iter : Expr} {ifs : List Expr} {scope : Scope} {own : List (Str × Nat)} {pos spos : Pos} {it : EvL} {g : Tg} {t : EvT} {e : Ev} (hc : X.calm = true) (hN : X.N.Nodup) (hy : X.N[i]? = some y) (hyl : X.env.scope.names.lookup y = some .local)
    (hsw : swapsWith (.ListComp elt [⟨tg, iter, ifs, 0⟩] scope pos) (some (.Name y py)) spos.line X.env = pure true) (hi : PI X tg iter (tDI X.K X.mg Wx it)) (ok : BlkOk X.N X.env.scope scope own)
    (hg : ∀ (s : Shared) (H : Hp) (C : Addr) (cl : List (Str × Addr)) (fp : List Addr), PG (X.blk s H scope (compEnvC scope cl C X.env) fp) tg (tDGv X.K X.mg (own.map (·.2)) g)) (ht : ∀ (s : Shared) (H : Hp) (C : Addr) (cl : List (Str × Addr)) (fp : List Addr), PTs (X.blk s H scope (compEnvC scope cl C X.env) fp) ifs (tDT X.K X.mg W0 t))
    (he : ∀ (s : Shared) (H : Hp) (C : Addr) (cl : List (Str × Addr)) (fp : List Addr), PE (X.blk s H scope (compEnvC scope cl C X.env) fp) elt (tD X.K X.mg W0 e)) (hs : ∀ x, foldedSetIterable iter X.env x = pure x := by intro _; rfl) :
    PS X (.Assign [.Name y py] (.ListComp elt [⟨tg, iter, ifs, 0⟩] scope pos) spos) (tDS X.K X.mg Wx (sAsg (if mu then fLcM it g t e (own.map (·.2)) else fLc it g t e (own.map (·.2))) (tgName i))) := PS.imp (ps_setLc hc hN hy hyl hsw hi ok hg ht he hs) fun D σ H t0 => by
  have z : tD X.K X.mg Wx (if mu then fLcM it g t e (own.map (·.2)) else fLc it g t e (own.map (·.2))) σ H (fun x H1 => gName i x σ H1 D.nx) := by
    obtain ⟨Hi, ι, ρ, m, RR, gd⟩ := t0
    refine ⟨Hi, ι, ρ, m, RR, goodS_lift RR gd fun x m1 Hi1 ι1 v H1 st M rv g1 => ?_⟩
    exact g1 _ _ _ _ Step.refl ⟨M, (RR.slots.step st).set i rv⟩
  exact lc_imp z
end
/-! ### defs -/
/-- a def's promise by its mirror f -/
def spN (K : PySem.W.Frag) (mg : Str → Option Value) (f : Fn) : Sp := fun vs H Q E => ∃ Hi ι ws m, Mok K mg Hi ι m H ∧ RepWs K mg Hi ι vs ws ∧ Good K mg (RepW K mg) (fun c d _ H' => E c d H') [] Hi ι H (f ws m) Q
section
variable {P : Program} {w : World} {K : PySem.W.Frag} {mg : Str → Option Value} {base : Heap}
theorem start_rep {Hi : Hp} {ι : List Addr} {N : List Str} {n : Nat} : ∀ {vs : List V} {ws : List W}, RepWs K mg Hi ι vs ws → N.length = n → RepS K mg Hi ι (ws.map some ++ List.replicate (n - ws.length) none) (L2.start N vs) := fun {vs ws} r hn => by
  have hl := r.length
  unfold L2.start
  refine ⟨by simp [hl, hn], fun i w' e => ?_⟩
  by_cases hi : i < ws.length
  · rw [List.getElem?_append_left (by simpa using hi), List.getElem?_map] at e
    cases e2 : ws[i]? with
    | none => rw [e2] at e; cases e
    | some w2 =>
      rw [e2] at e
      cases e
      obtain ⟨v, h1, h2⟩ := r.get e2
      exact ⟨v, by rw [List.getElem?_append_left (by rw [List.length_map, hl]; exact hi), List.getElem?_map, h1]; rfl, h2⟩
  · rw [List.getElem?_append_right (by simpa using hi), List.getElem?_replicate] at e
    split at e <;> cases e
theorem take_pre {ι ι' : List Addr} {n : Nat} (p : ι <+: ι') (h : ι.length = n) : ι'.take n = ι := by
  obtain ⟨t, rfl⟩ := p
  rw [← h]
  simp
theorem body_imp {mu : Bool} {N : List Str} {n np : Nat} {b : Ex} {vs : List V} {ws : List W} {Hi : Hp} {ι : List Addr} {m : Mem} {H : Hp} {Q : VK} {E : XK} (hn : N.length = n) (M : Mok K mg Hi ι m H) (r : RepWs K mg Hi ι vs ws)
    (g : Good K mg (RepW K mg) (fun c d _ H' => E c d H') [] Hi ι H (fnOf mu np n b ws m) Q) : tDS K mg (fun c d _ H' => E c d H') b { nx := fun _ H' => Q .non H', rt := Q } (L2.start N vs) H := by
  refine ⟨Hi, ι, _, m, ⟨M, start_rep r hn⟩, ?_⟩
  have cutS : ∀ {Hi' ι' H'}, Step Hi ι H Hi' ι' H' → Step Hi ι H Hi' (ι'.take m.length) H' := fun {Hi' ι' H'} s => by
    have e := take_pre s.pre M.len
    exact ⟨s.imm, by rw [e]; exact List.prefix_refl _, s.frm, fun a h1 h2 => by rw [e] at h1; exact absurd h1 h2, s.live, s.inew⟩
  have lv : ∀ {w : W} {m' : Mem} {Hi' : Hp} {ι' : List Addr} {v : V} {H' : Hp}, Good K mg (RepW K mg) (fun c d _ H' => E c d H') [] Hi ι H (leave mu m.length w m') Q → Step Hi ι H Hi' ι' H' → Mok K mg Hi' ι' m' H' → RepW K mg Hi' ι' v w → Q v H' := by
    intro w m' Hi' ι' v H' g s M' rv
    have e := take_pre s.pre M.len
    cases w with
    | d x => exact g _ _ _ _ (cutS s) (M'.cut m.length) rv
    | m k =>
      unfold leave at g
      simp only at g
      obtain ⟨a, h1, h2⟩ := rv
      split at g
      · rename_i hk
        exact g _ _ _ _ (cutS s) (M'.cut m.length) ⟨a, by rw [List.getElem?_take_of_lt hk]; exact h1, h2⟩
      · rename_i hk
        have keepM : ∀ {mo : MO}, m'[k]? = some mo → mo ≠ .dead → (∀ js, mo ≠ .lks js) → mo.free → Good K mg (RepW K mg) (fun c d _ H' => E c d H') [] Hi ι H (.ok (.m m.length) (m'.take m.length ++ [mo])) Q → Q v H' := by
          intro mo em hd hlk hfr g
          have q1 := M'.obj k _ a em h1
          have hi : Hi' a = none := M'.free k _ a em h1 hd
          have nin : a ∉ ι'.take m.length := fun hm => by
            obtain ⟨j, hj⟩ := List.getElem?_of_mem hm
            have hjl : j < m.length := by
              have := (List.getElem?_eq_some_iff.mp hj).1
              rw [List.length_take] at this
              omega
            rw [List.getElem?_take_of_lt hjl] at hj
            obtain ⟨p1, e1⟩ := List.getElem?_eq_some_iff.mp hj
            obtain ⟨p2, e2⟩ := List.getElem?_eq_some_iff.mp h1
            have := (List.getElem_inj M'.nd).mp (e1.trans e2.symm)
            omega
          have nH : H a = none := s.new a (List.mem_of_getElem? h1) (by rw [← e]; exact nin)
          subst h2
          have c := cutS s
          have Mc := M'.cut m.length
          have lc : (ι'.take m.length).length = m.length := by rw [e, M.len]
          have lm : (m'.take m.length).length = m.length := by rw [← Mc.len, lc]
          refine g Hi' (ι'.take m.length ++ [a]) (.ref a) H' ⟨c.imm, c.pre.trans (List.prefix_append _ _), c.frm, fun b z1 z2 => ?_, c.live, c.inew⟩ ?_ ⟨a, by rw [List.getElem?_append_right (by omega), lc]; simp, rfl⟩
          · rcases List.mem_append.mp z1 with z1 | z1
            · exact c.new b z1 z2
            · rw [List.mem_singleton] at z1; subst z1; exact nH
          · refine ⟨Mc.sub, by simp [Mc.len], ?_, fun j mo b z1 z2 z3 => ?_, fun j mo b z1 z2 => ?_, Mc.lnk.push (mo := mo) Mc.len hfr⟩
            · rw [List.nodup_append]
              exact ⟨Mc.nd, by simp, fun b hb b' hb' => by rw [List.mem_singleton] at hb'; subst hb'; exact fun z => nin (by rw [← z]; exact hb)⟩
            · by_cases hj : j < m.length
              · rw [List.getElem?_append_left (by omega)] at z1 z2
                exact Mc.free j mo b z1 z2 z3
              · rw [List.getElem?_append_right (by omega)] at z2
                have hm := List.mem_of_getElem? z2
                rw [List.mem_singleton] at hm; subst hm; exact hi
            · by_cases hj : j < m.length
              · rw [List.getElem?_append_left (by omega)] at z1 z2
                rw [take_app (by omega)]
                exact Mc.obj j mo b z1 z2
              · rw [List.getElem?_append_right (by omega)] at z1 z2
                rw [lm] at z1
                rw [lc] at z2
                have ej : j - m.length = 0 := by
                  cases e : j - m.length with
                  | zero => rfl
                  | succ n => rw [e] at z1; simp at z1
                rw [ej] at z1 z2
                simp at z1 z2
                subst z1 z2
                exact q1.any hlk
        split at g
        · rename_i xs em
          cases mu with
          | true =>
            simp only [if_true] at g
            exact keepM em (fun q => nomatch q) (fun _ q => nomatch q) trivial g
          | false =>
            obtain ⟨us, q1, q2⟩ := M'.obj k _ a em h1
            have hi : Hi' a = none := M'.free k _ a em h1 (fun q => nomatch q)
            have nin : a ∉ ι'.take m.length := fun hm => by
              obtain ⟨j, hj⟩ := List.getElem?_of_mem hm
              have hjl : j < m.length := by
                have := (List.getElem?_eq_some_iff.mp hj).1
                rw [List.length_take] at this
                omega
              rw [List.getElem?_take_of_lt hjl] at hj
              obtain ⟨p1, e1⟩ := List.getElem?_eq_some_iff.mp hj
              obtain ⟨p2, e2⟩ := List.getElem?_eq_some_iff.mp h1
              have := (List.getElem_inj M'.nd).mp (e1.trans e2.symm)
              omega
            have nH : H a = none := s.new a (List.mem_of_getElem? h1) (by rw [← e]; exact nin)
            simp only [Bool.false_eq_true, if_false] at g
            subst h2
            refine g (upd Hi' a (.lst us)) (ι'.take m.length) (.ref a) H' ?_ ((M'.cut m.length).keep q1 nin hi) (.lst upd_same (q2.mono fun b u q => by rw [upd_ne (ne_of_none q hi)]; exact q))
            have c := cutS s
            exact ⟨c.imm.trans fun b u q => by rw [upd_ne (ne_of_none q hi)]; exact q, c.pre, c.frm, c.new, c.live, fun b z0 z1 z2 => by rw [upd_ne (fun z => z2 (by rw [z]; exact nH))]; exact c.inew b z0 z1 z2⟩
        · rename_i w0 kvs em
          cases mu with
          | true =>
            simp only [if_true] at g
            exact keepM em (fun q => nomatch q) (fun _ q => nomatch q) trivial g
          | false =>
            simp only [Bool.false_eq_true, if_false] at g
            exact g.elim
        · exact g.elim
  unfold fnOf at g
  split at g
  case isFalse => exact g.elim
  cases e : b (ws.map some ++ List.replicate (n - ws.length) none) m with
  | nx ρ' m' => rw [e] at g; exact fun Hi' ι' σ' H' s R' => lv g s R'.mok (v := .non) (w := .d .non) .non
  | rt w m' => rw [e] at g; exact fun Hi' ι' v H' s M' rv => lv g s M' rv
  | xc c ns xs ρ' m' =>
    rw [e] at g
    exact fun Hi' ι' σ' H' C dx fs s R' => g Hi' (ι'.take m.length) H' C dx fs (cutS s) (R'.mok.cut m.length)
  | bk ρ' m' => rw [e] at g; exact g.elim
  | ct ρ' m' => rw [e] at g; exact g.elim
  | bad => rw [e] at g; exact g.elim
/-- THE RULE for a def -/
theorem fun_ok {x qual : Str} {st : Stmt} {f : Addr} {fd : FuncData} {N ps : List Str} {k n np : Nat} {mu : Bool} {b : Ex} (F : Fun K x qual st f fd) (S : FnScope N ps (defScope st)) (hn : N.length = n) (hp : ps.length = np)
    (hbody : ∀ (cdv : Value) (A : Around) (outer : List PySem.Env) (s : Shared) (H : Hp) (E : XK), Room k (A.deeper (envOfC qual (defScope st) s.heap.objs.size f cdv)) →
      PSs (cxOf (L2.CX P w) P w K mg base N qual (defScope st) f cdv A outer s H E) (defBody st) (tDS K mg (fun c d _ H' => E c d H') b)) : FnOk P w K mg base (L2.CX P w) (k + 1) f fd ps (spN K mg (fnOf mu np n b)) := by
  refine F.okX S (fun vs H Q E h => ?_) fun cdv A outer s H vs Q E hr h => ?_
  · obtain ⟨Hi, ι, ws, m, _, r, g⟩ := h
    unfold fnOf at g
    split at g
    · rename_i hl
      rw [r.length, hl, hp]
    · exact g.elim
  · obtain ⟨Hi, ι, ws, m, M, r, g⟩ := h
    exact ⟨_, hbody cdv A outer s H E hr, body_imp hn M r g⟩
/-- a promise by positional values, from one by bound ones -/
theorem fnR_of {CX : CXT} {k : Nat} {f : Addr} {fd : FuncData} {ps : List Str} {sp : Sp} {ds : List Value} {dvs : List V} (F : FnOk P w K mg base CX k f fd ps sp) (hb : Binds K fd ps ds) (hd : Vals dvs ds) : FnR P w K mg base CX k f (fun vs H Q E => sp (vs ++ dvs) H Q E) :=
  fun A outer s H us vs Q E hr e0 r h => by
    have r2 : Vals (vs ++ dvs) (us ++ ds) := r.append hd
    have hl : (us ++ ds).length = ps.length := by rw [← r2.length]; exact F.len _ _ _ _ h
    exact F.run A outer s H ⟨us, []⟩ (us ++ ds) (vs ++ dvs) Q E hr e0 (hb s us (e0.mod.kin.keeps fun b o e => (e0.bs b o e).1) hl) r2 h
/-- a def of the module, as its callers see it -/
structure DefOk (P : Program) (w : World) (K : PySem.W.Frag) (mg : Str → Option Value) (base : Heap) (x : Str) (k : Nat) (g : Fn) : Prop where
  ex : ∃ f, FnR P w K mg base (L2.CX P w) k f (spN K mg g) ∧ mg x = some (.ref f) ∧ PySem.W.keepIn K (.ref f) = true
/-- where a def of the text stands -/
structure TopDef (K : PySem.W.Frag) (mg : Str → Option Value) (x : Str) (st : Stmt) : Prop where
  ex : ∃ f fd, Fun K x x st f fd ∧ mg x = some (.ref f)
theorem def_ok {x : Str} {st : Stmt} {N ps : List Str} {k n np : Nat} {b : Ex} (mu : Bool) (T : TopDef K mg x st) (S : FnScope N ps (defScope st)) (hn : N.length = n) (hp : ps.length = np)
    (hb : ∀ (kV doc pm : Value) (an : Option Addr) (cdv ct : Value) (us : List Value), us.length = ps.length → bindArgs (PySem.W.fnOf x x (defArgs st) (defBody st) (defScope st) .none kV doc pm an cdv ct) ⟨us, []⟩ = pure (ps.zip us))
    (hbody : ∀ (f : Addr) (cdv : Value) (A : Around) (outer : List PySem.Env) (s : Shared) (H : Hp) (E : XK),
      Cc (cxOf (L2.CX P w) P w K mg base N x (defScope st) f cdv A outer s H E) (fun c d _ H' => E c d H') k →
      PSs (cxOf (L2.CX P w) P w K mg base N x (defScope st) f cdv A outer s H E) (defBody st) (tDS K mg (fun c d _ H' => E c d H') b)) : DefOk P w K mg base x (k + 1) (fnOf mu np n b) := by
  obtain ⟨f, fd, F, hm⟩ := T.ex
  have z := fnR_of (fun_ok (P := P) (w := w) (base := base) (mg := mg) (mu := mu) F S hn hp fun cdv A outer s H E hr => hbody f cdv A outer s H E ⟨takes_of rfl rfl rfl rfl, passes_of rfl, S.nd, rfl, hr⟩) (F.binds hb) .nil
  simp only [List.append_nil] at z
  exact ⟨f, z, hm, F.kp⟩
end
section
variable {X : Cx} {Wx : WX} {kk j : Nat} {g : Fn} {x : Str} {p pos : Pos} {e : Expr} {es : List Expr} {a : EvL}
theorem run_fnRS {CX : CXT} {k : Nat} {f : Addr} {sp : Sp} {E : XK} {Q : VK} {us : List Value} {vs : List V} {pins : List (Addr × Obj)} {σ : L2.St} {H : Hp} {s : Shared} (F : FnR X.prog X.w X.K X.mg X.base CX k f sp) (hr : Room k X.A) (hx : PassesAt CX X σ E) (I : Inv X pins σ H s) (r : Vals vs us) (h : sp vs H Q E) :
    codeAny (model X.prog X.w) X.A (.call (.ref f) ⟨us, []⟩) (fun r s' => match r with | .ok (.ret v) => EP X pins σ Q v s' | .ok _ => False | .error e => X.xe e s') s := by
  refine codeAny_mono (F X.A X.stack s H us vs Q E hr I.env0 r h) fun r s' hq => ?_
  cases r with
  | error e => exact hx pins H s e s' I hq
  | ok fl =>
    cases fl with
    | ret u => exact I.after hq
    | next => exact False.elim hq
    | brk => exact False.elim hq
    | cont => exact False.elim hq
theorem call_imp {σ : L2.St} {H : Hp} {Q : VK} (t : tD X.K X.mg Wx (fCall g a) σ H Q) : tCallS (spN X.K X.mg g) (WE Wx) (tDA X.K X.mg Wx a) σ H Q := by
  obtain ⟨Hi, ι, ρ, m, RR, gd⟩ := t
  refine ⟨Hi, ι, ρ, m, RR, good_bind gd fun ws m1 Hi1 ι1 vs H1 st M rv g1 => ⟨Hi1, ι1, ws, m1, M, rv, g1⟩⟩
theorem pd_call (c : Cc X Wx kk) (F : DefOk X.prog X.w X.K X.mg X.base x j g) (hj : j ≤ kk) (hg : Gl X x) (ha : PA X (e :: es) (tDA X.K X.mg Wx a)) (hdb : (x == ("__debug__" : Str)) = false := by decide)
    (he : starEach (e :: es) X.env = (false, eval e X.env) :: starEach es X.env := by rfl) (hpl : (backTo pos (starEach es X.env)).any (·.1) = false := by rfl) : PE X (.Call (.Name x p) (e :: es) [] pos) (tD X.K X.mg Wx (fCall g a)) := by
  obtain ⟨f, F, hm, hk⟩ := F.ex
  refine ⟨fun pins s σ H Q I h => ?_⟩
  refine wpAny_Call_Name_kw (ld_glob I hg hm ?_ hdb)
  refine PySem.W.callWith_K (h₀ := X.base) I.ok.mod.kin hk (thn (ha.run pos pins s σ H _ I (call_imp h)) fun us s1 ⟨vs, H1, I1, r, q⟩ => ⟨I1.kIn, ?_⟩) he hpl
  exact wpAny_call (run_fnRS F (c.room.mono hj) (passAt c.tk σ) I1 r q)
theorem pd_call0 (c : Cc X Wx kk) (F : DefOk X.prog X.w X.K X.mg X.base x j g) (hj : j ≤ kk) (hg : Gl X x) (hdb : (x == ("__debug__" : Str)) = false := by decide) : PE X (.Call (.Name x p) [] [] pos) (tD X.K X.mg Wx (fCall g fNil)) := by
  obtain ⟨f, F, hm, hk⟩ := F.ex
  refine ⟨fun pins s σ H Q I h => ?_⟩
  refine wpAny_Call_Name_kw (ld_glob I hg hm ?_ hdb)
  obtain ⟨Hi, ι, ρ, m, RR, gd⟩ := h
  exact PySem.W.callWith_K0 I.kIn hk (wpAny_call (run_fnRS F (c.room.mono hj) (passAt c.tk σ) I .nil ⟨Hi, ι, [], m, RR.mok, .nil, gd⟩))
/-- *e among arguments -/
theorem RepWs.append {K : PySem.W.Frag} {mg : Str → Option Value} {Hi : Hp} {ι : List Addr} : ∀ {as bs : List V} {cs ds : List W}, RepWs K mg Hi ι as cs → RepWs K mg Hi ι bs ds → RepWs K mg Hi ι (as ++ bs) (cs ++ ds)
  | _, _, _, _, .nil, h => h
  | _, _, _, _, .cons a b, h => .cons a (RepWs.append b h)
end
/-- within a comprehension -/
theorem Cc.blk {X : Cx} {Wx : WX} {kk : Nat} (c : Cc X Wx kk) (s : Shared) (H : Hp) (scope : Scope) (cenv : PySem.Env) (fp : List Addr) : Cc (X.blk s H scope cenv fp) W0 kk := ⟨takes0, PassesOwn.never, c.nd, c.calm, c.room⟩
end GD
/-! GD5: operations. -/
namespace GD
open PySem PySem.Spec PyProof.Rows L2
/-- no number greater than this is multiplied or divided by -/
def BIG : Nat := 2 ^ 9000
@[irreducible] def small (i : Int) : Bool := decide (i.natAbs < BIG)
theorem small_log {i : Int} (h : small i = true) : i.natAbs.log2 < 9000 := by
  unfold small BIG at h
  have h1 : i.natAbs < 2 ^ 9000 := of_decide_eq_true h
  have := PySem.Flt.log2_lt_of (show 0 < 9000 by decide) h1
  omega
/-- the items of a list, changeable or not -/
def lstOf : W → Mem → Option (List D)
  | .d (.lst xs), _ => some xs
  | .m k, m => match m[k]? with
    | some (.lst xs) => some xs
    | some (.own _ _ xs) => some xs
    | _ => none
  | _, _ => none
/-- the data that a value stands for now -/
def datOf : W → Mem → Option D
  | .d x, _ => some x
  | .m k, m => match m[k]? with
    | some (.lst xs) => some (.lst xs)
    | some (.own _ _ xs) => some (.lst xs)
    | _ => none
section
variable {K : PySem.W.Frag} {mg : Str → Option Value} {Hi H : Hp} {ι : List Addr} {m : Mem}
theorem Mok.get (M : Mok K mg Hi ι m H) {k : Nat} {mo : MO} {v : V} (h : m[k]? = some mo) (r : RepW K mg Hi ι v (.m k)) : ∃ a, v = .ref a ∧ ι[k]? = some a ∧ RepO K mg Hi (ι.take k) H a mo := by
  obtain ⟨a, h1, h2⟩ := r
  exact ⟨a, h2, h1, M.obj k mo a h h1⟩
theorem lstOf_rep (M : Mok K mg Hi ι m H) {w : W} {v : V} {xs : List D} (h : lstOf w m = some xs) (r : RepW K mg Hi ι v w) : ∃ a vs, v = .ref a ∧ H a = some (.lst vs) ∧ RepL K mg Hi vs xs := by
  unfold lstOf at h
  split at h
  · cases h
    cases r with
    | lst s r => exact ⟨_, _, rfl, M.sub _ _ s, r⟩
  · split at h
    · rename_i e
      cases h
      obtain ⟨a, rfl, h1, vs, h2, h3⟩ := M.get e r
      exact ⟨a, vs, rfl, h2, h3⟩
    · rename_i e
      cases h
      obtain ⟨a, rfl, h1, vs, h2, h3⟩ := M.get e r
      exact ⟨a, vs, rfl, h2, h3⟩
    · cases h
  · cases h
theorem datOf_rep (M : Mok K mg Hi ι m H) {w : W} {v : V} {x : D} (h : datOf w m = some x) (r : RepW K mg Hi ι v w) : Rep K mg H v x := by
  unfold datOf at h
  split at h
  · cases h
    exact Rep.mono M.sub r
  · split at h
    · rename_i e
      cases h
      obtain ⟨a, rfl, h1, vs, h2, h3⟩ := M.get e r
      exact .lst h2 (h3.mono M.sub)
    · rename_i e
      cases h
      obtain ⟨a, rfl, h1, vs, h2, h3⟩ := M.get e r
      exact .lst h2 (h3.mono M.sub)
    · cases h
theorem RepL.ints_ : ∀ {vs : List V} {ns : List Int}, RepL K mg H vs (ns.map .int) → vs = ns.map V.int
  | _, [], h => by cases h; rfl
  | _, n :: ns, h => by
    cases h with
    | cons a b =>
      cases a
      rw [RepL.ints_ b]
      rfl
theorem RepL.bools_ : ∀ {vs : List V} {ns : List Bool}, RepL K mg H vs (ns.map .bl) → vs = ns.map V.bl
  | _, [], h => by cases h; rfl
  | _, n :: ns, h => by
    cases h with
    | cons a b =>
      cases a
      rw [RepL.bools_ b]
      rfl
theorem RepL.drop : ∀ {vs : List V} {ds : List D} (n : Nat), RepL K mg H vs ds → RepL K mg H (vs.drop n) (ds.drop n)
  | _, _, 0, r => r
  | _, _, _ + 1, .nil => .nil
  | _, _, n + 1, .cons _ t => RepL.drop n t
theorem RepL.take : ∀ {vs : List V} {ds : List D} (n : Nat), RepL K mg H vs ds → RepL K mg H (vs.take n) (ds.take n)
  | _, _, 0, _ => .nil
  | _, _, _ + 1, .nil => .nil
  | _, _, n + 1, .cons r t => .cons r (RepL.take n t)
theorem RepL.set {v : V} {d : D} (r : Rep K mg H v d) : ∀ {vs : List V} {ds : List D} (i : Nat), RepL K mg H vs ds → RepL K mg H (vs.set i v) (ds.set i d)
  | _, _, _, .nil => .nil
  | _, _, 0, .cons _ t => .cons r t
  | _, _, i + 1, .cons q t => .cons q (RepL.set r i t)
end
/-- a list's numbers, truth values, texts -/
def intsD : List D → Option (List Int)
  | [] => some []
  | .int i :: r => (intsD r).map (i :: ·)
  | _ => none
theorem ints_eq : ∀ {xs : List D} {ns : List Int}, intsD xs = some ns → xs = ns.map .int
  | [], ns, h => by simp [intsD] at h; subst h; rfl
  | .int i :: r, ns, h => by
    simp only [intsD, Option.map_eq_some_iff] at h
    obtain ⟨l, h1, h2⟩ := h
    subst h2
    rw [ints_eq h1]
    rfl
  | .non :: _, _, h | .bl _ :: _, _, h | .str _ :: _, _, h | .tup _ :: _, _, h | .lst _ :: _, _, h | .fls _ :: _, _, h | .obj _ _ _ :: _, _, h | .gl _ :: _, _, h | .ty _ :: _, _, h => by simp [intsD] at h
def boolsD : List D → Option (List Bool)
  | [] => some []
  | .bl i :: r => (boolsD r).map (i :: ·)
  | _ => none
theorem bools_eq : ∀ {xs : List D} {ns : List Bool}, boolsD xs = some ns → xs = ns.map .bl
  | [], ns, h => by simp [boolsD] at h; subst h; rfl
  | .bl i :: r, ns, h => by
    simp only [boolsD, Option.map_eq_some_iff] at h
    obtain ⟨l, h1, h2⟩ := h
    subst h2
    rw [bools_eq h1]
    rfl
  | .non :: _, _, h | .int _ :: _, _, h | .str _ :: _, _, h | .tup _ :: _, _, h | .lst _ :: _, _, h | .fls _ :: _, _, h | .obj _ _ _ :: _, _, h | .gl _ :: _, _, h | .ty _ :: _, _, h => by simp [boolsD] at h
/-! ### arithmetic -/
def oAdd : O2 := fun a b m => match a, b with
  | .d (.int i), .d (.int j) => .ok (.d (.int (i + j))) m
  | .d (.str x), .d (.str y) => if x.length + y.length ≤ 100000 then .ok (.d (.str (x ++ y))) m else .bad
  | .d (.tup xs), .d (.tup ys) => if xs.length + ys.length ≤ 100000 then .ok (.d (.tup (xs ++ ys))) m else .bad
  | a, b => match lstOf a m, lstOf b m with
    | some xs, some ys => if xs.length + ys.length ≤ 100000 then .ok (.d (.lst (xs ++ ys))) m else .bad
    | _, _ => .bad
def rAddU (K : PySem.W.Frag) : R2 := fun x y H Q => (rI0 fun i j => .int (i + j)) x y H Q ∨ ((fun x y H Q => ∃ i j, x = .str i ∧ y = .str j ∧ i.length + j.length ≤ sizeLine ∧ Q (.str (i ++ j)) H) x y H Q ∨ (rCatA K x y H Q ∨ rCat x y H Q))
theorem op_addU {X : Cx} : OpR X (binaryOp .Add) (rAddU X.K) := OpR.or op_add (OpR.or op_add_str (OpR.or op_catA op_cat))
theorem s_add {K : PySem.W.Frag} {mg : Str → Option Value} : S2 K mg (rAddU K) oAdd := by
  intro Wx σ Hi ι m H x y a b Q M rx ry g
  unfold oAdd at g
  split at g
  · cases rx; cases ry; exact .inl ⟨_, _, rfl, rfl, g.here (rep := RepW K mg) M (.int _)⟩
  · split at g
    · rename_i hl
      cases rx; cases ry; exact .inr (.inl ⟨_, _, rfl, rfl, sz5 hl, g.here (rep := RepW K mg) M (.str _)⟩)
    · exact g.elim
  · split at g
    · rename_i xs ys hl
      cases rx with
      | tup s1 r1 =>
        cases ry with
        | tup s2 r2 =>
          rename_i a1 v1 a2 v2
          refine .inr (.inr (.inl ⟨a1, a2, v1, v2, rfl, rfl, sqT_mono M.sub s1, sqT_mono M.sub s2, sz5 (by rw [r1.length, r2.length]; exact hl), fun e => ?_, fun e1 e2 => ?_, fun e1 e2 p hp => ?_⟩))
          · subst e
            cases r1
            exact g _ _ _ _ Step.refl M (.tup s2 r2)
          · subst e2
            cases r2
            rw [List.append_nil] at g
            exact g _ _ _ _ Step.refl M (.tup s1 r1)
          · obtain ⟨M2, st2⟩ := M.newD (o := .tup (v1 ++ v2)) hp
            exact g _ _ _ _ st2 M2 (.tup (.inl (.inl upd_same)) ((r1.append r2).mono st2.imm))
    · exact g.elim
  · split at g
    · rename_i xs ys h1 h2
      split at g
      · rename_i hl
        obtain ⟨a1, v1, rfl, q1, r1⟩ := lstOf_rep M h1 rx
        obtain ⟨a2, v2, rfl, q2, r2⟩ := lstOf_rep M h2 ry
        refine .inr (.inr (.inr ⟨a1, a2, v1, v2, rfl, rfl, q1, q2, sz5 (by rw [r1.length, r2.length]; exact hl), fun p hp => ?_⟩))
        obtain ⟨M2, st2⟩ := M.newD (o := .lst (v1 ++ v2)) hp
        exact g _ _ _ _ st2 M2 (.lst upd_same ((r1.append r2).mono st2.imm))
      · exact g.elim
    · exact g.elim
def oSub : O2 := fun a b m => match a, b with
  | .d (.int i), .d (.int j) => .ok (.d (.int (i - j))) m
  | _, _ => .bad
theorem s_int0 {K : PySem.W.Frag} {mg : Str → Option Value} {f : Int → Int → Int} : S2 K mg (rI0 fun i j => .int (f i j)) (fun a b m => match a, b with
  | .d (.int i), .d (.int j) => .ok (.d (.int (f i j))) m
  | _, _ => .bad) := by
  intro Wx σ Hi ι m H x y a b Q M rx ry g
  dsimp only at g
  split at g
  · cases rx; cases ry; exact ⟨_, _, rfl, rfl, g.here (rep := RepW K mg) M (.int _)⟩
  · exact g.elim
theorem s_sub {K : PySem.W.Frag} {mg : Str → Option Value} : S2 K mg (rI0 fun i j => .int (i - j)) oSub := s_int0
theorem s_boo0 {K : PySem.W.Frag} {mg : Str → Option Value} {f : Int → Int → Bool} : S2 K mg (rI0 fun i j => .bl (f i j)) (fun a b m => match a, b with
  | .d (.int i), .d (.int j) => .ok (.d (.bl (f i j))) m
  | _, _ => .bad) := by
  intro Wx σ Hi ι m H x y a b Q M rx ry g
  dsimp only at g
  split at g
  · cases rx; cases ry; exact ⟨_, _, rfl, rfl, g.here (rep := RepW K mg) M (.bl _)⟩
  · exact g.elim
def oLt : O2 := fun a b m => match a, b with
  | .d (.int i), .d (.int j) => .ok (.d (.bl (decide (i < j)))) m
  | _, _ => .bad
def oLe : O2 := fun a b m => match a, b with
  | .d (.int i), .d (.int j) => .ok (.d (.bl (decide (i ≤ j)))) m
  | _, _ => .bad
def oGt : O2 := fun a b m => match a, b with
  | .d (.int i), .d (.int j) => .ok (.d (.bl (decide (j < i)))) m
  | _, _ => .bad
def oGe : O2 := fun a b m => match a, b with
  | .d (.int i), .d (.int j) => .ok (.d (.bl (decide (j ≤ i)))) m
  | _, _ => .bad
theorem s_lt {K : PySem.W.Frag} {mg : Str → Option Value} : S2 K mg (rI0 fun i j => .bl (decide (i < j))) oLt := s_boo0
theorem s_le {K : PySem.W.Frag} {mg : Str → Option Value} : S2 K mg (rI0 fun i j => .bl (decide (i ≤ j))) oLe := s_boo0
theorem s_gt {K : PySem.W.Frag} {mg : Str → Option Value} : S2 K mg (rI0 fun i j => .bl (decide (j < i))) oGt := s_boo0
theorem s_ge {K : PySem.W.Frag} {mg : Str → Option Value} : S2 K mg (rI0 fun i j => .bl (decide (j ≤ i))) oGe := s_boo0
def oMul : O2 := fun a b m => match a, b with
  | .d (.int i), .d (.int j) => if small i && small j then .ok (.d (.int (i * j))) m else .bad
  | a, .d (.int j) => match lstOf a m with
    | some xs => if 0 ≤ j ∧ j ≤ 100000 ∧ xs.length * j.toNat ≤ 100000 then .ok (.d (.lst (List.replicate j.toNat xs).flatten)) m else .bad
    | none => .bad
  | _, _ => .bad
theorem rep_flat {K : PySem.W.Frag} {mg : Str → Option Value} {H : Hp} {vs : List V} {ds : List D} (r : RepL K mg H vs ds) : ∀ n : Nat, RepL K mg H (List.replicate n vs).flatten (List.replicate n ds).flatten
  | 0 => .nil
  | n + 1 => by
    rw [List.replicate_succ, List.replicate_succ, List.flatten_cons, List.flatten_cons]
    exact r.append (rep_flat r n)
theorem s_mul {X : Cx} : S2 X.K X.mg (fun x y H Q => (rI CMulW fun i j => .int (i * j)) x y H Q ∨ rRep x y H Q) oMul := by
  intro Wx σ Hi ι m H x y a b Q M rx ry g
  unfold oMul at g
  split at g
  · split at g
    · rename_i i j hs
      rw [Bool.and_eq_true] at hs
      have h1 := small_log hs.1
      have h2 := small_log hs.2
      cases rx; cases ry; exact .inl ⟨_, _, rfl, rfl, by show _ + _ < _; omega, g.here (rep := RepW X.K X.mg) M (.int _)⟩
    · exact g.elim
  · rename_i j _
    split at g
    · rename_i xs e
      split at g
      · rename_i hj
        obtain ⟨a1, v1, rfl, q1, r1⟩ := lstOf_rep M e rx
        cases ry
        refine .inr ⟨a1, j, v1, rfl, rfl, q1, by omega, by omega, sz5 (by rw [r1.length]; exact hj.2.2), fun p hp => ?_⟩
        obtain ⟨M2, st2⟩ := M.newD (o := .lst (List.replicate j.toNat v1).flatten) hp
        exact g _ _ _ _ st2 M2 (.lst upd_same ((rep_flat r1 _).mono st2.imm))
      · exact g.elim
    · exact g.elim
  · exact g.elim
theorem op_mulU {X : Cx} : OpR X (binaryOp .Mult) (fun x y H Q => (rI CMulW fun i j => .int (i * j)) x y H Q ∨ rRep x y H Q) := OpR.or op_mulW op_rep
def oDiv : O2 := fun a b m => match a, b with
  | .d (.int i), .d (.int j) => if decide (0 < j) && small j then .ok (.d (.int (i / j))) m else .bad
  | _, _ => .bad
theorem s_div {K : PySem.W.Frag} {mg : Str → Option Value} : S2 K mg (rI CDivW fun i j => .int (i / j)) oDiv := by
  intro Wx σ Hi ι m H x y a b Q M rx ry g
  unfold oDiv at g
  split at g
  · split at g
    · rename_i i j hs
      rw [Bool.and_eq_true] at hs
      cases rx; cases ry; exact ⟨_, _, rfl, rfl, ⟨of_decide_eq_true hs.1, small_log hs.2⟩, g.here (rep := RepW K mg) M (.int _)⟩
    · exact g.elim
  · exact g.elim
def oMod : O2 := fun a b m => match a, b with
  | .d (.int i), .d (.int j) => if 0 < j then .ok (.d (.int (i % j))) m else .bad
  | _, _ => .bad
theorem s_mod {K : PySem.W.Frag} {mg : Str → Option Value} : S2 K mg (rI (fun _ j => 0 < j) fun i j => .int (i % j)) oMod := by
  intro Wx σ Hi ι m H x y a b Q M rx ry g
  unfold oMod at g
  split at g
  · split at g
    · rename_i i j hs
      cases rx; cases ry; exact ⟨_, _, rfl, rfl, hs, g.here (rep := RepW K mg) M (.int _)⟩
    · exact g.elim
  · exact g.elim
def oPow : O2 := fun a b m => match a, b with
  | .d (.int i), .d (.int j) => if (decide (0 ≤ j) && decide (j ≤ 1000)) && small i then .ok (.d (.int (i ^ j.toNat))) m else .bad
  | _, _ => .bad
def CPowW (i j : Int) : Prop := 0 ≤ j ∧ (Builtin.Int.intBits i : Int) * j ≤ 2 ^ 27
theorem op_powW {X : Cx} : OpR X (binaryOp .Pow) (rI CPowW fun i j => .int (i ^ j.toNat)) := opI fun _ _ _ _ _ _ _ hc q => pow_int hc.1 hc.2 q
theorem s_pow {K : PySem.W.Frag} {mg : Str → Option Value} : S2 K mg (rI CPowW fun i j => .int (i ^ j.toNat)) oPow := by
  intro Wx σ Hi ι m H x y a b Q M rx ry g
  unfold oPow at g
  split at g
  · split at g
    · rename_i i j hs
      rw [Bool.and_eq_true, Bool.and_eq_true] at hs
      have h1 := of_decide_eq_true hs.1.1
      have h2 := of_decide_eq_true hs.1.2
      have h3 := small_log hs.2
      have h4 : Builtin.Int.intBits i ≤ 9000 := by
        unfold Builtin.Int.intBits
        split <;> omega
      have h5 : (Builtin.Int.intBits i : Int) * j ≤ 9000 * 1000 := Int.mul_le_mul (by omega) h2 h1 (by omega)
      cases rx; cases ry; exact ⟨_, _, rfl, rfl, ⟨h1, by omega⟩, g.here (rep := RepW K mg) M (.int _)⟩
    · exact g.elim
  · exact g.elim
def oNeg : O1 := fun a m => match a with
  | .d (.int i) => .ok (.d (.int (-i))) m
  | _ => .bad
theorem s_neg {K : PySem.W.Frag} {mg : Str → Option Value} : S1 K mg (rU fun i => .int (-i)) oNeg := by
  intro Wx σ Hi ι m H x a Q M rx g
  unfold oNeg at g
  split at g
  · cases rx; exact ⟨_, rfl, g.here (rep := RepW K mg) M (.int _)⟩
  · exact g.elim
/-! ### equality -/
def eqD (x y : D) : Option Bool := match x, y with
  | .int i, .int j => some (decide (i = j))
  | .str i, .str j => some (decide (i = j))
  | .bl i, .bl j => some (decide (i = j))
  | .non, .non => some true
  | .int _, .str _ => some false
  | .str _, .int _ => some false
  | .int _, .non => some false
  | .non, .int _ => some false
  | .str _, .non => some false
  | .non, .str _ => some false
  | x, y => match x.py, y.py with
    | some p, some q => if SeqAt.shaped p && SeqAt.shaped q then some (PyData.eqv p q) else none
    | _, _ => none
def oEq : O2 := fun a b m => match datOf a m, datOf b m with
  | some x, some y => match eqD x y with
    | some c => .ok (.d (.bl c)) m
    | none => .bad
  | _, _ => .bad
def oNe : O2 := fun a b m => match datOf a m, datOf b m with
  | some x, some y => match eqD x y with
    | some c => .ok (.d (.bl (!c))) m
    | none => .bad
  | _, _ => .bad
def rEqU (K : PySem.W.Frag) : R2 := fun x y H Q => rEq x y H Q ∨ rEqD K x y H Q
def rNeU (K : PySem.W.Frag) : R2 := fun x y H Q => rNe x y H Q ∨ rNeD K x y H Q
theorem eqD_rep {K : PySem.W.Frag} {mg : Str → Option Value} {H : Hp} {v u : V} {x y : D} {c : Bool} (h : eqD x y = some c) (rx : Rep K mg H v x) (ry : Rep K mg H u y) :
    (scal v u = true ∧ decide (v = u) = c) ∨ ∃ p q, Dp K H v p ∧ Dp K H u q ∧ SeqAt.shaped p = true ∧ SeqAt.shaped q = true ∧ PyData.eqv p q = c := by
  unfold eqD at h
  split at h
  · cases h; cases rx; cases ry; exact .inl ⟨rfl, by simp⟩
  · cases h; cases rx; cases ry; exact .inl ⟨rfl, by simp⟩
  · cases h; cases rx; cases ry; exact .inl ⟨rfl, by simp⟩
  · cases h; cases rx; cases ry; exact .inl ⟨rfl, by simp⟩
  · cases h; cases rx; cases ry; exact .inl ⟨rfl, by simp⟩
  · cases h; cases rx; cases ry; exact .inl ⟨rfl, by simp⟩
  · cases h; cases rx; cases ry; exact .inl ⟨rfl, by simp⟩
  · cases h; cases rx; cases ry; exact .inl ⟨rfl, by simp⟩
  · cases h; cases rx; cases ry; exact .inl ⟨rfl, by simp⟩
  · cases h; cases rx; cases ry; exact .inl ⟨rfl, by simp⟩
  · split at h
    · rename_i p q hp hq
      split at h
      · rename_i hs
        rw [Bool.and_eq_true] at hs
        cases h
        exact .inr ⟨p, q, rx.dp hp, ry.dp hq, hs.1, hs.2, rfl⟩
      · cases h
    · cases h
theorem s_eq {K : PySem.W.Frag} {mg : Str → Option Value} : S2 K mg (rEqU K) oEq := by
  intro Wx σ Hi ι m H x y a b Q M rx ry g
  unfold oEq at g
  split at g
  · rename_i d e h1 h2
    split at g
    · rename_i c hc
      have q := g.here (rep := RepW K mg) M (x := .bl c) (.bl c)
      rcases eqD_rep hc (datOf_rep M h1 rx) (datOf_rep M h2 ry) with ⟨s, e⟩ | ⟨p, q', z1, z2, z3, z4, e⟩
      · subst e; exact .inl ⟨s, q⟩
      · subst e; exact .inr ⟨p, q', z1, z2, z3, z4, q⟩
    · exact g.elim
  · exact g.elim
theorem s_ne {K : PySem.W.Frag} {mg : Str → Option Value} : S2 K mg (rNeU K) oNe := by
  intro Wx σ Hi ι m H x y a b Q M rx ry g
  unfold oNe at g
  split at g
  · rename_i d e h1 h2
    split at g
    · rename_i c hc
      have q := g.here (rep := RepW K mg) M (x := .bl (!c)) (.bl (!c))
      rcases eqD_rep hc (datOf_rep M h1 rx) (datOf_rep M h2 ry) with ⟨s, e⟩ | ⟨p, q', z1, z2, z3, z4, e⟩
      · subst e; exact .inl ⟨s, q⟩
      · subst e; exact .inr ⟨p, q', z1, z2, z3, z4, q⟩
    · exact g.elim
  · exact g.elim
theorem op_eqU {X : Cx} {k : Nat} (hr : Room k X.A) : OpR X (compareOp .Eq) (rEqU X.K) := OpR.or op_eq (op_eqD hr.units)
theorem op_neU {X : Cx} {k : Nat} (hr : Room k X.A) : OpR X (compareOp .NotEq) (rNeU X.K) := OpR.or op_ne (op_neD hr.units)
/-! ### is -/
def oIs : O2 := fun a b m => match a, b with
  | .d .non, .d .non => .ok (.d (.bl true)) m
  | .d (.int _), .d .non => .ok (.d (.bl false)) m
  | .d (.str _), .d .non => .ok (.d (.bl false)) m
  | .d (.bl _), .d .non => .ok (.d (.bl false)) m
  | .d (.tup _), .d .non => .ok (.d (.bl false)) m
  | .d (.lst _), .d .non => .ok (.d (.bl false)) m
  | .d (.obj _ _ _), .d .non => .ok (.d (.bl false)) m
  | .m _, .d .non => .ok (.d (.bl false)) m
  | .d (.bl x), .d (.bl y) => .ok (.d (.bl (decide (x = y)))) m
  | _, _ => .bad
def rIsU : R2 := fun x y H Q => (fun x y H Q => y = .non ∧ Q (.bl (decide (x = .non))) H) x y H Q ∨ rIsB x y H Q
theorem s_is {K : PySem.W.Frag} {mg : Str → Option Value} : S2 K mg rIsU oIs := by
  intro Wx σ Hi ι m H x y a b Q M rx ry g
  unfold oIs at g
  split at g
  · cases rx; cases ry; exact .inl ⟨rfl, g.here (rep := RepW K mg) M (.bl true)⟩
  · cases rx; cases ry; exact .inl ⟨rfl, g.here (rep := RepW K mg) M (.bl false)⟩
  · cases rx; cases ry; exact .inl ⟨rfl, g.here (rep := RepW K mg) M (.bl false)⟩
  · cases rx; cases ry; exact .inl ⟨rfl, g.here (rep := RepW K mg) M (.bl false)⟩
  · cases rx; cases ry; exact .inl ⟨rfl, g.here (rep := RepW K mg) M (.bl false)⟩
  · cases rx; cases ry; exact .inl ⟨rfl, g.here (rep := RepW K mg) M (.bl false)⟩
  · cases rx; cases ry; exact .inl ⟨rfl, g.here (rep := RepW K mg) M (.bl false)⟩
  · obtain ⟨a1, _, rfl⟩ := rx; cases ry; exact .inl ⟨rfl, g.here (rep := RepW K mg) M (.bl false)⟩
  · cases rx; cases ry; exact .inr ⟨_, _, rfl, rfl, g.here (rep := RepW K mg) M (.bl _)⟩
  · exact g.elim
theorem op_isU {X : Cx} : OpR X (compareOp .Is) rIsU := OpR.or op_isN op_isBl
def oIsNot : O2 := fun a b m => match oIs a b m with
  | .ok (.d (.bl c)) m => .ok (.d (.bl (!c))) m
  | _ => .bad
end GD
/-! GD6: subscripts, slices, stores, built-ins. -/
namespace GD
open PySem PySem.Spec PyProof.Rows L2
/-! ### subscripts -/
theorem atI_rep {K : PySem.W.Frag} {mg : Str → Option Value} {H : Hp} {vs : List V} {ds : List D} {i : Int} {d : D} (r : RepL K mg H vs ds) (h : atI ds i = some d) : ∃ v, atI vs i = some v ∧ Rep K mg H v d := by
  unfold atI at h ⊢
  rw [r.length]
  cases e : ixN ds.length i with
  | none => rw [e] at h; cases h
  | some j =>
    rw [e] at h
    exact r.get h
def oIx : O2 := fun a b m => match a, b with
  | .d (.tup xs), .d (.int i) => match atI xs i with
    | some x => .ok (.d x) m
    | none => .bad
  | .d (.fls xs), .d (.int i) => match atI xs i with
    | some x => .ok (.d x) m
    | none => .bad
  | .d (.str x), .d (.int i) => if x.length ≤ 100000 then match atI x.cps.toList i with
    | some c => .ok (.d (.str ⟨#[c]⟩)) m
    | none => .bad else .bad
  | a, .d (.int i) => match lstOf a m with
    | some xs => match atI xs i with
      | some x => .ok (.d x) m
      | none => .bad
    | none => .bad
  | _, _ => .bad
def rIxU (K : PySem.W.Frag) : R2 := fun x y H Q => rIxL K x y H Q ∨ (rIxT K x y H Q ∨ rIxS x y H Q)
theorem ix_U {X : Cx} : IxR X (rIxU X.K) := IxR.or ix_list (IxR.or ix_tup ix_str)
theorem s_ix {K : PySem.W.Frag} {mg : Str → Option Value} : S2 K mg (rIxU K) oIx := by
  intro Wx σ Hi ι m H x y a b Q M rx ry g
  unfold oIx at g
  split at g
  · split at g
    · rename_i e
      cases ry
      cases rx with
      | tup s r =>
        obtain ⟨v, h1, h2⟩ := atI_rep r e
        exact .inr (.inl ⟨_, _, _, v, rfl, rfl, sqT_mono M.sub s, h1, g _ _ _ _ Step.refl M h2⟩)
    · exact g.elim
  · split at g
    · rename_i e
      cases ry
      cases rx with
      | fls s r =>
        obtain ⟨v, h1, h2⟩ := atI_rep r e
        exact .inl ⟨_, _, _, v, rfl, rfl, sqL_mono M.sub s, h1, g _ _ _ _ Step.refl M h2⟩
    · exact g.elim
  · split at g
    · rename_i hl
      split at g
      · rename_i c e
        cases ry
        cases rx
        exact .inr (.inr ⟨_, _, c, rfl, rfl, sz5 hl, e, g _ _ _ _ Step.refl M (.str _)⟩)
      · exact g.elim
    · exact g.elim
  · split at g
    · rename_i xs e1
      split at g
      · rename_i e
        cases ry
        obtain ⟨a1, v1, rfl, q1, r1⟩ := lstOf_rep M e1 rx
        obtain ⟨v, h1, h2⟩ := atI_rep r1 e
        exact .inl ⟨_, _, _, v, rfl, rfl, .inl (.inl q1), h1, g _ _ _ _ Step.refl M h2⟩
      · exact g.elim
    · exact g.elim
  · exact g.elim
section
variable {X : Cx} {Wx : WX} {kk : Nat}
theorem pd_ix {a b : Expr} {pos : Pos} {fa fb : Ev} (ha : PE X a (tD X.K X.mg Wx fa)) (hb : PE X b (tD X.K X.mg Wx fb)) (hs : PlainIx b) : PE X (.Subscript a b pos) (tD X.K X.mg Wx (fOp oIx fa fb)) :=
  PE.imp (pe_ix ix_U ha hb hs) fun σ H Q t => by
    obtain ⟨Hi, ι, ρ, m, R, g⟩ := t
    exact ⟨Hi, ι, ρ, m, R, good_bind g fun x m1 Hi1 ι1 v H1 st M rv g1 => ⟨Hi1, ι1, ρ, m1, R.step st M, good_bind g1 fun y m2 Hi2 ι2 u H2 st2 M2 ru g2 => s_ix _ _ _ _ _ _ _ _ _ _ _ M2 (rv.step st2) ru g2⟩⟩
end
/-! ### slices -/
def cutD (xs : List D) (lo hi : Option Int) : List D := (xs.drop (HT.sIx xs.length 0 lo)).take (HT.sIx xs.length xs.length hi - HT.sIx xs.length 0 lo)
theorem cut_rep {K : PySem.W.Frag} {mg : Str → Option Value} {H : Hp} {vs : List V} {ds : List D} (r : RepL K mg H vs ds) (lo hi : Option Int) : RepL K mg H (cutV vs lo hi) (cutD ds lo hi) := by
  unfold cutV cutD
  rw [r.length]
  exact (r.drop _).take _
abbrev EvO := Env → Mem → R (Option Int)
def pNone : EvO := fun _ m => .ok none m
def pSome (a : Ev) : EvO := fun ρ m => (a ρ m).bind fun x m => match x with
  | .d (.int i) => .ok (some i) m
  | _ => .bad
def tDO (K : PySem.W.Frag) (mg : Str → Option Value) (Wx : WX) (f : EvO) : TO := fun σ H Q => ∃ Hi ι ρ m, Rel K mg Hi ι ρ m σ H ∧ Good K mg (fun _ _ x a => x = a) Wx σ Hi ι H (f ρ m) Q
/-- mu: the new list may be changed -/
def oSl (mu : Bool) (a : W) (lo hi : Option Int) (m : Mem) : R W := match a with
  | .d (.tup xs) => .ok (.d (.tup (cutD xs lo hi))) m
  | .d (.str x) => if x.length ≤ 100000 then .ok (.d (.str (cutS x lo hi))) m else .bad
  | .d (.fls xs) => if mu then .ok (.m m.length) (m ++ [.lst (cutD xs lo hi)]) else .ok (.d (.lst (cutD xs lo hi))) m
  | a => match lstOf a m with
    | some xs => if mu then .ok (.m m.length) (m ++ [.lst (cutD xs lo hi)]) else .ok (.d (.lst (cutD xs lo hi))) m
    | none => .bad
def fSl (mu : Bool) (a : Ev) (lo hi : EvO) : Ev := fun ρ m => (a ρ m).bind fun x m => (lo ρ m).bind fun l m => (hi ρ m).bind fun h m => oSl mu x l h m
section
variable {X : Cx} {Wx : WX} {kk : Nat}
theorem pod_none : PO X none (tDO X.K X.mg Wx pNone) := ⟨fun pins s σ H Q I h => po_none.run pins s σ H Q I (by
  obtain ⟨Hi, ι, ρ, m, RR, gd⟩ := h
  exact gd.here (rep := fun _ _ x a => x = a) RR.mok rfl)⟩
theorem pod_some {e : Expr} {f : Ev} (h : PE X e (tD X.K X.mg Wx f)) : PO X (some e) (tDO X.K X.mg Wx (pSome f)) := ⟨fun pins s σ H Q I t => (po_some h).run pins s σ H Q I (by
  obtain ⟨Hi, ι, ρ, m, RR, gd⟩ := t
  refine ⟨Hi, ι, ρ, m, RR, good_bind gd fun x m1 Hi1 ι1 v H1 st M rv g1 => ?_⟩
  split at g1
  · cases rv
    exact ⟨_, rfl, g1.here (rep := fun _ _ x a => x = a) M rfl⟩
  · exact g1.elim)⟩
theorem newL {K : PySem.W.Frag} {mg : Str → Option Value} {Hi H : Hp} {ι : List Addr} {m : Mem} {mu : Bool} {xs : List D} {vs : List V} {Q : VK} {σ : L2.St} (M : Mok K mg Hi ι m H) (r : RepL K mg Hi vs xs)
    (g : Good K mg (RepW K mg) Wx σ Hi ι H (if mu then .ok (.m m.length) (m ++ [.lst xs]) else .ok (.d (.lst xs)) m) Q) : ∀ p, H p = none → Q (.ref p) (upd H p (.lst vs)) := fun p hp => by
  cases mu with
  | false =>
    obtain ⟨M2, st2⟩ := M.newD (o := .lst vs) hp
    exact g _ _ _ _ st2 M2 (.lst upd_same (r.mono st2.imm))
  | true =>
    obtain ⟨M2, st2⟩ := M.newM hp r
    exact g _ _ _ _ st2 M2 ⟨p, by rw [← M.len, List.getElem?_append_right (Nat.le_refl _)]; simp, rfl⟩
theorem pd_slice {mu : Bool} {e : Expr} {lo hi : Option Expr} {pos p2 : Pos} {f : Ev} {fl fh : EvO} (he : PE X e (tD X.K X.mg Wx f)) (hl : PO X lo (tDO X.K X.mg Wx fl)) (hu : PO X hi (tDO X.K X.mg Wx fh)) : PE X (.Subscript e (.Slice lo hi none p2) pos) (tD X.K X.mg Wx (fSl mu f fl fh)) :=
  PE.imp (pe_slice (SlR.or sl_list (SlR.or sl_tupA sl_str)) he hl hu) fun σ H Q t => by
    obtain ⟨Hi, ι, ρ, m, RR, gd⟩ := t
    refine ⟨Hi, ι, ρ, m, RR, good_bind gd fun x m1 Hi1 ι1 v H1 st M rv g1 => ⟨Hi1, ι1, ρ, m1, RR.step st M, good_bind g1 fun l m2 Hi2 ι2 l' H2 st2 M2 el g2 => ⟨Hi2, ι2, ρ, m2, (RR.step st M).step st2 M2, good_bind g2 fun h m3 Hi3 ι3 h' H3 st3 M3 eh g3 => ?_⟩⟩⟩
    cases el
    cases eh
    have rv3 := (rv.step st2).step st3
    unfold oSl at g3
    split at g3
    · cases rv3 with
      | tup s r =>
        rename_i a vs
        refine .inr (.inl ⟨a, vs, rfl, sqT_mono M3.sub s, fun hw => ?_, fun _ p hp => ?_⟩)
        · refine g3 _ _ _ _ Step.refl M3 ?_
          have e1 : cutD _ l h = _ := (by unfold cutD; rw [← r.length, hw.1, hw.2] : cutD _ l h = ((_ : List D).drop 0).take (vs.length - 0))
          rw [e1, List.drop_zero, Nat.sub_zero, r.length, List.take_length]
          exact .tup s r
        · obtain ⟨M4, st4⟩ := M3.newD (o := .tup (cutV vs l h)) hp
          exact g3 _ _ _ _ st4 M4 (.tup (.inl (.inl upd_same)) ((cut_rep r l h).mono st4.imm))
    · split at g3
      · rename_i hl
        cases rv3
        exact .inr (.inr ⟨_, rfl, sz5 hl, g3 _ _ _ _ Step.refl M3 (.str _)⟩)
      · exact g3.elim
    · cases rv3 with
      | fls s r => exact .inl ⟨_, _, rfl, sqL_mono M3.sub s, newL M3 (cut_rep r l h) g3⟩
    · split at g3
      · rename_i xs e1
        obtain ⟨a1, v1, rfl, q1, r1⟩ := lstOf_rep M3 e1 rv3
        exact .inl ⟨_, _, rfl, .inl (.inl q1), newL M3 (cut_rep r1 l h) g3⟩
      · exact g3.elim
end
/-! ### stores -/
def tgSub (fo fi : Ev) : Tg := fun w ρ m => (fo ρ m).bind fun o m => (fi ρ m).bind fun i m => match o, i, w with
  | .m k, .d (.int i), .d x => match m[k]? with
    | some (.lst xs) => match ixN xs.length i with
      | some j => .ok ρ (m.set k (.lst (xs.set j x)))
      | none => .bad
    | _ => .bad
  | _, _, _ => .bad
section
variable {X : Cx} {Wx : WX} {kk : Nat}
theorem pgd_sub {o i : Expr} {pos : Pos} {fo fi : Ev} (ho : PE X o (tD X.K X.mg W0 fo)) (hi : PE X i (tD X.K X.mg W0 fi)) (ha : ∀ v, assign (.Subscript o i pos) X.env v = (do
      let ov ← holding [v] (eval o X.env)
      let iv ← holding [v, ov] (eval i X.env)
      standAt pos
      holding [v, ov, iv] (setItem ov iv v)
      release [v, ov, iv] []) := by intro _; rfl) : PG X (.Subscript o i pos) (tDG X.K X.mg (tgSub fo fi)) := PG.imp (pg_sub ho hi set_list ha) fun v σ H Q t => by
  obtain ⟨Hi, ι, ρ, m, w, RR, rw', gd⟩ := t
  refine ⟨Hi, ι, ρ, m, RR, ?_⟩
  unfold tgSub at gd
  cases e1 : fo ρ m with
  | exc c ns vs m1 => rw [e1] at gd; exact gd.elim
  | bad => rw [e1] at gd; exact gd.elim
  | ok ow m1 =>
    rw [e1, R.bind_ok] at gd
    intro Hi1 ι1 ov H1 st1 M1 ro
    refine ⟨Hi1, ι1, ρ, m1, RR.step st1 M1, ?_⟩
    cases e2 : fi ρ m1 with
    | exc c ns vs m1 => rw [e2] at gd; exact gd.elim
    | bad => rw [e2] at gd; exact gd.elim
    | ok iw m2 =>
      rw [e2, R.bind_ok] at gd
      intro Hi2 ι2 iv H2 st2 M2 ri
      have ro2 := ro.step st2
      have rw2 := (rw'.step st1).step st2
      cases ow with
      | d x => exact gd.elim
      | m k =>
        cases iw with
        | m k => exact gd.elim
        | d ix =>
          cases ix with
          | int ii =>
            cases w with
            | m k => exact gd.elim
            | d x =>
              dsimp only at gd
              cases e3 : m2[k]? with
              | none => rw [e3] at gd; exact gd.elim
              | some mo =>
                cases mo with
                | ins c ns vs => rw [e3] at gd; exact gd.elim
                | dead => rw [e3] at gd; exact gd.elim
                | tab P0 q0 => rw [e3] at gd; exact gd.elim
                | dic w0 kv0 => rw [e3] at gd; exact gd.elim
                | iset w0 xs0 => rw [e3] at gd; exact gd.elim
                | lks js0 => rw [e3] at gd; exact gd.elim
                | own k0 f0 xs0 => rw [e3] at gd; exact gd.elim
                | lst xs =>
                  rw [e3] at gd
                  dsimp only at gd
                  cases e4 : ixN xs.length ii with
                  | none => rw [e4] at gd; exact gd.elim
                  | some j =>
                    rw [e4] at gd
                    obtain ⟨a, rfl, h1, us, h2, h3⟩ := M2.get e3 ro2
                    cases ri
                    refine ⟨a, us, ii, j, rfl, rfl, h2, by rw [h3.length]; exact e4, ?_⟩
                    obtain ⟨M3, st3⟩ := M2.set h1 e3 (RepL.set rw2 j h3)
                    exact gd _ _ _ _ ((st1.trans st2).trans st3) ⟨M3, ((RR.slots.step st1).step st2).step st3⟩
          | _ => exact gd.elim
end
/-! ### methods of built-in types -/
def isL (w : W) (m : Mem) : Bool := (lstOf w m).isSome
abbrev OM := W → List W → Mem → R W
def fBM (ty : W → Mem → Bool) (op : OM) (fo : Ev) (fa : EvL) : Ev := fun ρ m => (fo ρ m).bind fun o m => if ty o m then (fa ρ m).bind fun ws m => op o ws m else .bad
def fBM0 (ty : W → Mem → Bool) (op : OM) (fo : Ev) : Ev := fun ρ m => (fo ρ m).bind fun o m => if ty o m then op o [] m else .bad
def STy (K : PySem.W.Frag) (mg : Str → Option Value) (T : String) (ty : W → Mem → Bool) : Prop := ∀ (Hi : Hp) (ι : List Addr) (m : Mem) (H : Hp) (x : V) (o : W), Mok K mg Hi ι m H → RepW K mg Hi ι x o → ty o m = true → tyV K T x H
def SM (K : PySem.W.Frag) (mg : Str → Option Value) (r : V → List V → Hp → VK → Prop) (op : OM) : Prop := ∀ (Wx : WX) (σ : L2.St) (Hi : Hp) (ι : List Addr) (m : Mem) (H : Hp) (x : V) (xs : List V) (o : W) (ws : List W) (Q : VK), Mok K mg Hi ι m H → RepW K mg Hi ι x o → RepWs K mg Hi ι xs ws →
  Good K mg (RepW K mg) Wx σ Hi ι H (op o ws m) Q → r x xs H Q
theorem ty_list {K : PySem.W.Frag} {mg : Str → Option Value} : STy K mg "list" isL := fun Hi ι m H x o M rx h => by
  unfold isL at h
  obtain ⟨xs, e⟩ := Option.isSome_iff_exists.mp h
  obtain ⟨a, vs, rfl, q, _⟩ := lstOf_rep M e rx
  exact .inl ⟨rfl, vs, .inl (.inl q)⟩
section
variable {X : Cx} {Wx : WX} {kk : Nat}
theorem pd_bm {o e : Expr} {es : List Expr} {apos cpos : Pos} {fo : Ev} {fa : EvL} {T id : String} {name : Str} {r : V → List V → Hp → VK → Prop} {ty : W → Mem → Bool} {op : OM} (pa : PlainAttrs T) (slot : Slot T name id) (hty : typeOf (.builtin id) = pure (.type "method_descriptor")) (hm : MtR X id r)
    (st : STy X.K X.mg T ty) (so : SM X.K X.mg r op) (ho : PE X o (tD X.K X.mg Wx fo)) (ha : PA X (e :: es) (tDA X.K X.mg Wx fa))
    (hbase : attributeBase o name X.env (eval o X.env) = eval o X.env := by rfl)
    (hfew : ((backTo cpos (starEach (e :: es) X.env)).all (fun x => !x.1) && (backToKw cpos (keywordEach [] X.env)).all (fun x => x.1.isSome)
      && decide ((e :: es).length + ([] : List Keyword).length + (if ([] : List Keyword).isEmpty then 0 else 1) < 30)) = true := by rfl)
    (hline : (apos.endLine == cpos.line) = true := by rfl) (hs : starEach (e :: es) X.env = (false, eval e X.env) :: starEach es X.env := by rfl) (hplain : (backTo cpos (starEach es X.env)).any (·.1) = false := by rfl) :
    PE X (.Call (.Attribute o name apos) (e :: es) [] cpos) (tD X.K X.mg Wx (fBM ty op fo fa)) :=
  PE.imp (pe_bm pa slot hty hm ho ha hbase hfew hline hs hplain) fun σ H Q t => by
    obtain ⟨Hi, ι, ρ, m, RR, gd⟩ := t
    refine ⟨Hi, ι, ρ, m, RR, good_bind gd fun ow m1 Hi1 ι1 ov H1 st1 M1 ro g1 => ?_⟩
    split at g1
    · rename_i h
      exact ⟨st _ _ _ _ _ _ M1 ro h, Hi1, ι1, ρ, m1, RR.step st1 M1, good_bind g1 fun ws m2 Hi2 ι2 vs H2 st2 M2 rs g2 => so _ _ _ _ _ _ _ _ _ _ _ M2 (ro.step st2) rs g2⟩
    · exact g1.elim
end
/-- a changeable list becomes another -/
theorem Mok.put {K : PySem.W.Frag} {mg : Str → Option Value} {Hi H : Hp} {ι : List Addr} {m : Mem} {k : Nat} {xs ys : List D} {x : V} (M : Mok K mg Hi ι m H) (e : m[k]? = some (.lst xs)) (r : RepW K mg Hi ι x (.m k)) :
    ∃ a vs, x = .ref a ∧ H a = some (.lst vs) ∧ RepL K mg Hi vs xs ∧ ∀ us, RepL K mg Hi us ys → Mok K mg Hi ι (m.set k (.lst ys)) (upd H a (.lst us)) ∧ Step Hi ι H Hi ι (upd H a (.lst us)) := by
  obtain ⟨a, rfl, h1, us, h2, h3⟩ := M.get e r
  exact ⟨a, us, rfl, h2, h3, fun us ru => M.set h1 e ru⟩
def oAppend : OM := fun o ws m => match o, ws with
  | .m k, [.d x] => match m[k]? with
    | some (.lst xs) => if xs.length < 100000 then .ok (.d .non) (m.set k (.lst (xs ++ [x]))) else .bad
    | _ => .bad
  | _, _ => .bad
/-! ### built-ins -/
def oAbs : ON := fun ws m => match ws with
  | [.d (.int i)] => .ok (.d (.int (if i < 0 then -i else i))) m
  | _ => .bad
theorem s_abs {K : PySem.W.Frag} {mg : Str → Option Value} : SN K mg (fun xs H Q => ∃ i, xs = [.int i] ∧ Q (.int (if i < 0 then -i else i)) H) oAbs := by
  intro Wx σ Hi ι m H xs ws Q M rs g
  unfold oAbs at g
  split at g
  · cases rs with
    | cons r1 r2 => cases r2; cases r1; exact ⟨_, rfl, g.here (rep := RepW K mg) M (.int _)⟩
  · exact g.elim
def oInt : ON := fun ws m => match ws with
  | [.d (.int i)] => .ok (.d (.int i)) m
  | _ => .bad
theorem s_int {K : PySem.W.Frag} {mg : Str → Option Value} : SN K mg (fun xs H Q => (∃ i, xs = [.int i] ∧ Q (.int i) H) ∨ ∃ k, xs = [.bl k] ∧ Q (.int (if k then 1 else 0)) H) oInt := by
  intro Wx σ Hi ι m H xs ws Q M rs g
  unfold oInt at g
  split at g
  · cases rs with
    | cons r1 r2 => cases r2; cases r1; exact .inl ⟨_, rfl, g.here (rep := RepW K mg) M (.int _)⟩
  · exact g.elim
def oLen : ON := fun ws m => match ws with
  | [.d (.tup xs)] => .ok (.d (.int xs.length)) m
  | [.d (.fls xs)] => .ok (.d (.int xs.length)) m
  | [.d (.str x)] => if x.length ≤ 100000 then .ok (.d (.int x.length)) m else .bad
  | [w] => match lstOf w m with
    | some xs => .ok (.d (.int xs.length)) m
    | none => .bad
  | _ => .bad
theorem s_len {K : PySem.W.Frag} {mg : Str → Option Value} : SN K mg (fun xs H Q => ∃ x n, xs = [x] ∧ LenV K x H n ∧ Q (.int n) H) oLen := by
  intro Wx σ Hi ι m H xs ws Q M rs g
  unfold oLen at g
  split at g
  · cases rs with
    | cons r1 r2 =>
      cases r2
      cases r1 with
      | tup s r => exact ⟨_, _, rfl, .inr ⟨_, sqT_mono M.sub s, rfl⟩, by rw [r.length]; exact g.here (rep := RepW K mg) M (.int _)⟩
  · cases rs with
    | cons r1 r2 =>
      cases r2
      cases r1 with
      | fls s r => exact ⟨_, _, rfl, .inl ⟨_, sqL_mono M.sub s, rfl⟩, by rw [r.length]; exact g.here (rep := RepW K mg) M (.int _)⟩
  · split at g
    · rename_i hl
      cases rs with
      | cons r1 r2 => cases r2; cases r1; exact ⟨_, _, rfl, ⟨sz5 hl, rfl⟩, g.here (rep := RepW K mg) M (.int _)⟩
    · exact g.elim
  · split at g
    · rename_i e
      cases rs with
      | cons r1 r2 =>
        cases r2
        obtain ⟨a, vs, rfl, q, r⟩ := lstOf_rep M e r1
        exact ⟨_, _, rfl, .inl ⟨vs, .inl (.inl q), rfl⟩, by rw [r.length]; exact g.here (rep := RepW K mg) M (.int _)⟩
    · exact g.elim
  · exact g.elim
/-- list(x); mu: it may be changed -/
def oList (mu : Bool) : ON := fun ws m => match ws with
  | [.d (.tup xs)] => if mu then .ok (.m m.length) (m ++ [.lst xs]) else .ok (.d (.lst xs)) m
  | [.d (.fls xs)] => if mu then .ok (.m m.length) (m ++ [.lst xs]) else .ok (.d (.lst xs)) m
  | [w] => match lstOf w m with
    | some xs => if mu then .ok (.m m.length) (m ++ [.lst xs]) else .ok (.d (.lst xs)) m
    | none => .bad
  | _ => .bad
theorem s_list {K : PySem.W.Frag} {mg : Str → Option Value} (mu : Bool) : SN K mg (fun xs H Q => ∃ p ys, xs = [.ref p] ∧ (SqL K H p ys ∨ SqT K H p ys) ∧ ∀ l, H l = none → Q (.ref l) (upd H l (.lst ys))) (oList mu) := by
  intro Wx σ Hi ι m H xs ws Q M rs g
  unfold oList at g
  split at g
  · cases rs with
    | cons r1 r2 =>
      cases r2
      cases r1 with
      | tup s r => exact ⟨_, _, rfl, .inr (sqT_mono M.sub s), newL M r g⟩
  · cases rs with
    | cons r1 r2 =>
      cases r2
      cases r1 with
      | fls s r => exact ⟨_, _, rfl, .inl (sqL_mono M.sub s), newL M r g⟩
  · split at g
    · rename_i e
      cases rs with
      | cons r1 r2 =>
        cases r2
        obtain ⟨a, vs, rfl, q, r⟩ := lstOf_rep M e r1
        exact ⟨_, _, rfl, .inl (.inl (.inl q)), newL M r g⟩
    · exact g.elim
  · exact g.elim
/-- max, min of ints: two, or a list -/
def maxL : List Int → Int
  | [] => 0
  | [a] => a
  | a :: r => max a (maxL r)
def minL : List Int → Int
  | [] => 0
  | [a] => a
  | a :: r => min a (minL r)
theorem maxL_spec : ∀ (l : List Int), 0 < l.length → maxL l ∈ l ∧ ∀ y ∈ l, y ≤ maxL l
  | [], h => by simp at h
  | [a], _ => by simp [maxL]
  | a :: b :: r, _ => by
    obtain ⟨h1, h2⟩ := maxL_spec (b :: r) (by simp)
    have e : maxL (a :: b :: r) = max a (maxL (b :: r)) := rfl
    rw [e]
    refine ⟨?_, fun y hy => ?_⟩
    · by_cases hc : a ≤ maxL (b :: r)
      · rw [Int.max_eq_right hc]; exact List.mem_cons_of_mem _ h1
      · rw [Int.max_eq_left (by omega)]; exact List.mem_cons_self
    · rcases List.mem_cons.mp hy with rfl | hy
      · omega
      · have := h2 y hy; omega
def oMax : ON := fun ws m => match ws with
  | [.d (.int i), .d (.int j)] => .ok (.d (.int (if j > i then j else i))) m
  | [w] => match lstOf w m with
    | some xs => match intsD xs with
      | some ns => if 0 < ns.length then .ok (.d (.int (maxL ns))) m else .bad
      | none => .bad
    | none => .bad
  | _ => .bad
def oMin : ON := fun ws m => match ws with
  | [.d (.int i), .d (.int j)] => .ok (.d (.int (if j < i then j else i))) m
  | [w] => match lstOf w m with
    | some xs => match intsD xs with
      | some ns => if 0 < ns.length then .ok (.d (.int (minL ns))) m else .bad
      | none => .bad
    | none => .bad
  | _ => .bad
theorem s_max {K : PySem.W.Frag} {mg : Str → Option Value} : SN K mg (fun xs H Q => (∃ i j, xs = [.int i, .int j] ∧ Q (.int (if j > i then j else i)) H) ∨ rMax K xs H Q) oMax := by
  intro Wx σ Hi ι m H xs ws Q M rs g
  unfold oMax at g
  split at g
  · cases rs with
    | cons r1 r2 => cases r2 with | cons r2 r3 => cases r3; cases r1; cases r2; exact .inl ⟨_, _, rfl, g.here (rep := RepW K mg) M (.int _)⟩
  · split at g
    · rename_i e
      split at g
      · rename_i ns e2
        split at g
        · rename_i hl
          cases rs with
          | cons r1 r2 =>
            cases r2
            obtain ⟨a, vs, rfl, q, r⟩ := lstOf_rep M e r1
            rw [ints_eq e2] at r
            rw [RepL.ints_ r] at q
            refine .inr ⟨a, ns, rfl, .inl (.inl q), hl, fun z hz1 hz2 => ?_⟩
            obtain ⟨p1, p2⟩ := maxL_spec ns hl
            have e3 : z = maxL ns := by have := hz2 _ p1; have := p2 _ hz1; omega
            subst e3
            exact g.here (rep := RepW K mg) M (.int _)
        · exact g.elim
      · exact g.elim
    · exact g.elim
  · exact g.elim
def oAll : ON := fun ws m => match ws with
  | [w] => match lstOf w m with
    | some xs => match boolsD xs with
      | some ns => .ok (.d (.bl (ns.all id))) m
      | none => .bad
    | none => .bad
  | _ => .bad
theorem s_all {K : PySem.W.Frag} {mg : Str → Option Value} : SN K mg (rAll K) oAll := by
  intro Wx σ Hi ι m H xs ws Q M rs g
  unfold oAll at g
  split at g
  · split at g
    · rename_i e
      split at g
      · rename_i ns e2
        cases rs with
        | cons r1 r2 =>
          cases r2
          obtain ⟨a, vs, rfl, q, r⟩ := lstOf_rep M e r1
          rw [bools_eq e2] at r
          rw [RepL.bools_ r] at q
          exact ⟨a, ns, rfl, .inl (.inl q), g.here (rep := RepW K mg) M (.bl _)⟩
      · exact g.elim
    · exact g.elim
  · exact g.elim
end GD
/-! GD7: isinstance, zip, enumerate, keywords. -/
namespace GD
open PySem PySem.Spec PyProof.Rows L2
/-! ### isinstance of a built-in class -/
def tyName : W → Mem → Option String
  | .d .non, _ => some "NoneType"
  | .d (.bl _), _ => some "bool"
  | .d (.int _), _ => some "int"
  | .d (.str _), _ => some "str"
  | .d (.tup _), _ => some "tuple"
  | .d (.lst _), _ => some "list"
  | .m k, m => match m[k]? with
    | some (.lst _) => some "list"
    | _ => none
  | _, _ => none
def subTy (t n : String) : Option Bool :=
  if ["list", "tuple", "dict", "bool", "int", "str"].contains n && ["NoneType", "bool", "int", "str", "tuple", "list"].contains t then some (t == n || (t == "bool" && n == "int")) else none
theorem subTy_kit {t n : String} {b : Bool} (h : subTy t n = some b) : kitB t n = some b := by
  unfold subTy at h
  split at h
  · rename_i hc
    rw [Bool.and_eq_true] at hc
    cases h
    obtain ⟨h1, h2⟩ := hc
    simp only [List.contains_eq_mem, List.mem_cons, List.not_mem_nil, or_false, decide_eq_true_eq] at h1 h2
    rcases h1 with rfl | rfl | rfl | rfl | rfl | rfl <;> rcases h2 with rfl | rfl | rfl | rfl | rfl | rfl <;> decide +kernel
  · cases h
def oIsi : ON := fun ws m => match ws with
  | [x, .d (.ty n)] => match tyName x m with
    | some t => match subTy t n with
      | some b => .ok (.d (.bl b)) m
      | none => .bad
    | none => .bad
  | _ => .bad
theorem tyName_rep {K : PySem.W.Frag} {mg : Str → Option Value} {Hi H : Hp} {ι : List Addr} {m : Mem} (M : Mok K mg Hi ι m H) {w : W} {v : V} {t : String} (h : tyName w m = some t) (r : RepW K mg Hi ι v w) : TyX K H v (.type t) := by
  unfold tyName at h
  split at h
  · cases h; cases r; exact .base .non
  · cases h; cases r; exact .base (.bl _)
  · cases h; cases r; exact .base (.int _)
  · cases h; cases r; exact .base (.str _)
  · cases h
    cases r with
    | tup s r =>
      rcases sqT_mono M.sub s with (h | ⟨o, h⟩) | ⟨o, its, n, h1, h2, _⟩
      · exact .base (.tup h)
      · exact .fTuple h
      · exact .kTuple h1 h2
  · cases h
    cases r with
    | lst s r => exact .base (.lst (M.sub _ _ s))
  · split at h
    · rename_i e
      cases h
      obtain ⟨a, rfl, h1, us, h2, h3⟩ := M.get e r
      exact .base (.lst h2)
    · cases h
  · cases h
theorem s_isi {K : PySem.W.Frag} {mg : Str → Option Value} : SN K mg (rIsi K) oIsi := by
  intro Wx σ Hi ι m H xs ws Q M rs g
  unfold oIsi at g
  split at g
  · split at g
    · rename_i t e1
      split at g
      · rename_i b e2
        cases rs with
        | cons r1 r2 =>
          cases r2 with
          | cons r2 r3 =>
            cases r3
            cases r2 with
            | ty nn => exact ⟨_, _, _, _, b, rfl, .ty _, tyName_rep M e1 r1, kit_ty (subTy_kit e2), g.here (rep := RepW K mg) M (.bl _)⟩
      · exact g.elim
    · exact g.elim
  · exact g.elim
/-! ### zip, enumerate -/
def zipD (xs ys : List D) : List W := (xs.zip ys).map fun p => W.d (.tup [p.1, p.2])
def enumD (i : Nat) : List D → List W
  | [] => []
  | x :: xs => W.d (.tup [.int (i : Int), x]) :: enumD (i + 1) xs
def iZip2 (a : EvL) : EvL := fun ρ m => (a ρ m).bind fun ws m => match ws with
  | [.d (.tup xs), .d (.tup ys)] => .ok (zipD xs ys) m
  | [.d (.lst xs), .d (.lst ys)] => .ok (zipD xs ys) m
  | _ => .bad
theorem zipD_get : ∀ {xs ys : List D} {i : Nat} {w : W}, (zipD xs ys)[i]? = some w → ∃ x y, xs[i]? = some x ∧ ys[i]? = some y ∧ w = .d (.tup [x, y])
  | [], _, _, _, h => by simp [zipD] at h
  | _ :: _, [], _, _, h => by simp [zipD] at h
  | x :: xs, y :: ys, 0, w, h => by simp [zipD] at h; exact ⟨x, y, rfl, rfl, h.symm⟩
  | x :: xs, y :: ys, i + 1, w, h => by
    obtain ⟨a, b, h1, h2, h3⟩ := zipD_get (xs := xs) (ys := ys) (i := i) (w := w) (by simpa [zipD] using h)
    exact ⟨a, b, by simpa using h1, by simpa using h2, h3⟩
theorem zipD_len (xs ys : List D) : (zipD xs ys).length = min xs.length ys.length := by simp [zipD]
theorem enumD_len : ∀ (xs : List D) (k : Nat), (enumD k xs).length = xs.length
  | [], _ => rfl
  | _ :: xs, k => by simp [enumD, enumD_len xs (k + 1)]
theorem enumD_get : ∀ {xs : List D} {k i : Nat} {w : W}, (enumD k xs)[i]? = some w → ∃ x, xs[i]? = some x ∧ w = .d (.tup [.int ((k + i : Nat) : Int), x])
  | [], _, _, _, h => by simp [enumD] at h
  | x :: xs, k, 0, w, h => by simp [enumD] at h; exact ⟨x, rfl, by simpa using h.symm⟩
  | x :: xs, k, i + 1, w, h => by
    obtain ⟨a, h1, h2⟩ := enumD_get (xs := xs) (k := k + 1) (i := i) (w := w) (by simpa [enumD] using h)
    refine ⟨a, by simpa using h1, ?_⟩
    rw [h2]
    congr 4
    omega
theorem Mok.pair {K : PySem.W.Frag} {mg : Str → Option Value} {Hi H : Hp} {ι : List Addr} {m : Mem} {T : Addr} {x y : V} {a b : D} (M : Mok K mg Hi ι m H) (hT : H T = none) (r1 : Rep K mg Hi x a) (r2 : Rep K mg Hi y b) :
    ∃ Hi2, Step Hi ι H Hi2 ι (upd H T (.tup [x, y])) ∧ Mok K mg Hi2 ι m (upd H T (.tup [x, y])) ∧ RepW K mg Hi2 ι (.ref T) (.d (.tup [a, b])) := by
  obtain ⟨M2, st2⟩ := M.newD (o := .tup [x, y]) hT
  exact ⟨_, st2, M2, Rep.tup (.inl (.inl upd_same)) (.cons (r1.mono st2.imm) (.cons (r2.mono st2.imm) .nil))⟩
theorem itOk_zipL {K : PySem.W.Frag} {mg : Str → Option Value} {Hi : Hp} {ι : List Addr} {a b : Addr} {vs us : List V} {xs ys : List D} (s1 : Hi a = some (.lst vs)) (r1 : RepL K mg Hi vs xs) (s2 : Hi b = some (.lst us)) (r2 : RepL K mg Hi us ys) : ItOk K mg Hi ι (Itz K a b) (zipD xs ys) where
  go := fun i Hi1 ι1 m1 H1 sm _ M hi => by
    rw [zipD_len] at hi
    have h1 : i < vs.length := by rw [r1.length]; omega
    have h2 : i < us.length := by rw [r2.length]; omega
    exact ⟨vs, us, vs[i], us[i], .inl (.inl (M.sub _ _ (sm _ _ s1))), .inl (.inl (M.sub _ _ (sm _ _ s2))), by simp [h1], by simp [h2]⟩
  stop := fun i Hi1 ι1 m1 H1 sm _ M hi => by
    rw [zipD_len] at hi
    exact ⟨vs, us, .inl (.inl (M.sub _ _ (sm _ _ s1))), .inl (.inl (M.sub _ _ (sm _ _ s2))), by rw [r1.length, r2.length]; omega⟩
  yld := fun i w Hi1 ι1 m1 H1 x H2 sm pr M hw hy => by
    obtain ⟨T, p, q, rfl, hT, rfl, h1, h2⟩ := hy
    obtain ⟨d, e, e1, e2, rfl⟩ := zipD_get hw
    have z1 := h1 vs (.inl (.inl (M.sub _ _ (sm _ _ s1))))
    have z2 := h2 us (.inl (.inl (M.sub _ _ (sm _ _ s2))))
    obtain ⟨v, q1, q2⟩ := r1.get e1
    obtain ⟨u, q3, q4⟩ := r2.get e2
    rw [z1] at q1
    rw [z2] at q3
    cases q1
    cases q3
    exact M.pair hT (q2.mono sm) (q4.mono sm)
theorem itOk_zipT {K : PySem.W.Frag} {mg : Str → Option Value} {Hi : Hp} {ι : List Addr} {a b : Addr} {vs us : List V} {xs ys : List D} (s1 : SqT K Hi a vs) (r1 : RepL K mg Hi vs xs) (s2 : SqT K Hi b us) (r2 : RepL K mg Hi us ys) : ItOk K mg Hi ι (RZ.ItzT K a b) (zipD xs ys) where
  go := fun i Hi1 ι1 m1 H1 sm _ M hi => by
    rw [zipD_len] at hi
    have h1 : i < vs.length := by rw [r1.length]; omega
    have h2 : i < us.length := by rw [r2.length]; omega
    exact ⟨vs, us, vs[i], us[i], sqT_mono (sm.trans M.sub) s1, sqT_mono (sm.trans M.sub) s2, by simp [h1], by simp [h2]⟩
  stop := fun i Hi1 ι1 m1 H1 sm _ M hi => by
    rw [zipD_len] at hi
    exact ⟨vs, us, sqT_mono (sm.trans M.sub) s1, sqT_mono (sm.trans M.sub) s2, by rw [r1.length, r2.length]; omega⟩
  yld := fun i w Hi1 ι1 m1 H1 x H2 sm pr M hw hy => by
    obtain ⟨T, p, q, rfl, hT, rfl, h1, h2⟩ := hy
    obtain ⟨d, e, e1, e2, rfl⟩ := zipD_get hw
    have z1 := h1 vs (sqT_mono (sm.trans M.sub) s1)
    have z2 := h2 us (sqT_mono (sm.trans M.sub) s2)
    obtain ⟨v, q1, q2⟩ := r1.get e1
    obtain ⟨u, q3, q4⟩ := r2.get e2
    rw [z1] at q1
    rw [z2] at q3
    cases q1
    cases q3
    exact M.pair hT (q2.mono sm) (q4.mono sm)
section
variable {X : Cx} {Wx : WX} {kk : Nat}
theorem pid_zip {e e2 : Expr} {p pos tpos : Pos} {elts : List Expr} {k1 : Nat} {f : EvL} (hg : Gl X "zip") (hm : X.mg "zip" = none) (ha : PA X [e, e2] (tDA X.K X.mg Wx f))
    (hs : starEach [e, e2] X.env = (false, eval e X.env) :: starEach [e2] X.env := by rfl) (hpl : (backTo pos (starEach [e2] X.env)).any (·.1) = false := by rfl) :
    PI X (.Tuple elts k1 tpos) (.Call (.Name "zip" p) [e, e2] [] pos) (tDI X.K X.mg Wx (iZip2 f)) := PI.imp (RZ.pi_zipA hg hm ha hs hpl) fun σ H Q t => by
  obtain ⟨Hi, ι, ρ, m, RR, gd⟩ := t
  refine ⟨Hi, ι, ρ, m, RR, good_bind gd fun ws m1 Hi1 ι1 vs H1 st M rv g1 => ?_⟩
  split at g1
  · cases rv with
    | cons r1 r2 =>
      cases r2 with
      | cons r2 r3 =>
        cases r3
        cases r1 with
        | tup s1 q1 =>
          cases r2 with
          | tup s2 q2 => exact ⟨_, _, _, _, rfl, .inr ⟨sqT_mono M.sub s1, sqT_mono M.sub s2, g1 _ _ _ _ Step.refl M (itOk_zipT s1 q1 s2 q2)⟩⟩
  · cases rv with
    | cons r1 r2 =>
      cases r2 with
      | cons r2 r3 =>
        cases r3
        cases r1 with
        | lst s1 q1 =>
          cases r2 with
          | lst s2 q2 => exact ⟨_, _, _, _, rfl, .inl ⟨.inl (.inl (M.sub _ _ s1)), .inl (.inl (M.sub _ _ s2)), g1 _ _ _ _ Step.refl M (itOk_zipL s1 q1 s2 q2)⟩⟩
  · exact g1.elim
end
/-! ### keywords -/
theorem PK.imp {X : Cx} {kws : List Keyword} {t t' : TA} (h : PK X kws t) (hi : ∀ σ H Q, t' σ H Q → t σ H Q) : PK X kws t' := ⟨fun p pins s σ H Q I q => h.run p pins s σ H Q I (hi σ H Q q)⟩
end GD
/-! GD8: unpacking, recursion, the law's end. -/
namespace GD
open PySem PySem.Spec PyProof.Rows L2
/-- (a, b, ..) = a tuple or a list -/
def tgUn (n : Nat) (a : TgL) : Tg := fun w ρ m => match w with
  | .d (.tup xs) => if xs.length = n then a (xs.map .d) ρ m else .bad
  | .d (.lst xs) => if xs.length = n then a (xs.map .d) ρ m else .bad
  | _ => .bad
section
variable {X : Cx} {Wx : WX} {kk : Nat}
theorem PG.or {e : Expr} {t t' : TG} (h : PG X e t) (h' : PG X e t') : PG X e (fun v σ H Q => t v σ H Q ∨ t' v σ H Q) := ⟨fun pins s σ H v u Q I r q => q.elim (h.run pins s σ H v u Q I r) (h'.run pins s σ H v u Q I r)⟩
theorem pgd_un {es : List Expr} {k : Nat} {pos : Pos} {g : TgL} {n : Nat} (hc : X.calm = true) (h : PGs X es (tDGs X.K X.mg g)) (hn : (assignEach es X.env).length = n := by rfl) (hst : (assignEach es X.env).findIdx? (·.1) = none := by rfl) :
    PG X (.Tuple es k pos) (tDG X.K X.mg (tgUn n g)) := PG.imp (PG.or (pg_tup hc h hn hst) (pg_unl hc h hn hst)) fun v σ H Q t => by
  obtain ⟨Hi, ι, ρ, m, w, RR, rw', gd⟩ := t
  cases w with
  | m k => exact gd.elim
  | d x =>
    cases x with
    | tup xs =>
      by_cases hl : xs.length = n
      · have e : tgUn n g (.d (.tup xs)) ρ m = g (xs.map .d) ρ m := if_pos hl
        rw [e] at gd
        cases rw' with
        | tup s r =>
          rename_i a vs
          exact .inl ⟨a, vs, rfl, sqT_mono RR.mok.sub s, r.length.trans hl, Hi, ι, ρ, m, _, RR, r.ws, gd⟩
      · have e : tgUn n g (.d (.tup xs)) ρ m = .bad := if_neg hl
        rw [e] at gd
        exact gd.elim
    | lst xs =>
      by_cases hl : xs.length = n
      · have e : tgUn n g (.d (.lst xs)) ρ m = g (xs.map .d) ρ m := if_pos hl
        rw [e] at gd
        cases rw' with
        | lst s r =>
          rename_i a vs
          exact .inr ⟨a, vs, rfl, .inl (.inl (RR.mok.sub _ _ s)), r.length.trans hl, Hi, ι, ρ, m, _, RR, r.ws, gd⟩
      · have e : tgUn n g (.d (.lst xs)) ρ m = .bad := if_neg hl
        rw [e] at gd
        exact gd.elim
    | _ => exact gd.elim
end
/-- a def of which nothing is told -/
theorem def_bad {P : Program} {w : World} {K : PySem.W.Frag} {mg : Str → Option Value} {base : Heap} {x : Str} {st : Stmt} {k : Nat} (T : TopDef K mg x st) : DefOk P w K mg base x k (fun _ _ => .bad) := by
  obtain ⟨f, fd, F, hm⟩ := T.ex
  exact ⟨f, fun A outer s H us vs Q E hr e0 r h => by obtain ⟨_, _, _, _, _, _, g⟩ := h; exact g.elim, hm, F.kp⟩
theorem ints_repL {K : PySem.W.Frag} {mg : Str → Option Value} {H : Hp} : ∀ ns : List Int, RepL K mg H (ns.map V.int) (ns.map D.int)
  | [] => .nil
  | n :: ns => .cons (.int n) (ints_repL ns)
end GD
/-! GD9: chains of comparisons. -/
namespace GD
open PySem PySem.Spec PyProof.Rows L2
def fChain (o o' : O2) (a b c : Ev) : Ev := fun ρ m => (a ρ m).bind fun x m => (b ρ m).bind fun y m => (o x y m).bind fun z m => match z with
  | .d (.bl true) => (c ρ m).bind fun w m => o' y w m
  | .d (.bl false) => .ok (.d (.bl false)) m
  | _ => .bad
section
variable {X : Cx} {Wx : WX} {kk : Nat}
theorem chain_imp {r r' : R2} {o o' : O2} {fa fb fc : Ev} (so : S2 X.K X.mg r o) (so' : S2 X.K X.mg r' o') {σ : L2.St} {H : Hp} {Q : VK} (t : tD X.K X.mg Wx (fChain o o' fa fb fc) σ H Q) : tChain r r' (tD X.K X.mg Wx fa) (tD X.K X.mg Wx fb) (tD X.K X.mg Wx fc) σ H Q := by
  obtain ⟨Hi, ι, ρ, m, RR, g⟩ := t
  refine ⟨Hi, ι, ρ, m, RR, good_bind g fun x m1 Hi1 ι1 v H1 st M rv g1 => ⟨Hi1, ι1, ρ, m1, RR.step st M, good_bind g1 fun y m2 Hi2 ι2 u H2 st2 M2 ru g2 => so Wx σ _ _ _ _ _ _ _ _ _ M2 (rv.step st2) ru (good_bind g2 fun z m3 Hi3 ι3 z' H3 st3 M3 rz g3 => ?_)⟩⟩
  split at g3
  · cases rz
    refine ⟨true, rfl, ?_⟩
    rw [if_pos rfl]
    exact ⟨Hi3, ι3, ρ, m3, ((RR.step st M).step st2 M2).step st3 M3, good_bind g3 fun q m4 Hi4 ι4 q' H4 st4 M4 rq g4 => so' Wx σ _ _ _ _ _ _ _ _ _ M4 ((ru.step st3).step st4) rq g4⟩
  · cases rz
    refine ⟨false, rfl, ?_⟩
    rw [if_neg (by decide)]
    exact g3.here (rep := RepW X.K X.mg) M3 (.bl false)
  · exact g3.elim
theorem pd_chain {a b c : Expr} {op op' : CmpOp} {pos : Pos} {r r' : R2} {o o' : O2} {fa fb fc : Ev} (ho : OpR X (compareOp op) r) (so : S2 X.K X.mg r o) (ho' : OpR X (compareOp op') r') (so' : S2 X.K X.mg r' o') (ha : PE X a (tD X.K X.mg Wx fa)) (hb : PE X b (tD X.K X.mg Wx fb)) (hc : PE X c (tD X.K X.mg Wx fc))
    (hm : lastMarks [op, op'] [b, c] = false := by with_unfolding_all rfl) : PE X (.Compare a [op, op'] [b, c] pos) (tD X.K X.mg Wx (fChain o o' fa fb fc)) :=
  PE.imp (pe_chain ho ho' ha hb hc hm) fun σ H Q t => chain_imp so so' t
theorem ptd_chain {a b c : Expr} {op op' : CmpOp} {pos : Pos} {r r' : R2} {o o' : O2} {fa fb fc : Ev} (ho : OpR X (compareOp op) r) (so : S2 X.K X.mg r o) (ho' : OpR X (compareOp op') r') (so' : S2 X.K X.mg r' o') (ha : PE X a (tD X.K X.mg Wx fa)) (hb : PE X b (tD X.K X.mg Wx fb)) (hc : PE X c (tD X.K X.mg Wx fc))
    (hm : lastMarks [op, op'] [b, c] = false := by with_unfolding_all rfl) : PT X (.Compare a [op, op'] [b, c] pos) (tDT X.K X.mg Wx (gBool (fChain o o' fa fb fc))) :=
  PT.imp (pt_chain ho ho' ha hb hc hm) fun σ H Q t => by
    obtain ⟨Hi, ι, ρ, m, RR, g⟩ := t
    refine chain_imp so so' ⟨Hi, ι, ρ, m, RR, good_bind g fun z m1 Hi1 ι1 z' H1 st M rz g1 => ?_⟩
    split at g1
    · cases rz
      exact ⟨_, rfl, g1.here M rfl⟩
    · exact g1.elim
end
/-! ### powers of great numbers -/
end GD
/-! GDG: a whole number or a tuple looked up in a dict of texts. -/
namespace PySem
open Sem (wp)
open SeqAt
mutual
theorem Reads.nested {h : Heap} : ∀ (d : PyData) (u : Value) (as : List Addr) (k : NestedKey), Reads h u d as → dataK d = some k → NestedIs h k u
  | .none, _, _, _, r, e => by cases r; cases e; exact .none
  | .bool b, _, _, _, r, e => by cases r; cases e; exact .bool rfl
  | .int i, _, _, _, r, e => by cases r; cases e; exact .int _ _
  | .str x, _, _, _, r, e => by cases r; cases e; exact .text _ _
  | .tuple xs, _, _, _, r, e => by
    cases r with
    | tuple h1 h2 h3 h4 =>
      unfold dataK at e
      obtain ⟨ks, e1, e2⟩ := Option.map_eq_some_iff.mp e
      subst e2
      exact .tup h1 h2 h3 (ReadsAll.nested xs _ _ ks h4 e1)
  | .list xs, _, _, _, r, e => by unfold dataK at e; cases e
  | .dict xs, _, _, _, r, e => by unfold dataK at e; cases e
theorem ReadsAll.nested {h : Heap} : ∀ (ds : List PyData) (us : List Value) (as : List Addr) (ks : List NestedKey), ReadsAll h us ds as → dataKs ds = some ks → NestedAll h ks us
  | [], _, _, _, r, e => by
    cases r
    unfold dataKs at e
    cases e
    exact .nil
  | d :: ds, _, _, _, r, e => by
    cases r with
    | cons r1 r2 =>
      unfold dataKs at e
      split at e
      · rename_i k ks e1 e2
        cases e
        exact .cons (Reads.nested d _ _ k r1 e1) (ReadsAll.nested ds _ _ ks r2 e2)
      · cases e
end
def NestedKey.notText : NestedKey → Bool
  | .text _ => false
  | _ => true
section
variable {prog : Program} {w : World} {A : Around} {E : Value → Shared → Prop} {s : Shared}
theorem beq_notText {k : NestedKey} (h : k.notText = true) (x : Str) : NestedKey.beq (.text x) k = false := by
  cases k <;> first | rfl | cases h
/-- no key of the dict is such a one -/
theorem wpAny_dictFind_other {d : Addr} {o : Obj} {es : Array DictEntry} {ep : Nat} {k : NestedKey} {key : Value} {hk : Int} {Q : Option Nat → Shared → Prop} (hkey : NestedIs s.heap k key) (hnt : k.notText = true) (hdp : k.depth ≤ 8) (hu : A.units + 8 < cLine)
    (ho : s.heap.get? d = some o) (hd : o.data = .dict es ep) (hs : ∀ e ∈ es, ∃ x t, e.key = .str x t) (h : Q none s) :
    wpAny (model prog w) A (dictFind d key hk) Q E s := by
  have eq : ∀ e ∈ es, EqAt A s e.key key false := fun e he => by
    obtain ⟨x, t, hx⟩ := hs e he
    have z := eqAt_key (.text x) k A s e.key key (by rw [hx]; exact .text _ _) hkey (by show A.units + min 0 _ < cLine; omega)
    rw [beq_notText hnt] at z
    exact z
  have nostr : ∀ x t, key ≠ .str x t := fun x t e => by
    subst e
    cases hkey
    cases hnt
  have qk : ∀ (E : Value → Shared → Prop) (Q : Bool → Shared → Prop), Q true s → wpAny (model prog w) A (eqIsQuiet 8 key) Q E s := fun E Q hq => quiet_key k key 8 s hkey hdp A E Q hq
  have mem : ∀ x, ∀ hlt : x < es.size, es[x] ∈ es := fun x hlt => Array.getElem_mem hlt
  unfold dictFind
  try with_reducible refine wpAny_holding ?_
  refine wpAny_bind (wpAny_dictEntries ho hd ?_)
  dsimp only
  have plain : wpAny (model prog w) A (dictWalkPlain d key hk es (placesWithHash es.size (fun i => es[i]?.map (·.hash)) hk)) Q E s := by
    unfold dictWalkPlain
    refine wpAny_bind ?_
    refine wpAny_forIn_list _ (fun rest b s' => s' = s ∧ b = (none, ())) _ ?_ ?_ _ _ ⟨rfl, rfl⟩
    · rintro x rest b s' ⟨rfl, rfl⟩
      cases hex : es[x]? with
      | none => exact wpAny_pure ⟨rfl, rfl⟩
      | some e =>
        dsimp only
        have he : e ∈ es := Array.mem_of_getElem? hex
        by_cases hh : (e.hash == hk) = true
        · rw [if_pos hh]
          refine wpAny_bind (wpAny_dictEpoch ho hd (wpAny_bind (eq e he prog w E _ (wpAny_bind (wpAny_dictEpoch ho hd ?_)))))
          show wpAny _ _ (if (ep != ep) = true then _ else _) _ E _
          rw [if_neg (by simp)]
          simp only [Bool.false_eq_true, if_false]
          first
            | exact wpAny_bind (wpAny_rule (wpAny_pure ⟨rfl, rfl⟩))
            | exact wpAny_rule (wpAny_pure ⟨rfl, rfl⟩)
            | exact wpAny_pure ⟨rfl, rfl⟩
        · rw [if_neg hh]
          exact wpAny_pure ⟨rfl, rfl⟩
    · rintro b s' ⟨rfl, rfl⟩
      exact wpAny_pure h
  have stored : ∀ v ∈ (placesWithHash es.size (fun i => es[i]?.map (·.hash)) hk).filterMap (fun i => es[i]?.map (·.key)), ∃ x t, v = .str x t := by
    intro v hv
    obtain ⟨i, _, hi⟩ := List.mem_filterMap.mp hv
    cases hei : es[i]? with
    | none => rw [hei] at hi; cases hi
    | some e =>
      rw [hei] at hi
      obtain rfl : e.key = v := by simpa using hi
      exact hs e (Array.mem_of_getElem? hei)
  by_cases hc : carriedByValue key = true
  · have hall : ((key :: (placesWithHash es.size (fun i => es[i]?.map (·.hash)) hk).filterMap fun i => es[i]?.map (·.key)).all carriedByValue) = true := by
      rw [List.all_cons, hc, Bool.true_and, List.all_eq_true]
      intro v hv
      obtain ⟨x, t, rfl⟩ := stored v hv
      rfl
    rw [if_pos hall]
    split
    · rename_i x t
      exact absurd rfl (nostr x t)
    · exact plain
  · obtain ⟨a, rfl⟩ : ∃ a, key = .ref a := by
      cases key <;> first | exact ⟨_, rfl⟩ | exact absurd rfl hc
    have hany : ¬ (es.any fun e => e.key == Value.ref a && e.hash != hk) = true := by
      rw [← Array.any_toList, List.any_eq_true]
      rintro ⟨e, hin, hx⟩
      obtain ⟨x, t, he⟩ := hs e (Array.mem_toList_iff.mp hin)
      rw [he] at hx
      have : (Value.str x t == Value.ref a) = false := rfl
      rw [this] at hx
      cases hx
    have hno1 : ¬ (((placesWithHash es.size (fun i => es[i]?.map (·.hash)) hk).filterMap (fun i => es[i]?.map (·.key))) == [Value.ref a]) = true := fun e => by
      have e2 := eq_of_beq e
      obtain ⟨x, t, e3⟩ := stored (.ref a) (by rw [e2]; exact List.mem_singleton_self _)
      cases e3
    rw [if_neg (show ¬ ((Value.ref a :: (placesWithHash es.size (fun i => es[i]?.map (·.hash)) hk).filterMap (fun i => es[i]?.map (·.key))).all carriedByValue) = true by simp [carriedByValue])]
    rw [if_neg hany, if_neg hno1]
    refine wpAny_bind ?_
    have tell : ∀ (Q : Bool → Shared → Prop), Q false s → wpAny (model prog w) A (tableMayTell (.ref a) ((placesWithHash es.size (fun i => es[i]?.map (·.hash)) hk).filterMap (fun i => es[i]?.map (·.key)))) Q E s := fun Q hq => by
      unfold tableMayTell
      split
      · exact wpAny_pure hq
      · refine wpAny_bind (qk _ _ ?_)
        simp only [Bool.not_true, Bool.false_eq_true, if_false]
        refine wpAny_bind ?_
        refine wpAny_forIn_list _ (fun rest r s' => s' = s ∧ r = (none, ()) ∧ ∀ v ∈ rest, ∃ x t, v = .str x t) _ ?_ ?_ _ _ ⟨rfl, rfl, stored⟩
        · rintro x rest r s' ⟨rfl, rfl, hr⟩
          obtain ⟨y, t, rfl⟩ := hr x List.mem_cons_self
          rw [eqIsQuiet_byValue 8 rfl]
          refine wpAny_bind (wpAny_pure ?_)
          simp only [Bool.not_true, Bool.false_eq_true, if_false]
          exact wpAny_pure ⟨rfl, rfl, fun v hv => hr v (List.mem_cons_of_mem _ hv)⟩
        · rintro r s' ⟨rfl, rfl, _⟩
          exact wpAny_pure hq
    refine tell _ ?_
    rw [if_neg (by simp)]
    refine wpAny_bind ?_
    refine wpAny_forIn_list _ (fun rest b s' => s' = s ∧ b = (none, none)) _ ?_ ?_ _ _ ⟨rfl, rfl⟩
    · rintro x rest b s' ⟨rfl, rfl⟩
      cases hex : es[x]? with
      | none => exact wpAny_pure ⟨rfl, rfl⟩
      | some e =>
        dsimp only
        have he : e ∈ es := Array.mem_of_getElem? hex
        by_cases hh : (e.hash == hk) = true
        · rw [if_pos hh]
          refine wpAny_bind (wpAny_dictEpoch ho hd (wpAny_bind (eq e he prog w E _ (wpAny_bind (wpAny_dictEpoch ho hd ?_)))))
          show wpAny _ _ (if (ep != ep) = true then _ else _) _ E _
          rw [if_neg (by simp)]
          simp only [Bool.false_eq_true, if_false]
          refine wpAny_bind (wpAny_rule ?_)
          first | rw [if_neg (by simp)] | skip
          first
            | exact wpAny_pure ⟨rfl, rfl⟩
            | exact wpAny_bind (wpAny_pure (wpAny_pure ⟨rfl, rfl⟩))
        · rw [if_neg hh]
          exact wpAny_pure ⟨rfl, rfl⟩
    · rintro b s' ⟨rfl, rfl⟩
      exact wpAny_pure h
theorem wpAny_dictGet_other {d : Addr} {o : Obj} {es : Array DictEntry} {ep : Nat} {k : NestedKey} {key : Value} {Q : Option Value → Shared → Prop} (hkey : NestedIs s.heap k key) (hnt : k.notText = true) (hdp : k.depth ≤ 8) (hu : A.units + 8 < cLine)
    (ho : s.heap.get? d = some o) (hd : o.data = .dict es ep) (hs : ∀ e ∈ es, ∃ x t, e.key = .str x t) (h : Q none { s with toks := s.toks + k.draws }) :
    wpAny (model prog w) A (dictGet d key) Q E s := by
  unfold dictGet
  try with_reducible refine wpAny_holding ?_
  refine wpAny_bind (pyHash_key k key A s _ hkey (by omega) (wpAny_bind (wpAny_dictFind_other (s := { s with toks := s.toks + k.draws }) hkey hnt hdp hu ho hd hs ?_)))
  exact wpAny_pure h
theorem wpAny_in_other {d : Addr} {o : Obj} {es : Array DictEntry} {ep : Nat} {k : NestedKey} {key : Value} {Q : Value → Shared → Prop} (hkey : NestedIs s.heap k key) (hnt : k.notText = true) (hdp : k.depth ≤ 8) (hu : A.units + 32 < cLine) (hty : s.TypeIs (.ref d) "dict") (hlow : (d == sysModules) = false)
    (ho : s.heap.get? d = some o) (hd : o.data = .dict es ep) (hs : ∀ e ∈ es, ∃ x t, e.key = .str x t) (h : Q (.bool false) { s with toks := s.toks + k.draws }) :
    wpAny (model prog w) A (compareOp .In key (.ref d)) Q E s := by
  show wpAny _ _ (do return .bool (← contains (.ref d) key)) Q E s
  refine wpAny_bind ?_
  unfold contains
  try with_reducible refine wpAny_holding ?_
  refine wpAny_bind (wpAny_specialOf hty slot_dict_contains.lookup ?_)
  show wpAny _ _ (if (some (Value.builtin "dict.__contains__") == some Value.none) = true then _ else _) _ E s
  rw [if_neg (by rw [beq_builtin_none]; exact Bool.false_ne_true)]
  refine wpAny_bind (wpAny_callSpecialUnlessNone?_slot (name := Str.ofString "__contains__") hty slot_dict_contains
    (wpAny_call_entry slot_dict_contains hty entry_dict_contains ?_ (args_dict_contains _ _)))
  show wpAny _ _ (dictGet d key >>= _) _ _ s
  refine wpAny_bind (wpAny_dictGet_other hkey hnt hdp (by simp only [Around.in1_units]; omega) ho hd hs ?_)
  show wpAny _ _ (Builtin.Dict.pendingKey? d key >>= _) _ _ _
  exact wpAny_bind (wpAny_pendingKey_other hlow (wpAny_pure ⟨_, rfl, wpAny_truthy_bool (wpAny_pure h)⟩))
theorem wpAny_notIn_other {d : Addr} {o : Obj} {es : Array DictEntry} {ep : Nat} {k : NestedKey} {key : Value} {Q : Value → Shared → Prop} (hkey : NestedIs s.heap k key) (hnt : k.notText = true) (hdp : k.depth ≤ 8) (hu : A.units + 32 < cLine) (hty : s.TypeIs (.ref d) "dict") (hlow : (d == sysModules) = false)
    (ho : s.heap.get? d = some o) (hd : o.data = .dict es ep) (hs : ∀ e ∈ es, ∃ x t, e.key = .str x t) (h : Q (.bool true) { s with toks := s.toks + k.draws }) :
    wpAny (model prog w) A (compareOp .NotIn key (.ref d)) Q E s := by
  show wpAny _ _ (do return .bool (!(← contains (.ref d) key))) Q E s
  refine wpAny_bind ?_
  unfold contains
  try with_reducible refine wpAny_holding ?_
  refine wpAny_bind (wpAny_specialOf hty slot_dict_contains.lookup ?_)
  show wpAny _ _ (if (some (Value.builtin "dict.__contains__") == some Value.none) = true then _ else _) _ E s
  rw [if_neg (by rw [beq_builtin_none]; exact Bool.false_ne_true)]
  refine wpAny_bind (wpAny_callSpecialUnlessNone?_slot (name := Str.ofString "__contains__") hty slot_dict_contains
    (wpAny_call_entry slot_dict_contains hty entry_dict_contains ?_ (args_dict_contains _ _)))
  show wpAny _ _ (dictGet d key >>= _) _ _ s
  refine wpAny_bind (wpAny_dictGet_other hkey hnt hdp (by simp only [Around.in1_units]; omega) ho hd hs ?_)
  show wpAny _ _ (Builtin.Dict.pendingKey? d key >>= _) _ _ _
  exact wpAny_bind (wpAny_pendingKey_other hlow (wpAny_pure ⟨_, rfl, wpAny_truthy_bool (wpAny_pure h)⟩))
end
end PySem
namespace GD
open PySem PySem.Spec PyProof.Rows L2
def rInOther (K : PySem.W.Frag) (d : Addr) (b : Bool) : R2 := fun x y H Q => ∃ p k, Dp K H x p ∧ y = .ref d ∧ dataK p = some k ∧ k.notText = true ∧ k.depth ≤ 8 ∧ Q (.bl b) H
theorem kd_keys {w : World} {K : PySem.W.Frag} {d : Addr} {es : Array DictEntry} {n : Nat} (D : KDict K w d es n) : ∀ e ∈ es, ∃ x t, e.key = .str x t := fun e he => by
  obtain ⟨x, t, h, _⟩ := D.lit.all e (Array.mem_toList_iff.mpr he)
  exact ⟨x, t, h⟩
theorem op_in_other {X : Cx} {d : Addr} {es : Array DictEntry} {n : Nat} (D : KDict X.K X.w d es n) (hu : X.A.units + 65 < cLine) : OpR X (compareOp .In) (rInOther X.K d false) := by
  intro pins s σ H x y v u Q I rx ry h
  obtain ⟨p, k, hp, rfl, hk, hn, h8, q⟩ := h
  cases ry
  obtain ⟨as, r⟩ := Dp.reads I p x v hp rx
  exact wpAny_in_other (Reads.nested p v as k r hk) hn h8 (by omega) (kd_type D I) D.low (I.kIn _ _ D.at_) rfl (kd_keys D) ⟨.bl false, H, I.tok _, rfl, q⟩
theorem op_notIn_other {X : Cx} {d : Addr} {es : Array DictEntry} {n : Nat} (D : KDict X.K X.w d es n) (hu : X.A.units + 65 < cLine) : OpR X (compareOp .NotIn) (rInOther X.K d true) := by
  intro pins s σ H x y v u Q I rx ry h
  obtain ⟨p, k, hp, rfl, hk, hn, h8, q⟩ := h
  cases ry
  obtain ⟨as, r⟩ := Dp.reads I p x v hp rx
  exact wpAny_notIn_other (Reads.nested p v as k r hk) hn h8 (by omega) (kd_type D I) D.low (I.kIn _ _ D.at_) rfl (kd_keys D) ⟨.bl true, H, I.tok _, rfl, q⟩
end GD
/-! GDA: match over texts; dicts of the module; in. -/
namespace GD
open PySem PySem.Spec PyProof.Rows L2
/-! ### match -/
def pickT (x : Str) : List (List Str × TS) → TS
  | [] => fun D σ H => D.nx σ H
  | (ls, t) :: r => if x ∈ ls then t else pickT x r
/-- the pattern is one of these texts -/
inductive PatOf : Pattern → List Str → Prop
  | one {l : Str} {j : Nat} {p p' : Pos} : PatOf (.MatchValue (.Constant (.str l) j p) p') [l]
  | two {l k : Str} {j i : Nat} {p p' q q' pos : Pos} : PatOf (.MatchOr [.MatchValue (.Constant (.str l) j p) p', .MatchValue (.Constant (.str k) i q) q'] pos) [l, k]
inductive MtOk (X : Cx) : List MatchCase → List (List Str × TS) → Prop
  | nil : MtOk X [] []
  | cons {p : Pattern} {ls : List Str} {body : List Stmt} {t : TS} {cs : List MatchCase} {ts : List (List Str × TS)} (hp : PatOf p ls) (hb : PSs X body t) (r : MtOk X cs ts) : MtOk X (⟨p, none, body⟩ :: cs) ((ls, t) :: ts)
section
variable {X : Cx} {Wx : WX} {kk : Nat}
theorem pat_val {l x : Str} {j : Nat} {p p' : Pos} {tk : Tok} {pins : List (Addr × Obj)} {s : Shared} {σ : L2.St} {H : Hp} {Q : Option (List (Str × Value)) → Shared → Prop} (I : Inv X pins σ H s) (h : ∀ s', Inv X pins σ H s' → Q (if x = l then some [] else none) s') :
    wpAny (model X.prog X.w) X.A (matchPattern (.MatchValue (.Constant (.str l) j p) p') X.env (.str x tk)) Q X.xe s := by
  refine wpAny_matchPattern_Value (thn ((pe_str (X := X) (x := l) (j := j) (pos := p)).run pins s σ H (fun v H1 => v = .str l ∧ H1 = H) I ⟨rfl, rfl⟩) fun u s1 ⟨v, H1, I1, r1, e1, e2⟩ => ?_)
  subst e1 e2
  refine thn (op_eq (X := X) pins s1 σ _ (.str x) (.str l) (.str x tk) u (fun v H2 => v = .bl (decide (x = l)) ∧ H2 = H1) I1 ⟨tk, rfl⟩ r1 ⟨rfl, by simp, rfl⟩) fun c s2 ⟨v, H2, I2, r2, e3, e4⟩ => ?_
  subst e3 e4
  obtain rfl : c = Value.bool (decide (x = l)) := r2
  refine wpAny_truthy_bool ?_
  have z := h s2 I2
  by_cases e : x = l
  · rw [if_pos e] at z
    rw [decide_eq_true e, if_pos rfl]
    exact z
  · rw [if_neg e] at z
    rw [decide_eq_false e, if_neg (by decide)]
    exact z
theorem pat_ok {pt : Pattern} {ls : List Str} {x : Str} {tk : Tok} {pins : List (Addr × Obj)} {s : Shared} {σ : L2.St} {H : Hp} {Q : Option (List (Str × Value)) → Shared → Prop} (hp : PatOf pt ls) (I : Inv X pins σ H s) (h : ∀ s', Inv X pins σ H s' → Q (if x ∈ ls then some [] else none) s') :
    wpAny (model X.prog X.w) X.A (matchPattern pt X.env (.str x tk)) Q X.xe s := by
  cases hp with
  | one =>
    refine pat_val I fun s' I' => ?_
    have z := h s' I'
    simp only [List.mem_singleton] at z
    exact z
  | @two l k j i p p' q q' pos =>
    refine wpAny_matchPattern_Or (wpAny_matchFirst_cons (pat_val I fun s' I' => ?_))
    by_cases e : x = l
    · rw [if_pos e]
      have z := h s' I'
      rw [if_pos (by rw [e]; exact List.mem_cons_self)] at z
      exact z
    · rw [if_neg e]
      refine wpAny_matchFirst_cons (pat_val I' fun s2 I2 => ?_)
      have z := h s2 I2
      by_cases e2 : x = k
      · rw [if_pos e2]
        rw [if_pos (by rw [e2]; exact List.mem_cons_of_mem _ List.mem_cons_self)] at z
        exact z
      · rw [if_neg e2]
        rw [if_neg (by simp [e, e2])] at z
        exact wpAny_matchFirst_nil z
theorem cases_ok {x : Str} {tk : Tok} {pins : List (Addr × Obj)} {cs : List MatchCase} {ts : List (List Str × TS)} (h : MtOk X cs ts) : ∀ (s : Shared) (σ : L2.St) (H : Hp) (D : Ends) (first : Bool), Inv X pins σ H s → pickT x ts D σ H →
    wpAny (model X.prog X.w) X.A (matchCases cs X.env (.str x tk) first) (SP X pins D) X.xe s := by
  induction h with
  | nil => intro s σ H D first I q; exact wpAny_matchCases_nil ⟨σ, H, I, q⟩
  | @cons p ls body t cs ts hp hb r ih =>
    intro s σ H D first I q
    refine wpAny_matchCases_cons (pat_ok hp I fun s' I' => ?_)
    unfold pickT at q
    by_cases e : x ∈ ls
    · rw [if_pos e]
      rw [if_pos e] at q
      exact wpAny_assignInOrder_none (hb.run pins s' σ H D I' q)
    · rw [if_neg e]
      rw [if_neg e] at q
      exact ih s' σ H D false I' q
theorem ps_match {e : Expr} {cs : List MatchCase} {pos : Pos} {te : TE} {ts : List (List Str × TS)} (he : PE X e te) (h : MtOk X cs ts) : PS X (.Match e cs pos) (fun D σ H => te σ H fun v H1 => ∃ x, v = .str x ∧ pickT x ts D σ H1) := by
  refine ⟨fun pins s σ H D I q => wpAny_Match (thn (he.run pins s σ H _ I q) fun u s1 ⟨v, H1, I1, r1, x, ex, q1⟩ => ?_)⟩
  subst ex
  obtain ⟨tk, rfl⟩ := r1
  exact cases_ok h s1 σ H1 D true I1 q1
end
def pickX (x : Str) : List (List Str × Ex) → Ex
  | [] => sNext
  | (ls, f) :: r => if x ∈ ls then f else pickX x r
def sMatch (e : Ev) (cs : List (List Str × Ex)) : Ex := fun ρ m => (e ρ m).lift ρ fun w m => match w with
  | .d (.str x) => pickX x cs ρ m
  | _ => .bad
section
variable {X : Cx} {Wx : WX} {kk : Nat}
/-- the cases' mirrors -/
inductive MdOk (X : Cx) (Wx : WX) : List MatchCase → List (List Str × Ex) → Prop
  | nil : MdOk X Wx [] []
  | cons {p : Pattern} {ls : List Str} {body : List Stmt} {f : Ex} {cs : List MatchCase} {fs : List (List Str × Ex)} (hp : PatOf p ls) (hb : PSs X body (tDS X.K X.mg Wx f)) (r : MdOk X Wx cs fs) : MdOk X Wx (⟨p, none, body⟩ :: cs) ((ls, f) :: fs)
theorem MdOk.mt {cs : List MatchCase} {fs : List (List Str × Ex)} (h : MdOk X Wx cs fs) : MtOk X cs (fs.map fun p => (p.1, tDS X.K X.mg Wx p.2)) := by
  induction h with
  | nil => exact .nil
  | cons hp hb r ih => exact .cons hp hb ih
theorem pick_imp {x : Str} {D : Ends} {Hi : Hp} {ι : List Addr} {ρ : Env} {m : Mem} {σ : L2.St} {H : Hp} (RR : Rel X.K X.mg Hi ι ρ m σ H) : ∀ fs : List (List Str × Ex), GoodS X.K X.mg Wx D Hi ι H (pickX x fs ρ m) → pickT x (fs.map fun p => (p.1, tDS X.K X.mg Wx p.2)) D σ H
  | [], g => g _ _ _ _ Step.refl RR
  | (ls, f) :: fs, g => by
    rw [List.map_cons]
    unfold pickX at g
    unfold pickT
    by_cases e : x ∈ ls
    · rw [if_pos e] at g ⊢
      exact ⟨Hi, ι, ρ, m, RR, g⟩
    · rw [if_neg e] at g ⊢
      exact pick_imp RR fs g
theorem psd_match {e : Expr} {cs : List MatchCase} {pos : Pos} {f : Ev} {fs : List (List Str × Ex)} (he : PE X e (tD X.K X.mg Wx f)) (h : MdOk X Wx cs fs) : PS X (.Match e cs pos) (tDS X.K X.mg Wx (sMatch f fs)) :=
  PS.imp (ps_match he h.mt) fun D σ H t => by
    obtain ⟨Hi, ι, ρ, m, RR, gd⟩ := t
    refine ⟨Hi, ι, ρ, m, RR, goodS_lift RR gd fun x m1 Hi1 ι1 v H1 st M rv g1 => ?_⟩
    split at g1
    · cases rv
      exact ⟨_, rfl, pick_imp (RR.step st M) fs g1⟩
    · exact g1.elim
end
/-! ### dicts of the module: texts to texts -/
abbrev Dtab := List (Str × Str)
/-- the dict that the global x holds -/
structure DictTab (K : PySem.W.Frag) (mg : Str → Option Value) (w : World) (x : Str) (kvs : Dtab) : Prop where
  ex : ∃ (d : Addr) (es : Array DictEntry) (n : Nat), mg x = some (.ref d) ∧ KDict K w d es n ∧ ∀ z : Str, match kvs.lookup z with
    | some v => ∃ t, PySem.W.nsIn K d z = some (some (.str v t))
    | none => PySem.W.nsIn K d z = some none
/-- z in x -/
def oInT (neg : Bool) (x : Str) (kvs : Dtab) : O2 := fun a b m => match a, b with
  | .d (.str z), .d (.gl y) => if y = x then .ok (.d (.bl (if neg then !(kvs.lookup z).isSome else (kvs.lookup z).isSome))) m else .bad
  | .d d, .d (.gl y) => if y = x then (match d.py with
    | some p => (match dataK p with
      | some k => if k.notText = true ∧ k.depth ≤ 8 then .ok (.d (.bl neg)) m else .bad
      | none => .bad)
    | none => .bad) else .bad
  | _, _ => .bad
/-- x[z] -/
def oIxT (x : Str) (kvs : Dtab) : O2 := fun a b m => match a, b with
  | .d (.gl y), .d (.str z) => if y = x then (match kvs.lookup z with
    | some v => .ok (.d (.str v)) m
    | none => .bad) else .bad
  | _, _ => .bad
section
variable {X : Cx} {Wx : WX} {kk : Nat}
theorem gl_ref {K : PySem.W.Frag} {mg : Str → Option Value} {Hi : Hp} {v : V} {x : Str} {d : Addr} (r : Rep K mg Hi v (.gl x)) (h : mg x = some (.ref d)) : v = .ref d := by
  cases r with
  | gl h1 h2 =>
    rw [h] at h1
    cases h1
    cases v with
    | ref a => have h3 : Value.ref d = Value.ref a := h2; injection h3 with h3; rw [h3]
    | _ => first | (obtain ⟨_, h3⟩ := (show ∃ t, _ from h2); cases h3) | (have h3 := (show Value.ref d = _ from h2); cases h3)
theorem in_tab {x : Str} {kvs : Dtab} (hu : X.A.units + 65 < cLine) (T : DictTab X.K X.mg X.w x kvs) : ∃ r, OpR X (compareOp .In) r ∧ S2 X.K X.mg r (oInT false x kvs) := by
  obtain ⟨d, es, n, h1, h2, h3⟩ := T.ex
  refine ⟨_, OpR.or (op_in_kd h2) (op_in_other h2 hu), ?_⟩
  intro Wx σ Hi ι m H v u a b Q M rx ry g
  unfold oInT at g
  split at g
  · rename_i z y
    split at g
    · rename_i e
      subst e
      cases rx
      have e2 := gl_ref ry h1
      subst e2
      have hz := h3 z
      cases hl : kvs.lookup z with
      | some v =>
        rw [hl] at hz g
        obtain ⟨t, hz⟩ := hz
        exact .inl ⟨z, _, rfl, rfl, hz, g.here (rep := RepW X.K X.mg) M (.bl _)⟩
      | none =>
        rw [hl] at hz g
        exact .inl ⟨z, _, rfl, rfl, hz, g.here (rep := RepW X.K X.mg) M (.bl _)⟩
    · exact g.elim
  · rename_i dd y _
    split at g
    · rename_i e
      subst e
      split at g
      · rename_i p hp
        split at g
        · rename_i k hk
          split at g
          · rename_i hc
            have rx2 : Rep X.K X.mg Hi v dd := rx
            have e2 := gl_ref ry h1
            subst e2
            exact .inr ⟨p, k, (rx2.mono M.sub).dp hp, rfl, hk, hc.1, hc.2, g.here (rep := RepW X.K X.mg) M (.bl _)⟩
          · exact g.elim
        · exact g.elim
      · exact g.elim
    · exact g.elim
  · exact g.elim
theorem nin_tab {x : Str} {kvs : Dtab} (hu : X.A.units + 65 < cLine) (T : DictTab X.K X.mg X.w x kvs) : ∃ r, OpR X (compareOp .NotIn) r ∧ S2 X.K X.mg r (oInT true x kvs) := by
  obtain ⟨d, es, n, h1, h2, h3⟩ := T.ex
  refine ⟨_, OpR.or (op_notIn_kd h2) (op_notIn_other h2 hu), ?_⟩
  intro Wx σ Hi ι m H v u a b Q M rx ry g
  unfold oInT at g
  split at g
  · rename_i z y
    split at g
    · rename_i e
      subst e
      cases rx
      have e2 := gl_ref ry h1
      subst e2
      have hz := h3 z
      cases hl : kvs.lookup z with
      | some v =>
        rw [hl] at hz g
        obtain ⟨t, hz⟩ := hz
        exact .inl ⟨z, _, rfl, rfl, hz, g.here (rep := RepW X.K X.mg) M (.bl _)⟩
      | none =>
        rw [hl] at hz g
        exact .inl ⟨z, _, rfl, rfl, hz, g.here (rep := RepW X.K X.mg) M (.bl _)⟩
    · exact g.elim
  · rename_i dd y _
    split at g
    · rename_i e
      subst e
      split at g
      · rename_i p hp
        split at g
        · rename_i k hk
          split at g
          · rename_i hc
            have rx2 : Rep X.K X.mg Hi v dd := rx
            have e2 := gl_ref ry h1
            subst e2
            exact .inr ⟨p, k, (rx2.mono M.sub).dp hp, rfl, hk, hc.1, hc.2, g.here (rep := RepW X.K X.mg) M (.bl _)⟩
          · exact g.elim
        · exact g.elim
      · exact g.elim
    · exact g.elim
  · exact g.elim
theorem pd_inT {x : Str} {kvs : Dtab} {a b : Expr} {pos : Pos} {fa fb : Ev} (hu : X.A.units + 65 < cLine) (T : DictTab X.K X.mg X.w x kvs) (ha : PE X a (tD X.K X.mg Wx fa)) (hb : PE X b (tD X.K X.mg Wx fb)) (hm : behindInMarks .In b = false) : PE X (.Compare a [.In] [b] pos) (tD X.K X.mg Wx (fOp (oInT false x kvs) fa fb)) := by
  obtain ⟨r, h1, h2⟩ := in_tab hu T
  exact pd_cmp h1 h2 ha hb hm
theorem ptd_ninT {x : Str} {kvs : Dtab} {a b : Expr} {pos : Pos} {fa fb : Ev} (hu : X.A.units + 65 < cLine) (T : DictTab X.K X.mg X.w x kvs) (ha : PE X a (tD X.K X.mg Wx fa)) (hb : PE X b (tD X.K X.mg Wx fb)) (hm : behindInMarks .NotIn b = false) : PT X (.Compare a [.NotIn] [b] pos) (tDT X.K X.mg Wx (gBool (fOp (oInT true x kvs) fa fb))) := by
  obtain ⟨r, h1, h2⟩ := nin_tab hu T
  exact ptd_cmp h1 h2 ha hb hm
theorem pd_ixT {x : Str} {kvs : Dtab} {a b : Expr} {pos : Pos} {fa fb : Ev} (T : DictTab X.K X.mg X.w x kvs) (ha : PE X a (tD X.K X.mg Wx fa)) (hb : PE X b (tD X.K X.mg Wx fb)) (hs : PlainIx b) : PE X (.Subscript a b pos) (tD X.K X.mg Wx (fOp (oIxT x kvs) fa fb)) :=
  PE.imp (pe_ix ix_kdict ha hb hs) fun σ H Q t => by
    obtain ⟨Hi, ι, ρ, m, R, g⟩ := t
    refine ⟨Hi, ι, ρ, m, R, good_bind g fun x1 m1 Hi1 ι1 v H1 st M rv g1 => ⟨Hi1, ι1, ρ, m1, R.step st M, good_bind g1 fun y m2 Hi2 ι2 u H2 st2 M2 ru g2 => ?_⟩⟩
    have rv2 := rv.step st2
    obtain ⟨d, es, n, h1, h2, h3⟩ := T.ex
    unfold oIxT at g2
    split at g2
    · rename_i y z
      split at g2
      · rename_i e
        subst e
        cases ru
        have e2 := gl_ref rv2 h1
        subst e2
        have hz := h3 z
        split at g2
        · rename_i v hl
          rw [hl] at hz
          obtain ⟨t, hz⟩ := hz
          exact ⟨d, z, .str v, rfl, rfl, ⟨es, n, _, h2.at_, h2.lit, hz, ⟨t, rfl⟩⟩, g2.here (rep := RepW X.K X.mg) M2 (.str _)⟩
        · exact g2.elim
      · exact g2.elim
    · exact g2.elim
theorem pd_gl {x : Str} {pos : Pos} {kvs : Dtab} (T : DictTab X.K X.mg X.w x kvs) (hg : Gl X x) (hdb : (x == ("__debug__" : Str)) = false := by decide) : PE X (.Name x pos) (tD X.K X.mg Wx (fC (.gl x))) := by
  obtain ⟨d, es, n, h1, h2, h3⟩ := T.ex
  exact pd_c (v := .ref d) (pe_glob hg h1 rfl hdb) fun _ => .gl h1 rfl
end
/-- the table of a written dict -/
theorem tab_mk {K : PySem.W.Frag} {mg : Str → Option Value} {w : World} {x : Str} {d : Addr} {n : Nat} {l : List DictEntry} {kvs : Dtab} (hm : mg x = some (.ref d)) (hl : K.lookup d = some ⟨.type "dict", none, .dict l.toArray n, #[]⟩) (hs : (d == sysModules) = false)
    (he : l.length = kvs.length) (h : ∀ (i : Nat) (e : DictEntry) (kv : Str × Str), l[i]? = some e → kvs[i]? = some kv → (∃ t, e.key = .str kv.1 t) ∧ e.hash = PyData.keyHash w.params kv.1 ∧ ∃ t, e.val = .str kv.2 t) : DictTab K mg w x kvs := by
  have lit : ∀ (l : List DictEntry) (kvs : Dtab), l.length = kvs.length → (∀ (i : Nat) (e : DictEntry) (kv : Str × Str), l[i]? = some e → kvs[i]? = some kv → (∃ t, e.key = .str kv.1 t) ∧ e.hash = PyData.keyHash w.params kv.1 ∧ ∃ t, e.val = .str kv.2 t) →
      PySem.W.KeysLit w.params l ∧ l.any (·.refKey) = false ∧ ∀ z : Str, match kvs.lookup z with
        | some v => ∃ e t, l.find? (·.key.isStr z) = some e ∧ e.val = .str v t
        | none => l.find? (·.key.isStr z) = none := by
    intro l
    induction l with
    | nil =>
      intro kvs he h
      cases kvs with
      | nil => exact ⟨trivial, rfl, fun z => rfl⟩
      | cons a b => cases he
    | cons e l ih =>
      intro kvs he h
      cases kvs with
      | nil => cases he
      | cons kv kvs =>
        obtain ⟨⟨t1, h1⟩, h2, t2, h3⟩ := h 0 e kv rfl rfl
        obtain ⟨i1, i2, i3⟩ := ih kvs (by simpa using he) fun i e' kv' a b => h (i + 1) e' kv' (by simpa using a) (by simpa using b)
        refine ⟨⟨⟨kv.1, t1, h1, h2⟩, i1⟩, ?_, fun z => ?_⟩
        · rw [List.any_cons, i2, Bool.or_false]
          unfold DictEntry.refKey
          rw [h1]
        · obtain ⟨k, v⟩ := kv
          have hk : e.key.isStr z = decide (z = k) := by
            rw [h1]
            show (k == z) = _
            by_cases e2 : z = k
            · rw [e2]; simp
            · rw [decide_eq_false e2]; simp; exact fun q => e2 q.symm
          by_cases e2 : z = k
          · subst e2
            have hlk : List.lookup z ((z, v) :: kvs) = some v := by simp [List.lookup]
            rw [hlk]
            exact ⟨e, t2, by rw [List.find?_cons, hk, decide_eq_true rfl], h3⟩
          · have hlk : List.lookup z ((k, v) :: kvs) = List.lookup z kvs := by
              have : (z == k) = false := by simpa using e2
              simp [List.lookup, this]
            rw [hlk, List.find?_cons, hk, decide_eq_false e2]
            exact i3 z
  obtain ⟨i1, i2, i3⟩ := lit l kvs he h
  refine ⟨d, l.toArray, n, hm, ⟨hl, i1, hs⟩, fun z => ?_⟩
  have hz := i3 z
  cases e : kvs.lookup z with
  | some v =>
    rw [e] at hz
    obtain ⟨en, t, h1, h2⟩ := hz
    refine ⟨t, ?_⟩
    unfold PySem.W.nsIn
    rw [hl]
    dsimp only
    rw [h1, ← h2]
  | none =>
    rw [e] at hz
    show PySem.W.nsIn K d z = some none
    unfold PySem.W.nsIn
    rw [hl]
    dsimp only
    rw [hz]
    dsimp only
    rw [if_neg (by rw [i2]; decide)]
end GD
/-! GDB: zip of lists, tuples and texts; in; index. -/
namespace GD
open PySem PySem.Spec PyProof.Rows L2
/-- what is walked: a list, a tuple, a text -/
inductive ZS where
  | l (a : Addr) | t (a : Addr) | s (x : Str)
def signs (x : Str) : List V := x.cps.toList.map fun c => V.str ⟨#[c]⟩
def ZHas (K : PySem.W.Frag) (H : Hp) : ZS → List V → Prop
  | .l a, xs => SqL K H a xs
  | .t a, xs => SqT K H a xs
  | .s x, xs => xs = signs x
def ZV : ZS → V
  | .l a => .ref a
  | .t a => .ref a
  | .s x => .str x
/-- its iterator at it, tk: the text's token -/
def ZIt (tk : Tok) : ZS → Addr → Nat → Heap → Prop
  | .l a, it, i, h => h.IsListIter it a i
  | .t a, it, i, h => h.IsTupleIter it a i
  | .s x, it, i, h => h.IsStrIter it (strIterType x) x tk i
def ZAp (b : Addr) : ZS → Prop
  | .l a => a ≠ b
  | .t a => a ≠ b
  | .s _ => True
theorem ZIt.obj {tk : Tok} {S : ZS} {it : Addr} {i : Nat} {h : Heap} (z : ZIt tk S it i h) : ∃ o, h.get? it = some o ∧ ∀ v, o.data ≠ .cell v := by
  cases S with
  | l a => obtain ⟨o, e, _, d⟩ := z; exact ⟨o, e, fun v q => by rw [d] at q; cases q⟩
  | t a => obtain ⟨o, e, _, d⟩ := z; exact ⟨o, e, fun v q => by rw [d] at q; cases q⟩
  | s a => obtain ⟨o, e, _, d⟩ := z; exact ⟨o, e, fun v q => by rw [d] at q; cases q⟩
theorem ZIt.at {tk : Tok} {S : ZS} {it : Addr} {i : Nat} {h h' : Heap} (z : ZIt tk S it i h) (k : ∀ o, h.get? it = some o → h'.get? it = some o) : ZIt tk S it i h' := by
  cases S with
  | l a => obtain ⟨o, e, r⟩ := z; exact ⟨o, k o e, r⟩
  | t a => obtain ⟨o, e, r⟩ := z; exact ⟨o, k o e, r⟩
  | s a => obtain ⟨o, e, r⟩ := z; exact ⟨o, k o e, r⟩
section
variable {X : Cx} {pins : List (Addr × Obj)} {σ : L2.St} {H : Hp} {s : Shared}
/-- the iterator draws the items -/
theorem z_draws {S : ZS} {xs : List V} {tk : Tok} {it : Addr} {i : Nat} (I : Inv X pins σ H s) (hc : X.calm = true) (hx : ZHas X.K H S xs) (hi : ZIt tk S it i s.heap) (ap : ZAp it S) :
    ∃ (fp : List Addr) (P : Nat → Value → Prop) (St : Nat → Heap → Prop), Draws X.prog X.w X.A.in1 it fp xs.length P St ∧ St i s.heap ∧ it ∈ fp ∧ (∀ b, b ≠ it → ZAp b S → b ∉ fp) ∧ (∀ j v, P j v → ∃ x, xs[j]? = some x ∧ RelV x v) ∧ ∀ j h, St j h → ZIt tk S it j h := by
  have hh : X.A.in1.handled = none := I.ok.hd hc
  cases S with
  | l a =>
    obtain ⟨its, rv, p, _⟩ := I.list hx
    have D := Draws.list (prog := X.prog) (w := X.w) (A := X.A.in1) hh it a ap its.toArray
    have el : its.toArray.size = xs.length := by rw [List.size_toArray]; exact rv.length.symm
    rw [el] at D
    refine ⟨_, _, _, D, ⟨hi, p.isList⟩, by simp, fun b h1 h2 h3 => ?_, fun j v hv => ?_, fun j h st => st.1⟩
    · have h3' : b = it ∨ b = a := by simpa using h3
      rcases h3' with q | q
      · exact h1 q
      · exact h2 q.symm
    · have hv' : its[j]? = some v := by simpa using hv
      cases e : xs[j]? with
      | some x => obtain ⟨u, e2, r⟩ := rv.get e; rw [hv'] at e2; cases e2; exact ⟨x, rfl, r⟩
      | none => rw [rv.none_of e] at hv'; cases hv'
  | t a =>
    obtain ⟨its, rv, p, _⟩ := I.tuple hx
    have D := Draws.tuple (prog := X.prog) (w := X.w) (A := X.A.in1) hh it a ap its.toArray
    have el : its.toArray.size = xs.length := by rw [List.size_toArray]; exact rv.length.symm
    rw [el] at D
    refine ⟨_, _, _, D, ⟨hi, p⟩, by simp, fun b h1 h2 h3 => ?_, fun j v hv => ?_, fun j h st => st.1⟩
    · have h3' : b = it ∨ b = a := by simpa using h3
      rcases h3' with q | q
      · exact h1 q
      · exact h2 q.symm
    · have hv' : its[j]? = some v := by simpa using hv
      cases e : xs[j]? with
      | some x => obtain ⟨u, e2, r⟩ := rv.get e; rw [hv'] at e2; cases e2; exact ⟨x, rfl, r⟩
      | none => rw [rv.none_of e] at hv'; cases hv'
  | s x =>
    have D := Draws.text (prog := X.prog) (w := X.w) (A := X.A.in1) hh it x tk
    have hx' : xs = signs x := hx
    have el : x.cps.size = xs.length := by rw [hx']; unfold signs; simp
    rw [el] at D
    refine ⟨_, _, _, D, hi, by simp, fun b h1 _ h3 => h1 (by simpa using h3), fun j v hv => ?_, fun j h st => st⟩
    obtain ⟨c, u, e1, rfl⟩ := hv
    refine ⟨.str ⟨#[c]⟩, ?_, ⟨u, rfl⟩⟩
    rw [hx']
    unfold signs
    rw [List.getElem?_map, Array.getElem?_toList, e1]
    rfl
end
/-- pairs of the items of both -/
def ItZ (K : PySem.W.Frag) (S1 S2 : ZS) (xs ys : List V) : It :=
  ⟨fun i H => ZHas K H S1 xs ∧ ZHas K H S2 ys ∧ i < xs.length ∧ i < ys.length,
    fun i H v H' => ∃ T x y, v = .ref T ∧ H T = none ∧ H' = upd H T (.tup [x, y]) ∧ xs[i]? = some x ∧ ys[i]? = some y,
    fun i H => ZHas K H S1 xs ∧ ZHas K H S2 ys ∧ (xs.length ≤ i ∨ ys.length ≤ i)⟩
theorem turn_Z {P : Program} {w : World} {K : PySem.W.Frag} {elts : List Expr} {kk : Nat} {tpos : Pos} {z TI TO i1 i2 : Addr} {S1 S2 : ZS} {xs ys : List V} {t1 t2 : Tok} (h1 : TI ≠ z) (h2 : TO ≠ z) (h3 : TI ≠ TO) (h4 : TI ≠ i1) (h5 : TI ≠ i2) (h6 : z ≠ i1) (h7 : z ≠ i2) (h8 : TO ≠ i1) (h9 : TO ≠ i2) (h10 : i1 ≠ i2)
    (a1 : ∀ b ∈ [z, TO, i1, i2], ZAp b S1) (a2 : ∀ b ∈ [z, TO, i1, i2], ZAp b S2) :
    Turn P w K (.Tuple elts kk tpos) (ItZ K S1 S2 xs ys) [z, TI, TO, i1, i2] z (fun i h => (i ≤ xs.length ∧ i ≤ ys.length) ∧ IsZip h z TI TO .none ∧ IsTupOf2 h TI (.ref i1) (.ref i2) ∧ (∃ x y, IsTupOf2 h TO x y) ∧ ZIt t1 S1 i1 i h ∧ ZIt t2 S2 i2 i h) where
  mem := by simp
  obj := fun i h st c hc => by
    obtain ⟨_, hz, hTI, ⟨x, y, hTO⟩, s1, s2⟩ := st
    have e' : c = z ∨ c = TI ∨ c = TO ∨ c = i1 ∨ c = i2 := by simpa using hc
    rcases e' with q | q | q | q | q
    · rw [q]; exact ⟨_, hz, fun v q => nomatch q⟩
    · rw [q]; exact ⟨_, hTI, fun v q => nomatch q⟩
    · rw [q]; exact ⟨_, hTO, fun v q => nomatch q⟩
    · rw [q]; exact s1.obj
    · rw [q]; exact s2.obj
  keep := fun i h h' st k => by
    obtain ⟨hl, hz, hTI, ⟨x, y, hTO⟩, s1, s2⟩ := st
    exact ⟨hl, k z (by simp) _ hz, k TI (by simp) _ hTI, ⟨x, y, k TO (by simp) _ hTO⟩, s1.at fun o q => k i1 (by simp) o q, s2.at fun o q => k i2 (by simp) o q⟩
  item := by
    intro X hP hw hK hc i pins s σ H E I hf st hg
    subst hP hw hK
    obtain ⟨hl, hz, hTI, ⟨x0, y0, hTO⟩, s1, s2⟩ := st
    obtain ⟨hx, hy, l1, l2⟩ := hg
    obtain ⟨fp1, P1, St1, D1, d1, m1, n1, v1, z1⟩ := z_draws I hc hx s1 (a1 i1 (by simp))
    obtain ⟨fp2, P2, St2, D2, d2, m2, n2, v2, z2⟩ := z_draws I hc hy s2 (a2 i2 (by simp))
    have S : ZipSep2 z TI TO i1 i2 fp1 fp2 := ⟨h1, h2, h3, h4, m1, n1 z h6 (a1 z (by simp)), n1 TO h8 (a1 TO (by simp)), h5, m2, n2 z h7 (a2 z (by simp)), n2 TO h9 (a2 TO (by simp)), n2 i1 h10 (a2 i1 (by simp)), n1 i2 h10.symm (a1 i2 (by simp))⟩
    have hzl : z < s.heap.objs.size := Heap.lt_size hz
    refine wpAny_pyNext_zipD2_item S D1 D2 hz hTI hTO d1 d2 l1 l2 fun u1 u2 h' tk p1 p2 z' TO' st1' st2' hT hsz hk => ?_
    obtain ⟨x, ex, rx⟩ := v1 i u1 p1
    obtain ⟨y, ey, ry⟩ := v2 i u2 p2
    refine ⟨_, rfl, wpAny_letOwnedTupleGo_zip (s := { s with heap := h', toks := tk }) z' fun h'' z'' sb => ?_⟩
    have hT2 : h''.get? s.heap.objs.size = some { cls := .type "tuple", data := .seq #[u1, u2] } := (sb.2 _ (Nat.ne_of_gt hzl)).trans hT
    have new : ObjOk X.prog X.w (upd H s.heap.objs.size (.tup [x, y])) h'' s.heap.objs.size (.tup [x, y]) :=
      ⟨by show 2 ≤ sizeLine; decide, [u1, u2], .cons rx (.cons ry .nil), ⟨_, hT2, rfl, _, rfl⟩⟩
    have I1 : Inv X pins σ (upd H s.heap.objs.size (.tup [x, y])) { s with heap := h'', toks := tk } :=
      I.turnedNew (t' := tk) (ch := [z, TI, TO, i1, i2]) (fun c o hb q => (sb.2 c (fun q' => hb (by simp [q']))).trans (hk c o (fun q' => hb (by simp [q'])) (fun q' => hb (by simp [q'])) (fun q' => hb (by simp [q'])) (fun q' => hb (by simp [q'])) q)) hf (Nat.le_refl _) new
    refine ⟨.ref s.heap.objs.size, _, I1, rfl, ⟨_, x, y, rfl, I.hok.fresh (Nat.le_refl _), rfl, ex, ey⟩, ⟨⟨l1, l2⟩, z'', ?_, ⟨u1, u2, ?_⟩, ?_, ?_⟩, fun c hcm => ?_⟩
    · exact (sb.2 _ h1).trans (hk _ _ h1 h3 h4 h5 hTI)
    · exact (sb.2 _ h2).trans TO'
    · exact (z1 _ _ st1').at fun o q => (sb.2 _ h6.symm).trans q
    · exact (z2 _ _ st2').at fun o q => (sb.2 _ h7.symm).trans q
    · have hlt : c < s.heap.objs.size := by
        have e' : c = z ∨ c = TI ∨ c = TO ∨ c = i1 ∨ c = i2 := by simpa using hcm
        rcases e' with q | q | q | q | q
        · rw [q]; exact hzl
        · rw [q]; exact Heap.lt_size hTI
        · rw [q]; exact Heap.lt_size hTO
        · rw [q]; obtain ⟨_, e1, _⟩ := s1.obj; exact Heap.lt_size e1
        · rw [q]; obtain ⟨_, e2, _⟩ := s2.obj; exact Heap.lt_size e2
      rw [upd_ne (Nat.ne_of_lt hlt)]
      exact (hf c hcm).1
  done := by
    intro X hP hw hK hc i pins s σ H E I hf st hg
    subst hP hw hK
    obtain ⟨hl, hz, hTI, ⟨x0, y0, hTO⟩, s1, s2⟩ := st
    obtain ⟨hx, hy, hend⟩ := hg
    obtain ⟨fp1, P1, St1, D1, d1, m1, n1, v1, z1⟩ := z_draws I hc hx s1 (a1 i1 (by simp))
    obtain ⟨fp2, P2, St2, D2, d2, m2, n2, v2, z2⟩ := z_draws I hc hy s2 (a2 i2 (by simp))
    have S : ZipSep2 z TI TO i1 i2 fp1 fp2 := ⟨h1, h2, h3, h4, m1, n1 z h6 (a1 z (by simp)), n1 TO h8 (a1 TO (by simp)), h5, m2, n2 z h7 (a2 z (by simp)), n2 TO h9 (a2 TO (by simp)), n2 i1 h10 (a2 i1 (by simp)), n1 i2 h10.symm (a1 i2 (by simp))⟩
    exact wpAny_pyNext_zipD2_end S D1 D2 hz hTI hTO d1 d2 hl.1 hl.2 (by omega) fun h' tk hk => ⟨rfl, I.turnedL (t' := tk) (ch := [z, TI, TO, i1, i2]) (fun c o hb q =>
      hk c o (fun q' => hb (by simp [q'])) (fun q' => hb (by simp [q'])) (fun q' => hb (by simp [q'])) (fun q' => hb (by simp [q'])) q) hf⟩
  self := fun A i s Q E st h => wpAny_pyIter_zip st.2.1 h
section
variable {X : Cx} {pins : List (Addr × Obj)} {σ : L2.St} {H : Hp} {s : Shared}
theorem z_begins {S : ZS} {xs : List V} {u : Value} (I : Inv X pins σ H s) (hx : ZHas X.K H S xs) (r : RelV (ZV S) u) : ∃ (o : Obj) (B : Heap → Prop) (tk : Tok), Begins u o B ∧ B s.heap ∧ (∀ (h : Heap) (it : Addr), h.get? it = some o → ZIt tk S it 0 h) ∧ ∀ b, s.heap.objs.size ≤ b → ZAp b S := by
  cases S with
  | l a =>
    obtain ⟨its, rv, p, _⟩ := I.list hx
    cases r
    exact ⟨_, _, 0, begins_list a its.toArray, p.isList, fun h it e => ⟨_, e, rfl, rfl⟩, fun b hb => Nat.ne_of_lt (Nat.lt_of_lt_of_le p.lt hb)⟩
  | t a =>
    obtain ⟨its, rv, p, _⟩ := I.tuple hx
    cases r
    obtain ⟨o, ho, _⟩ := id p
    exact ⟨_, _, 0, begins_tuple a its.toArray, p, fun h it e => ⟨_, e, rfl, rfl⟩, fun b hb => Nat.ne_of_lt (Nat.lt_of_lt_of_le (Heap.lt_size ho) hb)⟩
  | s x =>
    obtain ⟨t, rfl⟩ := r
    exact ⟨_, _, t, begins_text x t, trivial, fun h it e => ⟨_, e, rfl, rfl⟩, fun b hb => trivial⟩
end
def iZipZ (K : PySem.W.Frag) (ta : TA) : TI := fun σ H R => ta σ H fun vs H1 => ∃ S1 S2 xs ys, vs = [ZV S1, ZV S2] ∧ ZHas K H1 S1 xs ∧ ZHas K H1 S2 ys ∧ R (ItZ K S1 S2 xs ys) H1
theorem pi_zipZ {X : Cx} {e e2 : Expr} {ta : TA} {p pos tpos : Pos} {elts : List Expr} {kk : Nat} (hg : Gl X "zip") (hm : X.mg "zip" = none) (ha : PA X [e, e2] ta)
    (hs : starEach [e, e2] X.env = (false, eval e X.env) :: starEach [e2] X.env := by rfl) (hpl : (backTo pos (starEach [e2] X.env)).any (·.1) = false := by rfl) :
    PI X (.Tuple elts kk tpos) (.Call (.Name "zip" p) [e, e2] [] pos) (iZipZ X.K ta) := by
  refine ⟨fun pins s σ H R I h => ?_⟩
  refine Call_ (ld_blt I hg hm PyProof.Rows.boot_zip (PyProof.Rows.callWith_type1 (thn (ha.run pos pins s σ H _ I h) fun us s1 ⟨vs, H1, I1, r1, q1⟩ => ?_) hs hpl))
  obtain ⟨S1, S2, xs, ys, ex, hqx, hqy, q⟩ := q1
  subst ex
  cases r1 with
  | cons r rr =>
    cases rr with
    | cons r' rr =>
      cases rr
      obtain ⟨o1, B1, t1, b1, c1, d1, e1⟩ := z_begins I1 hqx r
      obtain ⟨o2, B2, t2, b2, c2, d2, e2⟩ := z_begins I1 hqy r'
      refine zip_begins2 b1 b2 c1 c2 fun h' hz hTI hTO h1 h2 hsz hk => wpAny_pyIter_zip hz ?_
      have I2 : Inv X pins σ H1 { s1 with heap := h' } := I1.kept (t' := s1.toks) hk
      have ap : ∀ b ∈ [s1.heap.objs.size + 4, s1.heap.objs.size + 3, s1.heap.objs.size, s1.heap.objs.size + 1], s1.heap.objs.size ≤ b := fun b hb => by
        have e' : b = s1.heap.objs.size + 4 ∨ b = s1.heap.objs.size + 3 ∨ b = s1.heap.objs.size ∨ b = s1.heap.objs.size + 1 := by simpa using hb
        rcases e' with z | z | z | z
        · rw [z]; exact Nat.le_add_right _ _
        · rw [z]; exact Nat.le_add_right _ _
        · rw [z]; exact Nat.le_refl _
        · rw [z]; exact Nat.le_add_right _ _
      have ne : ∀ i j : Nat, i ≠ j → s1.heap.objs.size + i ≠ s1.heap.objs.size + j := fun i j hij q => hij (Nat.add_left_cancel q)
      refine ⟨s1.heap.objs.size + 4, [s1.heap.objs.size + 4, s1.heap.objs.size + 2, s1.heap.objs.size + 3, s1.heap.objs.size, s1.heap.objs.size + 1], _, _, H1, rfl, I2, turn_Z (S1 := S1) (S2 := S2) (xs := xs) (ys := ys) (t1 := t1) (t2 := t2) (ne 2 4 (by decide)) (ne 3 4 (by decide)) (ne 2 3 (by decide)) (ne 2 0 (by decide)) (ne 2 1 (by decide)) (ne 4 0 (by decide)) (ne 4 1 (by decide)) (ne 3 0 (by decide)) (ne 3 1 (by decide)) (ne 0 1 (by decide)) (fun b hb => e1 b (ap b hb)) (fun b hb => e2 b (ap b hb)), ⟨⟨Nat.zero_le _, Nat.zero_le _⟩, hz, hTI, ⟨_, _, hTO⟩, d1 _ _ h1, d2 _ _ h2⟩, fun c hcm => ?_, q⟩
      have e' : c = s1.heap.objs.size + 4 ∨ c = s1.heap.objs.size + 2 ∨ c = s1.heap.objs.size + 3 ∨ c = s1.heap.objs.size ∨ c = s1.heap.objs.size + 1 := by simpa using hcm
      have hle : s1.heap.objs.size ≤ c := by
        rcases e' with z | z | z | z | z
        · rw [z]; exact Nat.le_add_right _ _
        · rw [z]; exact Nat.le_add_right _ _
        · rw [z]; exact Nat.le_add_right _ _
        · rw [z]; exact Nat.le_refl _
        · rw [z]; exact Nat.le_add_right _ _
      exact I1.fpOk hle (I1.hok.fresh hle)
/-! the mirror -/
def signsD (x : Str) : List D := x.cps.toList.map fun c => D.str ⟨#[c]⟩
/-- the items of data -/
def itemsD : D → Option (List D)
  | .lst xs => some xs
  | .tup xs => some xs
  | .fls xs => some xs
  | .str x => some (signsD x)
  | _ => none
def iZipA (a : EvL) : EvL := fun ρ m => (a ρ m).bind fun ws m => match ws with
  | [.d x, .d y] => match itemsD x, itemsD y with
    | some xs, some ys => .ok (zipD xs ys) m
    | _, _ => .bad
  | _ => .bad
theorem signs_rep {K : PySem.W.Frag} {mg : Str → Option Value} {H : Hp} (x : Str) : RepL K mg H (signs x) (signsD x) := by
  unfold signs signsD
  induction x.cps.toList with
  | nil => exact .nil
  | cons c l ih => exact .cons (.str _) ih
theorem items_rep {K : PySem.W.Frag} {mg : Str → Option Value} {Hi : Hp} {v : V} {x : D} {xs : List D} (h : itemsD x = some xs) (r : Rep K mg Hi v x) : ∃ S vs, v = ZV S ∧ (∀ H', Same Hi H' → ZHas K H' S vs) ∧ RepL K mg Hi vs xs := by
  cases r with
  | lst s r => cases h; exact ⟨.l _, _, rfl, fun H' sm => .inl (.inl (sm _ _ s)), r⟩
  | tup s r => cases h; exact ⟨.t _, _, rfl, fun H' sm => sqT_mono sm s, r⟩
  | fls s r => cases h; exact ⟨.l _, _, rfl, fun H' sm => sqL_mono sm s, r⟩
  | str x => cases h; exact ⟨.s x, _, rfl, fun H' sm => rfl, signs_rep x⟩
  | _ => cases h
theorem itOk_Z {K : PySem.W.Frag} {mg : Str → Option Value} {Hi : Hp} {ι : List Addr} {S1 S2 : ZS} {vs us : List V} {xs ys : List D} (s1 : ∀ H', Same Hi H' → ZHas K H' S1 vs) (r1 : RepL K mg Hi vs xs) (s2 : ∀ H', Same Hi H' → ZHas K H' S2 us) (r2 : RepL K mg Hi us ys) : ItOk K mg Hi ι (ItZ K S1 S2 vs us) (zipD xs ys) where
  go := fun i Hi1 ι1 m1 H1 sm _ M hi => by
    rw [zipD_len] at hi
    exact ⟨s1 _ (sm.trans M.sub), s2 _ (sm.trans M.sub), by rw [r1.length]; omega, by rw [r2.length]; omega⟩
  stop := fun i Hi1 ι1 m1 H1 sm _ M hi => by
    rw [zipD_len] at hi
    exact ⟨s1 _ (sm.trans M.sub), s2 _ (sm.trans M.sub), by rw [r1.length, r2.length]; omega⟩
  yld := fun i w Hi1 ι1 m1 H1 x H2 sm pr M hw hy => by
    obtain ⟨T, p, q, rfl, hT, rfl, z1, z2⟩ := hy
    obtain ⟨d, e, e1, e2, rfl⟩ := zipD_get hw
    obtain ⟨v, q1, q2⟩ := r1.get e1
    obtain ⟨u, q3, q4⟩ := r2.get e2
    rw [z1] at q1
    rw [z2] at q3
    cases q1
    cases q3
    exact M.pair hT (q2.mono sm) (q4.mono sm)
section
variable {X : Cx} {Wx : WX} {kk : Nat}
theorem pid_zipA {e e2 : Expr} {p pos tpos : Pos} {elts : List Expr} {k1 : Nat} {f : EvL} (hg : Gl X "zip") (hm : X.mg "zip" = none) (ha : PA X [e, e2] (tDA X.K X.mg Wx f))
    (hs : starEach [e, e2] X.env = (false, eval e X.env) :: starEach [e2] X.env := by rfl) (hpl : (backTo pos (starEach [e2] X.env)).any (·.1) = false := by rfl) :
    PI X (.Tuple elts k1 tpos) (.Call (.Name "zip" p) [e, e2] [] pos) (tDI X.K X.mg Wx (iZipA f)) := PI.imp (pi_zipZ hg hm ha hs hpl) fun σ H Q t => by
  obtain ⟨Hi, ι, ρ, m, RR, gd⟩ := t
  refine ⟨Hi, ι, ρ, m, RR, good_bind gd fun ws m1 Hi1 ι1 vs H1 st M rv g1 => ?_⟩
  split at g1
  · split at g1
    · rename_i xs ys h1 h2
      cases rv with
      | cons r1 r2 =>
        cases r2 with
        | cons r2 r3 =>
          cases r3
          obtain ⟨S1, v1, e1, s1, q1⟩ := items_rep h1 r1
          obtain ⟨S2, v2, e2, s2, q2⟩ := items_rep h2 r2
          subst e1 e2
          exact ⟨S1, S2, v1, v2, rfl, s1 _ M.sub, s2 _ M.sub, g1 _ _ _ _ Step.refl M (itOk_Z s1 q1 s2 q2)⟩
    · exact g1.elim
  · exact g1.elim
end
end GD
/-! GDC: in, index, pop, insert, reversed slices, int of a truth value. -/
namespace GD
open PySem PySem.Spec PyProof.Rows L2
/-- x in ys (a list of data), c in a text -/
def oIn (neg : Bool) : O2 := fun a b m => match b with
  | .d (.str y) => (match a with
    | .d (.str z) => (match z.cps.toList with
      | [c] => .ok (.d (.bl (if neg then !decide (c ∈ y.cps.toList) else decide (c ∈ y.cps.toList)))) m
      | _ => .bad)
    | _ => .bad)
  | .d (.tup ys) => (match datOf a m with
    | some x => (match x.py, D.pyL ys with
      | some p, some ds => if SeqAt.shaped p && SeqAt.shaped (.tuple ds) then .ok (.d (.bl (if neg then !(ds.any fun z => PyData.eqv z p) else ds.any fun z => PyData.eqv z p))) m else .bad
      | _, _ => .bad)
    | none => .bad)
  | b => match datOf a m, lstOf b m with
    | some x, some ys => (match x.py, D.pyL ys with
      | some p, some ds => if SeqAt.shaped p && SeqAt.shaped (.list ds) then .ok (.d (.bl (if neg then !(ds.any fun z => PyData.eqv z p) else ds.any fun z => PyData.eqv z p))) m else .bad
      | _, _ => .bad)
    | _, _ => .bad
section
variable {K : PySem.W.Frag} {mg : Str → Option Value} {Hi H : Hp} {ι : List Addr} {m : Mem}
theorem lst_dp (M : Mok K mg Hi ι m H) {w : W} {v : V} {xs : List D} {ds : List PyData} (h : lstOf w m = some xs) (r : RepW K mg Hi ι v w) (hp : D.pyL xs = some ds) : ∃ a, v = .ref a ∧ Dp K H v (.list ds) := by
  obtain ⟨a, vs, rfl, h1, h2⟩ := lstOf_rep M h r
  refine ⟨a, rfl, Rep.dp (K := K) (mg := mg) (d := .lst xs) (.lst h1 (h2.mono M.sub)) ?_⟩
  rw [D.py, hp]
  rfl
end
def rInTup (K : PySem.W.Frag) : R2 := fun x y H Q => ∃ d ds, Dp K H x d ∧ Dp K H y (.tuple ds) ∧ SeqAt.shaped d = true ∧ SeqAt.shaped (.tuple ds) = true ∧ Q (.bl (ds.any fun z => PyData.eqv z d)) H
theorem op_inTup {X : Cx} (hu : X.A.units + 65 < cLine) : OpR X (compareOp .In) (rInTup X.K) := by
  intro pins s σ H x y v u Q I rx ry h
  obtain ⟨d, ds, hd, he, sd, se, q⟩ := h
  obtain ⟨as, r1⟩ := Dp.reads I d x v hd rx
  obtain ⟨bs, r2⟩ := Dp.reads I (.tuple ds) y u he ry
  exact SeqAt.in_tuple_reads r2 r1 (SeqAt.canLay_of_shaped se) (SeqAt.canLay_of_shaped sd) (room_in_shaped sd hu) ⟨.bl _, H, I, rfl, q⟩
def rInU (K : PySem.W.Frag) : R2 := fun x y H Q => (rInD K x y H Q ∨ rInTup K x y H Q) ∨ (fun x y H Q => ∃ (c : Nat) (z : Str), x = .str ⟨#[c]⟩ ∧ y = .str z ∧ Q (.bl (decide (c ∈ z.cps.toList))) H) x y H Q
theorem room65 {X : Cx} {k : Nat} (hr : Room k X.A) : X.A.units + 65 < cLine := by have := hr.un; omega
theorem op_inU {X : Cx} {k : Nat} (hr : Room k X.A) : OpR X (compareOp .In) (rInU X.K) := OpR.or (OpR.or (op_inD (room65 hr)) (op_inTup (room65 hr))) op_in_sign
theorem one_sign {z : Str} {c : Nat} (h : z.cps.toList = [c]) : z = ⟨#[c]⟩ := by
  cases z with
  | mk a =>
    have : a = #[c] := by rw [← Array.toList_inj]; exact h
    rw [this]
theorem s_in {K : PySem.W.Frag} {mg : Str → Option Value} : S2 K mg (rInU K) (oIn false) := by
  intro Wx σ Hi ι m H x y a b Q M rx ry g
  unfold oIn at g
  split at g
  · split at g
    · split at g
      · rename_i z c hc
        rw [one_sign hc] at rx
        cases rx
        cases ry
        exact .inr ⟨c, _, rfl, rfl, g.here (rep := RepW K mg) M (.bl _)⟩
      · exact g.elim
    · exact g.elim
  · rename_i ys
    split at g
    · rename_i xd h1
      split at g
      · rename_i p ds h3 h4
        split at g
        · rename_i hs
          rw [Bool.and_eq_true] at hs
          refine .inl (.inr ⟨p, ds, (datOf_rep M h1 rx).dp h3, ?_, hs.1, hs.2, g.here (rep := RepW K mg) M (.bl _)⟩)
          have ry' : Rep K mg Hi y (.tup ys) := ry
          exact (ry'.mono M.sub).dp (by rw [D.py, h4]; rfl)
        · exact g.elim
      · exact g.elim
    · exact g.elim
  · split at g
    · rename_i xd ys h1 h2
      split at g
      · rename_i p ds h3 h4
        split at g
        · rename_i hs
          rw [Bool.and_eq_true] at hs
          obtain ⟨a1, rfl, hd⟩ := lst_dp M h2 ry h4
          exact .inl (.inl ⟨p, ds, (datOf_rep M h1 rx).dp h3, hd, hs.1, hs.2, g.here (rep := RepW K mg) M (.bl _)⟩)
        · exact g.elim
      · exact g.elim
    · exact g.elim
/-- l.index(x) -/
def oIndex : OM := fun o ws m => match ws with
  | [a] => (match lstOf o m, datOf a m with
    | some ys, some x => (match x.py, D.pyL ys with
      | some p, some ds => if SeqAt.shaped p && SeqAt.shaped (.list ds) then (match ds.findIdx? fun z => PyData.eqv z p with
        | some j => .ok (.d (.int (j : Nat))) m
        | none => .bad) else .bad
      | _, _ => .bad)
    | _, _ => .bad)
  | _ => .bad
theorem s_index {K : PySem.W.Frag} {mg : Str → Option Value} : SM K mg (rIndexD K) oIndex := by
  intro Wx σ Hi ι m H x xs o ws Q M rx rs g
  unfold oIndex at g
  split at g
  · split at g
    · rename_i ys xd h1 h2
      split at g
      · rename_i p ds h3 h4
        split at g
        · rename_i hs
          split at g
          · rename_i j hj
            rw [Bool.and_eq_true] at hs
            cases rs with
            | cons r1 r2 =>
              cases r2
              obtain ⟨a1, rfl, hd⟩ := lst_dp M h1 rx h4
              rw [List.findIdx?_eq_some_iff_getElem] at hj
              obtain ⟨hl, hj1, hj2⟩ := hj
              refine ⟨a1, _, p, ds, j, ds[j], rfl, rfl, hd, (datOf_rep M h2 r1).dp h3, hs.2, hs.1, List.getElem?_eq_getElem hl, hj1, fun k z' hk hz => ?_, g.here (rep := RepW K mg) M (.int _)⟩
              have hkl : k < ds.length := by omega
              rw [List.getElem?_eq_getElem hkl] at hz
              cases hz
              exact Bool.eq_false_iff.mpr (hj2 k hk)
          · exact g.elim
        · exact g.elim
      · exact g.elim
    · exact g.elim
  · exact g.elim
theorem RepL.eraseIdx {K : PySem.W.Frag} {mg : Str → Option Value} {H : Hp} : ∀ {vs : List V} {ds : List D} (i : Nat), RepL K mg H vs ds → RepL K mg H (vs.eraseIdx i) (ds.eraseIdx i)
  | _, _, _, .nil => .nil
  | _, _, 0, .cons _ t => t
  | _, _, i + 1, .cons r t => .cons r (RepL.eraseIdx i t)
/-- int(x), x a number or a truth value -/
def oIntB : ON := fun ws m => match ws with
  | [.d (.int i)] => .ok (.d (.int i)) m
  | [.d (.bl b)] => .ok (.d (.int (if b then 1 else 0))) m
  | _ => .bad
theorem RepL.reverse {K : PySem.W.Frag} {mg : Str → Option Value} {H : Hp} : ∀ {vs : List V} {ds : List D}, RepL K mg H vs ds → RepL K mg H vs.reverse ds.reverse
  | _, _, .nil => .nil
  | _, _, .cons r t => by
    rw [List.reverse_cons, List.reverse_cons]
    exact (RepL.reverse t).append (.one r)
/-! ### constants of the module -/
section
variable {X : Cx} {Wx : WX}
theorem pd_gint {x : Str} {i : Int} {pos : Pos} (h : ∃ t, X.mg x = some (.int i t)) (hg : Gl X x) (hdb : (x == ("__debug__" : Str)) = false := by decide) : PE X (.Name x pos) (tD X.K X.mg Wx (fC (.int i))) := by
  obtain ⟨t, h⟩ := h
  exact pd_c (pe_glob (v := .int i) hg h ⟨t, rfl⟩ hdb) fun _ => .int i
end
inductive EntsOk (P : Params) : List DictEntry → Dtab → Prop
  | nil : EntsOk P [] []
  | cons {k v : Str} {t u : Tok} {l : List DictEntry} {kvs : Dtab} (r : EntsOk P l kvs) : EntsOk P (⟨PyData.keyHash P k, .str k t, .str v u⟩ :: l) ((k, v) :: kvs)
theorem EntsOk.all {P : Params} {l : List DictEntry} {kvs : Dtab} (h : EntsOk P l kvs) : l.length = kvs.length ∧ ∀ (i : Nat) (e : DictEntry) (kv : Str × Str), l[i]? = some e → kvs[i]? = some kv → (∃ t, e.key = .str kv.1 t) ∧ e.hash = PyData.keyHash P kv.1 ∧ ∃ t, e.val = .str kv.2 t := by
  induction h with
  | nil => exact ⟨rfl, fun i e kv h => by simp at h⟩
  | cons r ih =>
    refine ⟨by simp [ih.1], fun i e kv h1 h2 => ?_⟩
    cases i with
    | zero =>
      simp at h1 h2
      subst h1 h2
      exact ⟨⟨_, rfl⟩, rfl, ⟨_, rfl⟩⟩
    | succ i => exact ih.2 i e kv (by simpa using h1) (by simpa using h2)
end GD
/-! GDD: a list repeated, that may be changed. -/
/-! GE0: instances of own classes: made, their fields, methods, properties. -/
namespace GD
open PySem PySem.Spec PyProof.Rows L2
/-! ### mirrors -/
/-- an instance: its class, its fields -/
def insOf (w : W) (m : Mem) : Option (Str × List Str × List D) := match w with
  | .d (.obj c ns vs) => some (c, ns, vs)
  | .m k => match m[k]? with
    | some (.ins c ns vs) => some (c, ns, vs)
    | _ => none
  | _ => none
def oFld (cs : List Str) (f : Str) : O1 := fun w m => match insOf w m with
  | some (c, ns, ds) => if c ∈ cs then (match (ns.zip ds).lookup f with
    | some d => .ok (.d d) m
    | none => .bad) else .bad
  | none => .bad
/-- a constant of the class, read off an instance -/
def oCon (tab : List (Str × D)) (f : Str) : O1 := fun w m => match insOf w m with
  | some (c, ns, ds) => (match (ns.zip ds).lookup f with
    | some _ => .bad
    | none => match tab.lookup c with
      | some d => .ok (.d d) m
      | none => .bad)
  | none => .bad
def putNs (f : Str) (ns : List Str) : List Str := if f ∈ ns then ns else ns ++ [f]
def putVs {α : Type} (f : Str) (v : α) : List Str → List α → List α
  | [], _ => [v]
  | _ :: _, [] => [v]
  | g :: ns, x :: vs => if g = f then v :: vs else x :: putVs f v ns vs
/-- o.f = e -/
def sFldSet (cs : List Str) (f : Str) (a o : Ev) : Ex := fun ρ m => (a ρ m).lift ρ fun y m => (o ρ m).lift ρ fun w m => match y, w with
  | .d d, .m k => match m[k]? with
    | some (.ins c ns vs) => if c ∈ cs ∧ ns.length < 500 ∧ d.isOwn = false then .nx ρ (m.set k (.ins c (putNs f ns) (putVs f d ns vs))) else .bad
    | _ => .bad
  | _, _ => .bad
/-- o.nm(..): the method of the object's class -/
def fMeth (tab : List (Str × Fn)) (nm : Str) (o : Ev) (a : EvL) : Ev := fun ρ m => (o ρ m).bind fun w m => match insOf w m with
  | some (c, ns, _) => (match tab.lookup c with
    | some g => if nm ∈ ns then .bad else (a ρ m).bind fun ws m => g (w :: ws) m
    | none => .bad)
  | none => .bad
/-- o.f, a property -/
def oProp (tab : List (Str × Fn)) : O1 := fun w m => match insOf w m with
  | some (c, _, _) => (match tab.lookup c with
    | some g => noX (g [w] m)
    | none => .bad)
  | none => .bad
/-- C(..): fz: it is data once it is made -/
def newO (fz : Bool) (c : Str) (init : Fn) : Fn := fun ws m => match init (.m m.length :: ws) (m ++ [.ins c [] []]) with
  | .ok w m' => (match w, m'[m.length]? with
    | .d .non, some (.ins c' ns vs) => if fz then .ok (.d (.obj c' ns vs)) (m'.take m.length) else .ok (.m m.length) (m'.take (m.length + 1))
    | _, _ => .bad)
  | .exc c ns vs m' => .exc c ns vs (m'.take m.length)
  | .bad => .bad
/-! ### the state -/
section
variable {K : PySem.W.Frag} {mg : Str → Option Value} {Hi Hi' H H' : Hp} {ι ι' : List Addr} {m m' : Mem}
theorem Mok.newX (M : Mok K mg Hi ι m H) {p : Addr} {o : HO} {mo : MO} (hp : H p = none) (r : RepO K mg Hi ι (upd H p o) p mo) (hm : mo.free := by first | trivial | (intro f j h; cases h)) : Mok K mg Hi (ι ++ [p]) (m ++ [mo]) (upd H p o) ∧ Step Hi ι H Hi (ι ++ [p]) (upd H p o) := by
  have hi : Hi p = none := M.sub.free hp
  have nm : ∀ a ∈ ι, a ≠ p := fun a ha e => by
    obtain ⟨o', h⟩ := M.live ha
    rw [e, hp] at h
    cases h
  have at_ : ∀ {k : Nat} {mo' : MO} {a : Addr}, (m ++ [mo])[k]? = some mo' → (ι ++ [p])[k]? = some a → (m[k]? = some mo' ∧ ι[k]? = some a) ∨ (mo' = mo ∧ a = p ∧ k = ι.length) := by
    intro k mo' a h1 h2
    by_cases hk : k < m.length
    · rw [List.getElem?_append_left hk] at h1
      rw [List.getElem?_append_left (by rw [M.len]; exact hk)] at h2
      exact .inl ⟨h1, h2⟩
    · rw [List.getElem?_append_right (by omega)] at h1
      rw [List.getElem?_append_right (by rw [M.len]; omega)] at h2
      have e1 := List.mem_of_getElem? h1
      have e2 := List.mem_of_getElem? h2
      rw [List.mem_singleton] at e1 e2
      have e3 := (List.getElem?_eq_some_iff.mp h1).1
      have e4 := M.len
      rw [List.length_singleton] at e3
      exact .inr ⟨e1, e2, by omega⟩
  refine ⟨⟨fun b u q => by rw [upd_ne (ne_of_none q hi)]; exact M.sub b u q, by simp [M.len], ?_, fun k mo' a h1 h2 h3 => ?_, fun k mo' a h1 h2 => ?_, (M.lnk.push (p := p) M.len hm).upd fun C dx fs h => by rw [hp] at h; cases h⟩, Same.refl _, List.prefix_append _ _, fun a u q _ => by rw [upd_ne (ne_of_none q hp)]; exact q, fun a h1 h2 => ?_, fun a h => upd_live h, fun a _ h1 _ => h1⟩
  · rw [List.nodup_append]
    exact ⟨M.nd, by simp, fun a ha b hb => by rw [List.mem_singleton] at hb; subst hb; exact nm a ha⟩
  · rcases at_ h1 h2 with ⟨h1, h2⟩ | ⟨_, h2, _⟩
    · exact M.free k mo' a h1 h2 h3
    · subst h2; exact hi
  · rcases at_ h1 h2 with ⟨h1, h2⟩ | ⟨h1, h2, h3⟩
    · rw [take_app (Nat.le_of_lt (List.getElem?_eq_some_iff.mp h2).1)]
      exact (M.obj k mo' a h1 h2).mono (Same.refl _) (upd_ne (nm a (List.mem_of_getElem? h2)))
    · subst h1 h2 h3
      rw [take_app (Nat.le_refl _), List.take_length]
      exact r
  · rcases List.mem_append.mp h1 with h1 | h1
    · exact absurd h1 h2
    · rw [List.mem_singleton] at h1; subst h1; exact hp
theorem idx_inj {k j : Nat} {a : Addr} (nd : ι.Nodup) (h1 : ι[k]? = some a) (h2 : ι[j]? = some a) : k = j := by
  obtain ⟨q1, e1⟩ := List.getElem?_eq_some_iff.mp h1
  obtain ⟨q2, e2⟩ := List.getElem?_eq_some_iff.mp h2
  exact (List.getElem_inj nd).mp (e1.trans e2.symm)
/-- a changeable object changed -/
theorem Mok.setL (M : Mok K mg Hi ι m H) {p : Addr} {k : Nat} {o : HO} {mo mo0 : MO} (hk : ι[k]? = some p) (ho : m[k]? = some mo0) (h0 : mo0 ≠ .dead) (r : RepO K mg Hi (ι.take k) (upd H p o) p mo) (hL : Lnk ι (m.set k mo) (upd H p o)) : Mok K mg Hi ι (m.set k mo) (upd H p o) ∧ Step Hi ι H Hi ι (upd H p o) := by
  have hm : p ∈ ι := List.mem_of_getElem? hk
  have hi := M.free k _ p ho hk h0
  have hl : k < m.length := (List.getElem?_eq_some_iff.mp ho).1
  refine ⟨⟨fun b u q => by rw [upd_ne (ne_of_none q hi)]; exact M.sub b u q, by simp [M.len], M.nd, fun j mo a h1 h2 h3 => ?_, fun j mo a h1 h2 => ?_, hL⟩, Same.refl _, List.prefix_refl _, fun a u q hn => ?_, fun a h1 h2 => absurd h1 h2, fun a h => upd_live h, fun a _ h1 _ => h1⟩
  · by_cases hj : k = j
    · subst hj
      rw [hk] at h2
      cases h2
      exact hi
    · rw [List.getElem?_set_ne hj] at h1
      exact M.free j mo a h1 h2 h3
  · by_cases hj : k = j
    · subst hj
      rw [List.getElem?_set_self hl] at h1
      rw [hk] at h2
      cases h1
      cases h2
      exact r
    · rw [List.getElem?_set_ne hj] at h1
      exact (M.obj j mo a h1 h2).mono (Same.refl _) (upd_ne fun e => hj (idx_inj M.nd hk (by rw [← e]; exact h2)))
  · rw [upd_ne (fun e => hn (by rw [e]; exact hm))]
    exact q
theorem Mok.notIns (M : Mok K mg Hi ι m H) {p : Addr} {k : Nat} {mo : MO} (hk : ι[k]? = some p) (ho : m[k]? = some mo) (h0 : mo ≠ .dead) (hn : ∀ c ns vs, mo ≠ .ins c ns vs) : ∀ C dx fs, H p ≠ some (.ins C dx fs) := fun C dx fs h => by
  have r := M.obj k mo p ho hk
  cases mo with
  | lst xs => obtain ⟨vs, q, _⟩ := r; rw [q] at h; cases h
  | ins c ns vs => exact hn c ns vs rfl
  | dead => exact h0 rfl
  | tab P q => obtain ⟨rfl, ps, q, _⟩ := r; rw [q] at h; cases h
  | dic w kvs => obtain ⟨_, ps, q, _⟩ := r; rw [q] at h; cases h
  | iset w xs => rw [show H p = _ from r] at h; cases h
  | lks js => obtain ⟨vs, q, _⟩ := r; rw [q] at h; cases h
  | own k f xs => obtain ⟨vs, q, _⟩ := r; rw [q] at h; cases h
/-- a changeable object, no instance, changed -/
theorem Mok.setX (M : Mok K mg Hi ι m H) {p : Addr} {k : Nat} {o : HO} {mo mo0 : MO} (hk : ι[k]? = some p) (ho : m[k]? = some mo0) (h0 : mo0 ≠ .dead) (r : RepO K mg Hi (ι.take k) (upd H p o) p mo) (hm : mo.free := by trivial) (hn : ∀ c ns vs, mo0 ≠ .ins c ns vs := by intro _ _ _ h; cases h) : Mok K mg Hi ι (m.set k mo) (upd H p o) ∧ Step Hi ι H Hi ι (upd H p o) :=
  M.setL hk ho h0 r ((M.lnk.set hm).upd (M.notIns hk ho h0 hn))
theorem look_put {α : Type} {f g : Str} {v : α} : ∀ {ns : List Str} {vs : List α}, ns.length = vs.length → ((putNs f ns).zip (putVs f v ns vs)).lookup g = if g = f then some v else (ns.zip vs).lookup g
  | [], [], _ => by
    by_cases e : g = f
    · subst e; simp [putNs, putVs]
    · have e2 : (g == f) = false := by simp [e]
      simp [putNs, putVs, e, List.lookup, e2]
  | h :: ns, x :: vs, hl => by
    have ih := look_put (f := f) (g := g) (v := v) (ns := ns) (vs := vs) (by simpa using hl)
    unfold putNs at ih ⊢
    unfold putVs
    by_cases e : h = f
    · subst e
      rw [if_pos rfl, if_pos List.mem_cons_self]
      simp only [List.zip_cons_cons, List.lookup]
      by_cases e2 : g = h
      · subst e2; simp
      · have e3 : (g == h) = false := by simp [e2]
        rw [e3, if_neg e2]
    · rw [if_neg e]
      have key : (List.zip (h :: (if f ∈ ns then ns else ns ++ [f])) (x :: putVs f v ns vs)).lookup g = if g = f then some v else (List.zip (h :: ns) (x :: vs)).lookup g := by
        simp only [List.zip_cons_cons, List.lookup]
        by_cases e2 : g = h
        · subst e2
          have e3 : (g == g) = true := by simp
          rw [e3, if_neg e]
        · have e3 : (g == h) = false := by simp [e2]
          rw [e3]
          exact ih
      by_cases q : f ∈ ns
      · rw [if_pos q] at key
        rw [if_pos (List.mem_cons_of_mem _ q)]
        exact key
      · rw [if_neg q] at key
        rw [if_neg (fun z => q ((List.mem_cons.mp z).resolve_left fun z => e z.symm))]
        exact key
/-- an attribute is set to data: the links stay -/
theorem Mok.lnkF (M : Mok K mg Hi ι m H) {p : Addr} {k : Nat} {c : Str} {ns : List Str} {ds : List D} {C dx : Addr} {vs : List V} {f : Str} {v : V} {d : D} (hk : ι[k]? = some p) (em : m[k]? = some (.ins c ns ds)) (hH : H p = some (.ins C dx (ns.zip vs))) (h1 : ns.length = vs.length) (h2 : ns.length = ds.length) (hd : d.isOwn = false) :
    Lnk ι (m.set k (.ins c (putNs f ns) (putVs f d ns ds))) (upd H p (.ins C dx ((putNs f ns).zip (putVs f v ns vs)))) := fun k2 c2 ns2 vs2 a f2 j xs e1 e2 e3 e4 => by
  have hl : k < m.length := (List.getElem?_eq_some_iff.mp em).1
  have hj : k ≠ j := fun q => by subst q; rw [List.getElem?_set_self hl] at e4; cases e4
  rw [List.getElem?_set_ne hj] at e4
  by_cases h : k = k2
  · subst h
    rw [List.getElem?_set_self hl] at e1
    cases e1
    rw [hk] at e2
    cases e2
    rw [look_put h2] at e3
    by_cases hf : f2 = f
    · rw [if_pos hf] at e3
      cases e3
      simp at hd
    · rw [if_neg hf] at e3
      obtain ⟨b, C', dx', fs, q1, q2, q3⟩ := M.lnk k c ns ds _ f2 j xs em hk e3 e4
      rw [hH] at q2
      cases q2
      exact ⟨b, C, dx, _, q1, upd_same, by rw [look_put h1, if_neg hf]; exact q3⟩
  · rw [List.getElem?_set_ne h] at e1
    obtain ⟨b, C', dx', fs, q1, q2, q3⟩ := M.lnk k2 c2 ns2 vs2 a f2 j xs e1 e2 e3 e4
    exact ⟨b, C', dx', fs, q1, by rw [upd_ne (fun z => h (idx_inj M.nd hk (by rw [← z]; exact e2)))]; exact q2, q3⟩
theorem Step.cut (s : Step Hi ι H Hi' ι' H') {n : Nat} (hn : ι.length ≤ n) : Step Hi ι H Hi' (ι'.take n) H' := by
  refine ⟨s.imm, ?_, s.frm, fun a h1 h2 => s.new a (List.mem_of_mem_take h1) h2, s.live, s.inew⟩
  rw [List.prefix_take_iff]
  exact ⟨s.pre, hn⟩
theorem not_take {n k : Nat} {a : Addr} (nd : ι.Nodup) (h : ι[k]? = some a) (hk : n ≤ k) : a ∉ ι.take n := fun hm => by
  obtain ⟨j, hj⟩ := List.getElem?_of_mem hm
  have hjl : j < n := by
    have := (List.getElem?_eq_some_iff.mp hj).1
    rw [List.length_take] at this
    omega
  rw [List.getElem?_take_of_lt hjl] at hj
  have := idx_inj nd hj h
  omega
/-- an object that was made meanwhile becomes data; what else was made is let go -/
theorem Step.frzX (s : Step Hi ι H Hi' ι' H') (M' : Mok K mg Hi' ι' m' H') {n k : Nat} {a : Addr} {o : HO} {mo : MO} (hn : ι.length = n) (hk : n ≤ k) (h1 : ι'[k]? = some a) (em : m'[k]? = some mo) (hd : mo ≠ .dead) (ho : H' a = some o) :
    Mok K mg (upd Hi' a o) (ι'.take n) (m'.take n) H' ∧ Step Hi ι H (upd Hi' a o) (ι'.take n) H' ∧ Same Hi' (upd Hi' a o) := by
  have hi : Hi' a = none := M'.free k _ a em h1 hd
  have nin := not_take M'.nd h1 hk
  have c := s.cut (n := n) (by omega)
  have e : ι'.take n = ι := take_pre s.pre hn
  have nH : H a = none := s.new a (List.mem_of_getElem? h1) (by rw [← e]; exact nin)
  have im : Same Hi' (upd Hi' a o) := fun b u q => by rw [upd_ne (ne_of_none q hi)]; exact q
  exact ⟨(M'.cut n).keep ho nin hi, ⟨c.imm.trans im, c.pre, c.frm, c.new, c.live, fun b z0 z1 z2 => by rw [upd_ne (fun z => z2 (by rw [z]; exact nH))]; exact c.inew b z0 z1 z2⟩, im⟩
/-! ### fields -/
theorem insOf_rep {v : V} {w : W} {c : Str} {ns : List Str} {ds : List D} (M : Mok K mg Hi ι m H) (r : RepW K mg Hi ι v w) (h : insOf w m = some (c, ns, ds)) :
    ∃ a C dx vs, v = .ref a ∧ mg c = some (.ref C) ∧ H a = some (.ins C dx (ns.zip vs)) ∧ ns.length = vs.length ∧ RepL K mg Hi vs ds := by
  unfold insOf at h
  split at h
  · cases h
    cases r with
    | obj g1 g2 g3 g4 g5 => exact ⟨_, _, _, _, rfl, g1, M.sub _ _ g2, g4, g5⟩
  · split at h
    · rename_i e
      cases h
      obtain ⟨a, h1, h2⟩ := r
      obtain ⟨C, dx, vs, q0, q1, q2, q3, q4⟩ := M.obj _ _ _ e h1
      exact ⟨a, C, dx, vs, h2, q0, q1, q3, q4⟩
    · cases h
  · cases h
theorem fld_some {f : Str} {d : D} : ∀ {ns : List Str} {vs : List V} {ds : List D}, RepL K mg Hi vs ds → (ns.zip ds).lookup f = some d → ∃ v, (ns.zip vs).lookup f = some v ∧ Rep K mg Hi v d
  | [], _, _, _, h => by simp at h
  | _ :: _, _, _, .nil, h => by simp at h
  | g :: ns, v :: vs, d' :: ds, .cons a b, h => by
    simp only [List.zip_cons_cons, List.lookup] at h ⊢
    cases e : f == g with
    | true => rw [e] at h; cases h; exact ⟨v, rfl, a⟩
    | false => rw [e] at h; exact fld_some b h
theorem fld_none {f : Str} : ∀ {ns : List Str} {vs : List V} {ds : List D}, RepL K mg Hi vs ds → (ns.zip ds).lookup f = none → (ns.zip vs).lookup f = none
  | [], _, _, _, h => by simp
  | _ :: _, _, _, .nil, h => by simp
  | g :: ns, v :: vs, d' :: ds, .cons a b, h => by
    simp only [List.zip_cons_cons, List.lookup] at h ⊢
    cases e : f == g with
    | true => rw [e] at h; cases h
    | false => rw [e] at h; exact fld_none b h
theorem fld_not {f : Str} : ∀ {ns : List Str} {vs : List V}, f ∉ ns → (ns.zip vs).lookup f = none
  | [], _, _ => by simp
  | _ :: _, [], _ => by simp
  | g :: ns, v :: vs, h => by
    simp only [List.zip_cons_cons, List.lookup]
    have e : (f == g) = false := by
      rw [beq_eq_false_iff_ne]
      exact fun q => h (by rw [q]; exact List.mem_cons_self ..)
    rw [e]
    exact fld_not fun q => h (List.mem_cons_of_mem _ q)
theorem putVs_len {α : Type} {f : Str} {v : α} : ∀ {ns : List Str} {vs : List α}, ns.length = vs.length → (putNs f ns).length = (putVs f v ns vs).length
  | [], [], _ => rfl
  | g :: ns, x :: vs, h => by
    have ih := putVs_len (f := f) (v := v) (ns := ns) (vs := vs) (by simpa using h)
    unfold putNs at ih ⊢
    unfold putVs
    by_cases e : g = f
    · subst e
      rw [if_pos rfl, if_pos (List.mem_cons_self ..)]
      simpa using h
    · rw [if_neg e]
      by_cases q : f ∈ ns
      · rw [if_pos q] at ih
        rw [if_pos (List.mem_cons_of_mem _ q)]
        simp [ih]
      · rw [if_neg q] at ih
        rw [if_neg (fun z => q ((List.mem_cons.mp z).resolve_left fun z => e z.symm))]
        simp only [List.cons_append, List.length_cons]
        omega
  | [], _ :: _, h => by simp at h
  | _ :: _, [], h => by simp at h
theorem putF_zip {f : Str} {v : V} : ∀ {ns : List Str} {vs : List V}, ns.length = vs.length → putF f v (ns.zip vs) = (putNs f ns).zip (putVs f v ns vs)
  | [], [], _ => by simp [putF, putNs, putVs]
  | g :: ns, x :: vs, h => by
    have ih := putF_zip (f := f) (v := v) (ns := ns) (vs := vs) (by simpa using h)
    simp only [List.zip_cons_cons, putF]
    unfold putVs
    unfold putNs at ih ⊢
    by_cases e : g = f
    · subst e
      rw [if_pos rfl, if_pos rfl, if_pos (List.mem_cons_self ..)]
      rfl
    · rw [if_neg e, if_neg e, ih]
      by_cases q : f ∈ ns
      · rw [if_pos q, if_pos (List.mem_cons_of_mem _ q)]
        rfl
      · rw [if_neg q, if_neg (fun z => q ((List.mem_cons.mp z).resolve_left fun z => e z.symm))]
        rfl
  | [], _ :: _, h => by simp at h
  | _ :: _, [], h => by simp at h
theorem putVs_rep {f : Str} {v : V} {d : D} : ∀ {ns : List Str} {vs : List V} {ds : List D}, Rep K mg Hi v d → RepL K mg Hi vs ds → RepL K mg Hi (putVs f v ns vs) (putVs f d ns ds)
  | [], _, _, h, _ => .cons h .nil
  | _ :: _, _, _, h, .nil => .cons h .nil
  | g :: ns, _ :: _, _ :: _, h, .cons a b => by
    unfold putVs
    by_cases e : g = f
    · rw [if_pos e, if_pos e]
      exact .cons h b
    · rw [if_neg e, if_neg e]
      exact .cons a (putVs_rep h b)
end
/-! ### what the text says of a class -/
/-- the class named c has (or its instances may have) the field f of its own -/
structure FldOk (K : PySem.W.Frag) (mg : Str → Option Value) (c f : Str) : Prop where
  ex : ∃ C, mg c = some (.ref C) ∧ Cls K C ∧ NoAttr K C f
structure ConOk (K : PySem.W.Frag) (mg : Str → Option Value) (c f : Str) (d : D) : Prop where
  ex : ∃ C v u, mg c = some (.ref C) ∧ Cls K C ∧ Con K C f v u ∧ ∀ Hi, Rep K mg Hi v d
structure MethOk (P : Program) (w : World) (K : PySem.W.Frag) (mg : Str → Option Value) (base : Heap) (c nm : Str) (k : Nat) (g : Fn) : Prop where
  ex : ∃ C f, mg c = some (.ref C) ∧ Cls K C ∧ Meth K C nm f ∧ FnR P w K mg base (L2.CX P w) k f (spN K mg g)
structure PropOk (P : Program) (w : World) (K : PySem.W.Frag) (mg : Str → Option Value) (base : Heap) (c nm : Str) (k : Nat) (g : Fn) : Prop where
  ex : ∃ C p f, mg c = some (.ref C) ∧ Cls K C ∧ PropOf K C nm p f ∧ FnR P w K mg base (L2.CX P w) k f (spN K mg g)
structure NewOk (P : Program) (w : World) (K : PySem.W.Frag) (mg : Str → Option Value) (base : Heap) (c : Str) (k : Nat) (g : Fn) : Prop where
  ex : ∃ C f, mg c = some (.ref C) ∧ Mk K C f ∧ FnR P w K mg base (L2.CX P w) k f (spN K mg g)
/-- a table of what is so for each class -/
def AllT {α : Type} (p : Str → α → Prop) : List (Str × α) → Prop
  | [] => True
  | (c, a) :: l => p c a ∧ AllT p l
theorem AllT.get {α : Type} {p : Str → α → Prop} {c : Str} {a : α} : ∀ {l : List (Str × α)}, AllT p l → l.lookup c = some a → p c a
  | [], _, h => by simp at h
  | (c', a') :: l, ⟨h1, h2⟩, h => by
    simp only [List.lookup] at h
    cases e : c == c' with
    | true =>
      rw [e] at h
      cases h
      rw [beq_iff_eq] at e
      subst e
      exact h1
    | false => rw [e] at h; exact AllT.get h2 h
def AllC (p : Str → Prop) : List Str → Prop
  | [] => True
  | c :: l => p c ∧ AllC p l
theorem AllC.get {p : Str → Prop} {c : Str} : ∀ {l : List Str}, AllC p l → c ∈ l → p c
  | [], _, h => by simp at h
  | c' :: l, ⟨h1, h2⟩, h => by
    rcases List.mem_cons.mp h with e | e
    · subst e; exact h1
    · exact AllC.get h2 e
/-! ### rules -/
section
variable {X : Cx} {Wx : WX} {kk j : Nat} {e o : Expr} {es : List Expr} {f nm x : Str} {pos apos pos' p : Pos} {fa fo : Ev} {a : EvL}
theorem pd_fld {cs : List Str} (T : AllC (fun c => FldOk X.K X.mg c f) cs) (he : PE X e (tD X.K X.mg Wx fa)) (hb : attributeBase e f X.env (eval e X.env) = eval e X.env := by rfl) : PE X (.Attribute e f pos) (tD X.K X.mg Wx (fUn (oFld cs f) fa)) :=
  PE.imp (pe_fld he hb) fun σ H Q t => by
    obtain ⟨Hi, ι, ρ, m, RR, g⟩ := t
    refine ⟨Hi, ι, ρ, m, RR, good_bind g fun w m1 Hi1 ι1 v H1 st M rv g1 => ?_⟩
    unfold oFld at g1
    split at g1
    case h_2 => exact g1.elim
    rename_i c ns ds hi
    split at g1
    case isFalse => exact g1.elim
    rename_i hc
    split at g1
    case h_2 => exact g1.elim
    rename_i d hd
    obtain ⟨a, C, dx, vs, ev, hg, ha, hl, rl⟩ := insOf_rep M rv hi
    obtain ⟨C', hg', hcl, hna⟩ := (T.get hc).ex
    rw [hg] at hg'
    cases hg'
    obtain ⟨y, h1, h2⟩ := fld_some rl hd
    exact ⟨a, C, dx, _, y, ev, ha, hcl, hna, h1, g1.here (rep := RepW X.K X.mg) M h2⟩
theorem pd_con {tab : List (Str × D)} (T : AllT (fun c d => ConOk X.K X.mg c f d) tab) (he : PE X e (tD X.K X.mg Wx fa)) (hb : attributeBase e f X.env (eval e X.env) = eval e X.env := by rfl) : PE X (.Attribute e f pos) (tD X.K X.mg Wx (fUn (oCon tab f) fa)) :=
  PE.imp (pe_con he hb) fun σ H Q t => by
    obtain ⟨Hi, ι, ρ, m, RR, g⟩ := t
    refine ⟨Hi, ι, ρ, m, RR, good_bind g fun w m1 Hi1 ι1 v H1 st M rv g1 => ?_⟩
    unfold oCon at g1
    split at g1
    case h_2 => exact g1.elim
    rename_i c ns ds hi
    split at g1
    case h_1 => exact g1.elim
    rename_i hn
    split at g1
    case h_2 => exact g1.elim
    rename_i d hd
    obtain ⟨a, C, dx, vs, ev, hg, ha, hl, rl⟩ := insOf_rep M rv hi
    obtain ⟨C', y, u, hg', hcl, hco, hr⟩ := (T.get hd).ex
    rw [hg] at hg'
    cases hg'
    exact ⟨a, C, dx, _, y, u, ev, ha, hcl, hco, fld_none rl hn, g1.here (rep := RepW X.K X.mg) M (hr Hi1)⟩
theorem psd_fld {cs : List Str} {value : Expr} (T : AllC (fun c => FldOk X.K X.mg c f) cs) (hv : PE X value (tD X.K X.mg Wx fa)) (ho : PE X o (tD X.K X.mg Wx fo)) (hs : swapsWith value (some (.Attribute o f pos')) pos.line X.env = pure false := by rfl) :
    PS X (.Assign [.Attribute o f pos'] value pos) (tDS X.K X.mg Wx (sFldSet cs f fa fo)) := PS.imp (ps_fld ho hv hs) fun D σ H t => by
  obtain ⟨Hi, ι, ρ, m, RR, g⟩ := t
  refine ⟨Hi, ι, ρ, m, RR, goodS_lift RR g fun y m1 Hi1 ι1 v H1 st M rv g1 => ⟨Hi1, ι1, ρ, m1, RR.step st M, goodS_lift (RR.step st M) g1 fun w m2 Hi2 ι2 u H2 st2 M2 ru g2 => ?_⟩⟩
  split at g2
  case h_2 => exact g2.elim
  rename_i d k
  split at g2
  case h_2 => exact g2.elim
  rename_i c ns ds em
  split at g2
  case isFalse => exact g2.elim
  rename_i hc
  obtain ⟨a, h1, h2⟩ := ru
  obtain ⟨C, dx, vs, q0, q1, q2, q3, q4⟩ := M2.obj _ _ _ em h1
  obtain ⟨C', hg', hcl, hna⟩ := (T.get hc.1).ex
  rw [q0] at hg'
  cases hg'
  refine ⟨a, C, dx, _, h2, q1, hcl, hna, by rw [List.length_zip]; omega, ?_⟩
  rw [putF_zip q3]
  have rv2 : RepW X.K X.mg Hi2 ι2 v (.d d) := rv.step st2
  obtain ⟨M3, st3⟩ := M2.setL (o := .ins C dx ((putNs f ns).zip (putVs f v ns vs))) (mo := .ins c (putNs f ns) (putVs f d ns ds)) h1 em (fun q => nomatch q) ⟨C, dx, _, q0, upd_same, q2, putVs_len q3, putVs_rep rv2 q4⟩ (M2.lnkF h1 em q1 q3 (q3.trans q4.length) hc.2.2)
  exact g2 _ _ _ _ st3 ((RR.step st M).step (st2.trans st3) M3)
/-! ### methods -/
theorem meth_core {tab : List (Str × Fn)} {pl : Sem Bool} (c : Cc X Wx kk) (T : AllT (fun c g => MethOk X.prog X.w X.K X.mg X.base c nm j g) tab) (hj : j ≤ kk) {pins : List (Addr × Obj)} {s : Shared} {σ : L2.St} {H : Hp} {Q : VK} {Hi : Hp} {ι : List Addr} {ρ : Env} {m : Mem} {v : V} {u : Value} {w : W}
    (I : Inv X pins σ H s) (rv : RelV v u) (RR : Rel X.K X.mg Hi ι ρ m σ H) (rw_ : RepW X.K X.mg Hi ι v w)
    (g : Good X.K X.mg (RepW X.K X.mg) Wx σ Hi ι H (match insOf w m with
      | some (c, ns, _) => (match tab.lookup c with
        | some g => if nm ∈ ns then .bad else (a ρ m).bind fun ws m => g (w :: ws) m
        | none => .bad)
      | none => .bad) Q)
    (k : ∀ (b f' : Addr) (gm : Fn), v = .ref b → PySem.W.keepIn X.K (.ref f') = true → FnR X.prog X.w X.K X.mg X.base (L2.CX X.prog X.w) j f' (spN X.K X.mg gm) → tDA X.K X.mg Wx a σ H (fun vs H1 => spN X.K X.mg gm (.ref b :: vs) H1 Q (WE Wx σ)) →
      wpAny (model X.prog X.w) X.A (callWith pos (.ref f') [.ref b] (backTo pos (starEach es X.env)) []) (EP X pins σ Q) X.xe s) :
    wpAny (model X.prog X.w) X.A (getMethod u nm pl) (fun r s' => wpAny (model X.prog X.w) X.A (callWith pos r.1 r.2 (backTo pos (starEach es X.env)) []) (EP X pins σ Q) X.xe s') X.xe s := by
  split at g
  case h_2 => exact g.elim
  rename_i cn ns ds hi
  split at g
  case h_2 => exact g.elim
  rename_i gm hm
  split at g
  case isTrue => exact g.elim
  rename_i hn
  obtain ⟨b, C, dx, vs, ev, hg, ha, hl, rl⟩ := insOf_rep RR.mok rw_ hi
  obtain ⟨C', f', hg', hcl, hme, F⟩ := (T.get hm).ex
  rw [hg] at hg'
  cases hg'
  subst ev
  obtain rfl : u = Value.ref b := rv
  refine getmeth_ok I ha hcl hme (fld_not hn) (k b f' gm rfl hme.kp F ⟨Hi, ι, ρ, m, RR, good_bind g fun ws m2 Hi2 ι2 vs2 H2 st2 M2 rvs g2 => ⟨Hi2, ι2, w :: ws, m2, M2, .cons (rw_.step st2) rvs, g2⟩⟩)
theorem pd_meth {tab : List (Str × Fn)} {pl : Sem Bool} (c : Cc X Wx kk) (T : AllT (fun c g => MethOk X.prog X.w X.K X.mg X.base c nm j g) tab) (hj : j ≤ kk) (ho : PE X o (tD X.K X.mg Wx fo)) (ha : PA X (e :: es) (tDA X.K X.mg Wx a))
    (hst : starEach (e :: es) X.env = (false, eval e X.env) :: starEach es X.env := by rfl) (hpl : (backTo pos (starEach es X.env)).any (·.1) = false := by rfl)
    (ht : eval (.Call (.Attribute o nm apos) (e :: es) [] pos) X.env = (do
      let ov ← eval o X.env
      standAt apos.atName
      let (f, first) ← holding [ov] (getMethod ov nm pl)
      callWith pos f first (backTo pos (starEach (e :: es) X.env)) (backToKw pos (keywordEach [] X.env))) := by rfl) : PE X (.Call (.Attribute o nm apos) (e :: es) [] pos) (tD X.K X.mg Wx (fMeth tab nm fo a)) := by
  refine ⟨fun pins s σ H Q I h => ?_⟩
  obtain ⟨Hi, ι, ρ, m, RR, g⟩ := h
  refine PySem.W.methodCall_KW (pl := pl) (thn (ho.run pins s σ H (fun v H1 => ∃ Hi1 ι1 w m1, Rel X.K X.mg Hi1 ι1 ρ m1 σ H1 ∧ RepW X.K X.mg Hi1 ι1 v w ∧ Good X.K X.mg (RepW X.K X.mg) Wx σ Hi1 ι1 H1 _ Q) I ⟨Hi, ι, ρ, m, RR, good_bind g fun w m1 Hi1 ι1 v H1 st M rv g1 => ⟨Hi1, ι1, w, m1, RR.step st M, rv, g1⟩⟩) ?_) ht
  intro u s1 ⟨v, H1, I1, rv, Hi1, ι1, w, m1, RR1, rw1, g1⟩
  exact meth_core c T hj I1 rv RR1 rw1 g1 fun b f' gm ev hk F q => PySem.W.callWith_K (h₀ := X.base) I1.ok.mod.kin hk (thn (ha.run pos pins s1 σ H1 _ I1 q) fun us s2 ⟨vs, H2, I2, r, q2⟩ => ⟨I2.kIn, wpAny_call (run_fnRS F (c.room.mono hj) (passAt c.tk σ) I2 (us := .ref b :: us) (vs := .ref b :: vs) (.cons rfl r) q2)⟩) hst hpl
theorem pd_meth0 {tab : List (Str × Fn)} {pl : Sem Bool} (c : Cc X Wx kk) (T : AllT (fun c g => MethOk X.prog X.w X.K X.mg X.base c nm j g) tab) (hj : j ≤ kk) (ho : PE X o (tD X.K X.mg Wx fo))
    (ht : eval (.Call (.Attribute o nm apos) [] [] pos) X.env = (do
      let ov ← eval o X.env
      standAt apos.atName
      let (f, first) ← holding [ov] (getMethod ov nm pl)
      callWith pos f first (backTo pos (starEach [] X.env)) (backToKw pos (keywordEach [] X.env))) := by rfl) : PE X (.Call (.Attribute o nm apos) [] [] pos) (tD X.K X.mg Wx (fMeth tab nm fo fNil)) := by
  refine ⟨fun pins s σ H Q I h => ?_⟩
  obtain ⟨Hi, ι, ρ, m, RR, g⟩ := h
  refine PySem.W.methodCall_KW (pl := pl) (thn (ho.run pins s σ H (fun v H1 => ∃ Hi1 ι1 w m1, Rel X.K X.mg Hi1 ι1 ρ m1 σ H1 ∧ RepW X.K X.mg Hi1 ι1 v w ∧ Good X.K X.mg (RepW X.K X.mg) Wx σ Hi1 ι1 H1 _ Q) I ⟨Hi, ι, ρ, m, RR, good_bind g fun w m1 Hi1 ι1 v H1 st M rv g1 => ⟨Hi1, ι1, w, m1, RR.step st M, rv, g1⟩⟩) ?_) ht
  intro u s1 ⟨v, H1, I1, rv, Hi1, ι1, w, m1, RR1, rw1, g1⟩
  refine meth_core (a := fNil) c T hj I1 rv RR1 rw1 g1 fun b f' gm ev hk F q => PySem.W.callWith_K0 (first := [.ref b]) I1.kIn hk ?_
  obtain ⟨Hi2, ι2, ρ2, m2, R2, g2⟩ := q
  exact wpAny_call (run_fnRS F (c.room.mono hj) (passAt c.tk σ) I1 (us := [.ref b]) (vs := [.ref b]) (.cons rfl .nil) (g2.here (rep := RepWs X.K X.mg) (x := []) R2.mok .nil))
/-! ### properties -/
theorem pd_prop {tab : List (Str × Fn)} (c : Cc X Wx kk) (T : AllT (fun c g => PropOk X.prog X.w X.K X.mg X.base c f j g) tab) (hj : j + 1 ≤ kk) (he : PE X e (tD X.K X.mg Wx fa)) (hab : attributeBase e f X.env (eval e X.env) = eval e X.env := by rfl) :
    PE X (.Attribute e f pos) (tD X.K X.mg Wx (fUn (oProp tab) fa)) := by
  refine ⟨fun pins s σ H Q I h => ?_⟩
  obtain ⟨Hi, ι, ρ, m, RR, g⟩ := h
  refine attr_of hab (thn (he.run pins s σ H (fun v H1 => ∃ Hi1 ι1 w m1, Mok X.K X.mg Hi1 ι1 m1 H1 ∧ RepW X.K X.mg Hi1 ι1 v w ∧ Good X.K X.mg (RepW X.K X.mg) Wx σ Hi1 ι1 H1 (oProp tab w m1) Q) I ⟨Hi, ι, ρ, m, RR, good_bind g fun w m1 Hi1 ι1 v H1 st M rv g1 => ⟨Hi1, ι1, w, m1, M, rv, g1⟩⟩) ?_)
  intro u s1 ⟨v, H1, I1, rv, Hi1, ι1, w, m1, M1, rw1, g1⟩
  unfold oProp at g1
  split at g1
  case h_2 => exact g1.elim
  rename_i cn ns ds hi
  split at g1
  case h_2 => exact g1.elim
  rename_i gm hm
  obtain ⟨b, C, dx, vs, ev, hg, ha, hl, rl⟩ := insOf_rep M1 rw1 hi
  obtain ⟨C', p', f', hg', hcl, hp, F⟩ := (T.get hm).ex
  rw [hg] at hg'
  cases hg'
  subst ev
  obtain rfl : u = Value.ref b := rv
  obtain ⟨mA, O, _, _, _, _⟩ := ins_get I1.hok ha
  obtain ⟨od, J, _⟩ := O.look
  obtain ⟨rest, hrec⟩ := hp.rec_
  have I2 := I1.tok (s1.toks + 1)
  have hc : (PySem.W.clsIn X.K C).isSome = true := by
    obtain ⟨cd, hc, _⟩ := PySem.W.any_some hcl.hd
    rw [hc] <;> rfl
  have hpg := PySem.W.plainGet_of (hcl.get f)
  have hh : spN X.K X.mg gm [.ref b] H1 Q (fun _ _ _ => False) := ⟨Hi1, ι1, [w], m1, M1, .cons rw1 .nil, by
    cases e : gm [w] m1 with
    | ok x m2 => rw [e] at g1; exact g1
    | exc c ns vs m2 => rw [e] at g1; exact g1.elim
    | bad => rw [e] at g1; exact g1⟩
  refine PySem.W.get_bind I1.kIn J hpg.1 (PySem.W.findObj_data hc hp.at_ hp.get hp.tak) hpg.2 (wpAny_call (PySem.W.prop_get (s := { s1 with toks := s1.toks + 1 }) I1.kIn hrec ?_))
  refine codeAny_mono (F X.A.in1 X.stack { s1 with toks := s1.toks + 1 } H1 [.ref b] [.ref b] Q (fun _ _ _ => False) (c.room.mono hj).in1 I2.env0.in1 (.cons rfl .nil) hh) fun r s' hq => ?_
  cases r with
  | error er => obtain ⟨_, _, _, _, _, _, _, _, _, _, _, _, z⟩ := hq; exact z.elim
  | ok fl =>
    cases fl with
    | ret y =>
      obtain ⟨z, H3, I3, rz, q3⟩ := I2.after hq
      show wpAny _ _ (handedOut y) _ _ _
      rw [PySem.W.handedOut_of (handed_of rz)]
      exact wpAny_pure ⟨z, H3, I3, rz, q3⟩
    | next => exact False.elim hq
    | brk => exact False.elim hq
    | cont => exact False.elim hq
end
end GD
/-! GE1: a class as what is called; methods as functions. -/
namespace GD
open PySem PySem.Spec PyProof.Rows L2
section
variable {P : Program} {w : World} {K : PySem.W.Frag} {mg : Str → Option Value} {base : Heap}
/-- a class called, by its __init__ -/
theorem make_fnR {k : Nat} {C f : Addr} {sp : Sp} (M : Mk K C f) (F : FnR P w K mg base (L2.CX P w) k f sp) :
    FnR P w K mg base (L2.CX P w) (k + 1) C (fun vs H Q E => ∀ x dx, H x = none → H dx = none → dx ≠ x → sp (.ref x :: vs) (upd (upd H dx (.own x)) x (.ins C dx [])) (fun v H2 => v = .non ∧ Q (.ref x) H2) E) := by
  intro A outer s H us vs Q E hr e0 r hsp
  have KX : K.In s.heap := e0.mod.kin.keeps fun b o e => (e0.bs b o e).1
  have n1 : H s.heap.objs.size = none := e0.hok.fresh (Nat.le_refl _)
  have n2 : H (s.heap.objs.size + 1) = none := e0.hok.fresh (Nat.le_succ _)
  have ne : s.heap.objs.size ≠ s.heap.objs.size + 1 := Nat.ne_of_lt (Nat.lt_succ_self _)
  have hq := hsp (s.heap.objs.size + 1) s.heap.objs.size n2 n1 ne
  have a1 : (s.heap.push PySem.W.emptyDict).get? s.heap.objs.size = some PySem.W.emptyDict := Heap.get?_push_size s.heap rfl
  have sz : (s.heap.push PySem.W.emptyDict).objs.size = s.heap.objs.size + 1 := Heap.size_push _ _
  have e1 := StX.env0_laid (o := PySem.W.emptyDict) (u := .own (s.heap.objs.size + 1)) e0 ⟨_, a1⟩
  have a2 : ((s.heap.push PySem.W.emptyDict).push (PySem.W.instObj C s.heap.objs.size)).get? (s.heap.objs.size + 1) = some (PySem.W.instObj C s.heap.objs.size) := by
    have z := Heap.get?_push_size (s.heap.push PySem.W.emptyDict) (o := PySem.W.instObj C s.heap.objs.size) rfl
    rw [sz] at z
    exact z
  have a3 : (s.heap.push PySem.W.emptyDict).Ns s.heap.objs.size (fun _ => none) := ⟨PySem.W.emptyDict, #[], _, a1, rfl, (fun e he => absurd he (by simp)), fun _ => rfl⟩
  have new : ObjOk P w (upd (upd H s.heap.objs.size (.own (s.heap.objs.size + 1))) (s.heap.push PySem.W.emptyDict).objs.size (.ins C s.heap.objs.size [])) ((s.heap.push PySem.W.emptyDict).push (PySem.W.instObj C s.heap.objs.size)) (s.heap.push PySem.W.emptyDict).objs.size (.ins C s.heap.objs.size []) := by
    rw [sz]
    exact ⟨by rw [upd_ne ne, upd_same], Nat.zero_le _, ne, a2, fun _ => none, (Heap.Ns1.of_empty a3).at fun o q => Heap.get?_push_of_some _ q, fun _ => True.intro, fun y hy => absurd rfl hy⟩
  have e2 := StX.env0_laid (o := PySem.W.instObj C s.heap.objs.size) (u := .ins C s.heap.objs.size []) e1 new
  have u1 := StX.un_laid (fs := frs outer) (s := s) (o := PySem.W.emptyDict) (u := .own (s.heap.objs.size + 1)) n1
  have n2' : upd H s.heap.objs.size (.own (s.heap.objs.size + 1)) (s.heap.push PySem.W.emptyDict).objs.size = none := by rw [sz, upd_ne ne.symm]; exact n2
  have u2 := StX.un_laid (fs := frs outer) (s := { s with heap := s.heap.push PySem.W.emptyDict }) (o := PySem.W.instObj C s.heap.objs.size) (u := .ins C s.heap.objs.size []) n2'
  rw [show ({ s with heap := s.heap.push PySem.W.emptyDict } : Shared).heap.objs.size = s.heap.objs.size + 1 from sz] at e2 u2
  have un := u1.trans u2
  have kp : ∀ b o, s.heap.get? b = some o → ((s.heap.push PySem.W.emptyDict).push (PySem.W.instObj C s.heap.objs.size)).get? b = some o := fun b o q => Heap.get?_push_of_some _ (Heap.get?_push_of_some _ q)
  refine make_map (f := f) KX M.makes M.init (beq_iff_eq.mp M.fn) (codeAny_mono (F _ outer _ _ (Value.ref (s.heap.objs.size + 1) :: us) (V.ref (s.heap.objs.size + 1) :: vs) _ E (hr.make C us []) (e2.make C us []) (.cons rfl r) hq) fun r s' hq' => ?_)
  cases r with
  | error e => exact StX.cxUp outer s H { s with heap := (s.heap.push PySem.W.emptyDict).push (PySem.W.instObj C s.heap.objs.size) } _ E e s' un kp rfl hq'
  | ok fl =>
    cases fl with
    | ret u =>
      obtain ⟨v, H', h1, h2, h3, h4, h5, h6, h7⟩ := hq'
      subst h6
      exact ⟨h5, ⟨V.ref (s.heap.objs.size + 1), H', h1, h2, un.trans h3, h4, rfl, h7⟩⟩
    | next => exact False.elim hq'
    | brk => exact False.elim hq'
    | cont => exact False.elim hq'
/-- C(..) as a function on data -/
theorem new_fnR {k : Nat} {C f : Addr} {c : Str} {g : Fn} (fz : Bool) (hg : mg c = some (.ref C)) (M : Mk K C f) (F : FnR P w K mg base (L2.CX P w) k f (spN K mg g)) : FnR P w K mg base (L2.CX P w) (k + 1) C (spN K mg (newO fz c g)) := by
  refine (make_fnR M F).imp fun vs H Q E h => ?_
  obtain ⟨Hi, ι, ws, m, M0, r, gd⟩ := h
  intro x dx hx hdx hne
  obtain ⟨M1, s1⟩ := M0.newD (o := .own x) hdx
  have hx1 : upd H dx (.own x) x = none := by rw [upd_ne (fun z => hne z.symm)]; exact hx
  obtain ⟨M2, s2⟩ := M1.newX (o := .ins C dx []) (mo := .ins c [] []) hx1 ⟨C, dx, [], hg, upd_same, upd_same, rfl, .nil⟩
  have s12 := s1.trans s2
  have lm : ι.length = m.length := M0.len
  refine ⟨_, _, .m m.length :: ws, _, M2, .cons ⟨x, by rw [← lm, List.getElem?_append_right (Nat.le_refl _)]; simp, rfl⟩ (r.step s12), ?_⟩
  have ix : ∀ {ι' : List Addr}, ι ++ [x] <+: ι' → ι'[m.length]? = some x := fun {ι'} p => by
    obtain ⟨t, rfl⟩ := p
    rw [List.getElem?_append_left (by simp [lm]), ← lm, List.getElem?_append_right (Nat.le_refl _)]
    simp
  unfold newO at gd
  cases e : g (.m m.length :: ws) (m ++ [.ins c [] []]) with
  | bad => rw [e] at gd; exact gd
  | exc c' ns vs' m' =>
    rw [e] at gd
    intro Hi' ι' H' C' dx' fs st M'
    have st' := s12.trans st
    have ct := st'.cut (n := m.length) (by omega)
    exact gd Hi' (ι'.take m.length) H' C' dx' fs ct (M'.cut m.length)
  | ok y m' =>
    rw [e] at gd
    dsimp only at gd
    intro Hi' ι' v H' st M' rv
    split at gd
    case h_2 => exact gd.elim
    rename_i c' ns ds em
    have st' := s12.trans st
    have hix := ix st.pre
    obtain ⟨C', dx', us, q0, q1, q2, q3, q4⟩ := M'.obj _ _ _ em hix
    refine ⟨by cases rv; rfl, ?_⟩
    cases fz with
    | true =>
      obtain ⟨M3, s3, im⟩ := st'.frzX M' lm (Nat.le_refl _) hix em (fun q => nomatch q) q1
      exact gd _ _ _ _ s3 M3 (.obj q0 upd_same (im _ _ q2) q3 (q4.mono im))
    | false =>
      have ct := st'.cut (n := m.length + 1) (by omega)
      exact gd _ _ _ _ ct (M'.cut (m.length + 1)) ⟨x, by rw [List.getElem?_take_of_lt (Nat.lt_succ_self _)]; exact hix, rfl⟩
theorem new_def {k : Nat} {c : Str} {g : Fn} (fz : Bool) (N : NewOk P w K mg base c k g) : DefOk P w K mg base c (k + 1) (newO fz c g) := by
  obtain ⟨C, f, hg, M, F⟩ := N.ex
  exact ⟨C, new_fnR fz hg M F, hg, M.kp⟩
/-! ### defs by their bodies -/
theorem fnr_ok {x qual : Str} {st : Stmt} {f : Addr} {fd : FuncData} {N ps : List Str} {k n np : Nat} {b : Ex} (mu : Bool) (F : Fun K x qual st f fd) (S : FnScope N ps (defScope st)) (hn : N.length = n) (hp : ps.length = np)
    (hb : ∀ (kV doc pm : Value) (an : Option Addr) (cdv ct : Value) (us : List Value), us.length = ps.length → bindArgs (PySem.W.fnOf x qual (defArgs st) (defBody st) (defScope st) .none kV doc pm an cdv ct) ⟨us, []⟩ = pure (ps.zip us))
    (hbody : ∀ (f : Addr) (cdv : Value) (A : Around) (outer : List PySem.Env) (s : Shared) (H : Hp) (E : XK),
      Cc (cxOf (L2.CX P w) P w K mg base N qual (defScope st) f cdv A outer s H E) (fun c d _ H' => E c d H') k →
      PSs (cxOf (L2.CX P w) P w K mg base N qual (defScope st) f cdv A outer s H E) (defBody st) (tDS K mg (fun c d _ H' => E c d H') b)) : FnR P w K mg base (L2.CX P w) (k + 1) f (spN K mg (fnOf mu np n b)) := by
  have z := fnR_of (fun_ok (P := P) (w := w) (base := base) (mg := mg) (mu := mu) F S hn hp fun cdv A outer s H E hr => hbody f cdv A outer s H E ⟨takes_of rfl rfl rfl rfl, passes_of rfl, S.nd, rfl, hr⟩) (F.binds hb) .nil
  simp only [List.append_nil] at z
  exact z
end
/-! ### calls with a star -/
end GD
/-! GE2: own operators, len, str, ==, calls; methods of classes. -/
namespace GD
open PySem PySem.Spec PyProof.Rows L2
/-! ### mirrors -/
/-- x op y of two instances of one class -/
def oOwn (tab : List (Str × Fn)) : O2 := fun x y m => match insOf x m, insOf y m with
  | some (c, _, _), some (c', _, _) => if c = c' then (match tab.lookup c with
    | some g => g [x, y] m
    | none => .bad) else .bad
  | _, _ => .bad
/-- x == y by the own __eq__ -/
def oOwnEq (tab : List (Str × Fn)) : O2 := fun x y m => noX (oOwn tab x y m)
/-- C.nm(..): a method of the class (cm) or a static one -/
def fCMeth (cm : Bool) (tab : List (Str × Fn)) (o : Ev) (a : EvL) : Ev := fun ρ m => (o ρ m).bind fun w m => match w with
  | .d (.gl c) => (match tab.lookup c with
    | some g => (a ρ m).bind fun ws m => g (if cm then w :: ws else ws) m
    | none => .bad)
  | _ => .bad
structure OwnOk (P : Program) (w : World) (K : PySem.W.Frag) (mg : Str → Option Value) (base : Heap) (c nm : Str) (k : Nat) (g : Fn) : Prop where
  ex : ∃ C f, mg c = some (.ref C) ∧ PySem.W.selfFirst K C = true ∧ PySem.W.findIn K (.ref C) nm = some (some (.ref f)) ∧ PySem.W.isFn K (.ref f) = true ∧ PySem.W.fnIn K f = true ∧ FnR P w K mg base (L2.CX P w) k f (spN K mg g)
structure CMethOk (P : Program) (w : World) (K : PySem.W.Frag) (mg : Str → Option Value) (base : Heap) (c nm : Str) (k : Nat) (g : Fn) : Prop where
  ex : ∃ C mc p f, mg c = some (.ref C) ∧ ClX.CRead K C mc ∧ ClX.CMet K C mc nm p f ∧ FnR P w K mg base (L2.CX P w) k f (spN K mg g)
structure SMethOk (P : Program) (w : World) (K : PySem.W.Frag) (mg : Str → Option Value) (base : Heap) (c nm : Str) (k : Nat) (g : Fn) : Prop where
  ex : ∃ C mc p f rest, mg c = some (.ref C) ∧ ClX.CRead K C mc ∧ PySem.W.findCls K (.ref C) mc nm = some (.get (.builtin "staticmethod.__get__") (.ref p) .none (.ref C)) ∧ PySem.W.recIn K p "staticmethod" = some (.ref f :: rest) ∧
    PySem.W.keepIn K (.ref f) = true ∧ FnR P w K mg base (L2.CX P w) k f (spN K mg g)
theorem relV_ni {v : V} (h : RelV v .notImplemented) : False := by
  cases v with
  | int i => obtain ⟨t, h⟩ := h; cases h
  | str i => obtain ⟨t, h⟩ := h; cases h
  | byt i => obtain ⟨t, h⟩ := h; cases h
  | flt i => obtain ⟨t, h⟩ := h; cases h
  | _ => cases (show Value.notImplemented = _ from h)
section
variable {X : Cx} {Wx : WX} {kk j : Nat}
theorem cmpBack {pins : List (Addr × Obj)} {σ : L2.St} {Q : VK} {u : Value} {s' : Shared} (h : EP X pins σ Q u s') : PySem.W.CmpBack (EP X pins σ Q) u s' := by
  obtain ⟨v, H', I', r, q⟩ := h
  cases u <;> first | exact ⟨v, H', I', r, q⟩ | exact (relV_ni r).elim
/-- a call of which no error leaves, in some surroundings -/
theorem run_noX {A : Around} {f : Addr} {g : Fn} {pins : List (Addr × Obj)} {σ : L2.St} {H : Hp} {s : Shared} {Q : VK} {us : List Value} {vs : List V} {E' : Value → Shared → Prop} (F : FnR X.prog X.w X.K X.mg X.base (L2.CX X.prog X.w) j f (spN X.K X.mg g)) (hr : Room j A)
    (e0 : Env0 X.prog X.w X.K X.mg X.base A X.stack s H) (I : Inv X pins σ H s) (r : Vals vs us) (h : spN X.K X.mg g vs H Q (fun _ _ _ => False)) : wpAny (model X.prog X.w) A (call (.ref f) us) (EP X pins σ Q) E' s := by
  refine wpAny_call (codeAny_mono (F A X.stack s H us vs Q _ hr e0 r h) fun r s' hq => ?_)
  cases r with
  | error er => obtain ⟨_, _, _, _, _, _, _, _, _, _, _, _, z⟩ := hq; exact z.elim
  | ok fl =>
    cases fl with
    | ret y => exact I.after hq
    | next => exact False.elim hq
    | brk => exact False.elim hq
    | cont => exact False.elim hq
theorem inst_at {pins : List (Addr × Obj)} {σ : L2.St} {H : Hp} {s : Shared} {a C dx : Addr} {fs : List (Str × V)} (I : Inv X pins σ H s) (h : H a = some (.ins C dx fs)) : ∃ ox od, PySem.W.InstAt s.heap a ox C od ∧ ox.data = .plain := by
  obtain ⟨mA, O, _⟩ := ins_get I.hok h
  obtain ⟨od, J, _⟩ := O.look
  exact ⟨_, _, J, rfl⟩
variable {e o : Expr} {es : List Expr} {nm x : Str} {pos apos p : Pos} {fa fb fo : Ev} {a : EvL}
/-- what is asked of a pair of values by an operation from which no error leaves -/
def rW2 (K : PySem.W.Frag) (mg : Str → Option Value) (o : O2) : R2 := fun x y H Q => ∃ Hi ι m a b, Mok K mg Hi ι m H ∧ RepW K mg Hi ι x a ∧ RepW K mg Hi ι y b ∧ Good K mg (RepW K mg) (fun _ _ _ _ => False) [] Hi ι H (o a b m) Q
theorem good_noX {K : PySem.W.Frag} {mg : Str → Option Value} {Wy : WX} {σ τ : L2.St} {Hi H : Hp} {ι : List Addr} {r : R W} {Q : VK} (h : Good K mg (RepW K mg) Wx σ Hi ι H (noX r) Q) : Good K mg (RepW K mg) Wy τ Hi ι H (noX r) Q := by
  cases r with
  | ok a m => exact h
  | exc c ns vs m => exact h
  | bad => exact h
theorem s2_noX {K : PySem.W.Frag} {mg : Str → Option Value} {o : O2} : S2 K mg (rW2 K mg fun x y m => noX (o x y m)) (fun x y m => noX (o x y m)) := fun Wx σ Hi ι m H x y a b Q M rx ry g => ⟨Hi, ι, m, a, b, M, rx, ry, good_noX g⟩
/-- a op b, both instances of one class -/
theorem own_core {nm : Str} {tab : List (Str × Fn)} (T : AllT (fun c g => OwnOk X.prog X.w X.K X.mg X.base c nm j g) tab) {Hi H : Hp} {ι : List Addr} {m : Mem} {pins : List (Addr × Obj)} {σ : L2.St} {s : Shared} {x y : V} {v u : Value} {wa wb : W} {Q : VK} (I : Inv X pins σ H s) (rx : RelV x v) (ry : RelV y u)
    (M : Mok X.K X.mg Hi ι m H) (ra : RepW X.K X.mg Hi ι x wa) (rb : RepW X.K X.mg Hi ι y wb) (g : Good X.K X.mg (RepW X.K X.mg) Wx σ Hi ι H (oOwn tab wa wb m) Q) :
    ∃ (C f b1 b2 : Addr) (gm : Fn) (ox : Obj) (od : Option Obj) (ox' : Obj) (od' : Option Obj), v = .ref b1 ∧ u = .ref b2 ∧ x = .ref b1 ∧ y = .ref b2 ∧ PySem.W.InstAt s.heap b1 ox C od ∧ PySem.W.InstAt s.heap b2 ox' C od' ∧ PySem.W.selfFirst X.K C = true ∧ PySem.W.findIn X.K (.ref C) nm = some (some (.ref f)) ∧ PySem.W.isFn X.K (.ref f) = true ∧
      FnR X.prog X.w X.K X.mg X.base (L2.CX X.prog X.w) j f (spN X.K X.mg gm) ∧ Good X.K X.mg (RepW X.K X.mg) Wx σ Hi ι H (gm [wa, wb] m) Q := by
  unfold oOwn at g
  split at g
  case h_2 => exact g.elim
  rename_i c1 ns1 ds1 c2 ns2 ds2 h1 h2
  split at g
  case isFalse => exact g.elim
  rename_i hc
  subst hc
  split at g
  case h_2 => exact g.elim
  rename_i gm hm
  obtain ⟨b1, C1, dx1, vs1, e1, hg1, ha1, _, _⟩ := insOf_rep M ra h1
  obtain ⟨b2, C2, dx2, vs2, e2, hg2, ha2, _, _⟩ := insOf_rep M rb h2
  obtain ⟨C, f, hg, hsf, hfi, hisf, _, F⟩ := (T.get hm).ex
  rw [hg] at hg1 hg2
  cases hg1
  cases hg2
  subst e1 e2
  obtain ⟨ox, od, J1, _⟩ := inst_at I ha1
  obtain ⟨ox', od', J2, _⟩ := inst_at I ha2
  exact ⟨_, f, b1, b2, gm, ox, od, ox', od', rx, ry, rfl, rfl, J1, J2, hsf, hfi, hisf, F, g⟩
theorem pd_own {b : Expr} {op : Operator} {tab : List (Str × Fn)} (c : Cc X Wx kk) (T : AllT (fun c g => OwnOk X.prog X.w X.K X.mg X.base c (PySem.dunder op.info.2) j g) tab) (hj : j ≤ kk) (ha : PE X o (tD X.K X.mg Wx fa)) (hb : PE X b (tD X.K X.mg Wx fb)) : PE X (.BinOp o op b pos) (tD X.K X.mg Wx (fOp (oOwn tab) fa fb)) := by
  refine ⟨fun pins s σ H Q I h => ?_⟩
  have h' : tOp (fun x y H Q => ∃ Hi ι m wa wb, Mok X.K X.mg Hi ι m H ∧ RepW X.K X.mg Hi ι x wa ∧ RepW X.K X.mg Hi ι y wb ∧ Good X.K X.mg (RepW X.K X.mg) Wx σ Hi ι H (oOwn tab wa wb m) Q) (tD X.K X.mg Wx fa) (tD X.K X.mg Wx fb) σ H Q := by
    obtain ⟨Hi, ι, ρ, m, RR, g⟩ := h
    exact ⟨Hi, ι, ρ, m, RR, good_bind g fun x m1 Hi1 ι1 v H1 st M rv g1 => ⟨Hi1, ι1, ρ, m1, RR.step st M, good_bind g1 fun y m2 Hi2 ι2 u H2 st2 M2 ru g2 => ⟨Hi2, ι2, m2, x, y, M2, rv.step st2, ru, g2⟩⟩⟩
  refine wpAny_BinOp (binT ha hb I h' fun v u s2 x y H2 I2 rx ry q => ?_)
  obtain ⟨Hi, ι, m, wa, wb, M, ra, rb, g⟩ := q
  obtain ⟨C, f, b1, b2, gm, ox, od, ox', od', rfl, rfl, rfl, rfl, J1, J2, hsf, hfi, hisf, F, g⟩ := own_core T I2 rx ry M ra rb g
  obtain ⟨mm, hF⟩ := I2.fr
  refine PySem.W.binop_K hF I2.ok.mod.kin J1 J2.type hsf hfi hisf ?_
  exact wpAny_call (codeAny_mono (run_fnRS F (c.room.mono hj) (passAt c.tk σ) I2 (us := [.ref b1, .ref b2]) (vs := [.ref b1, .ref b2]) (.cons rfl (.cons rfl .nil)) ⟨Hi, ι, [wa, wb], m, M, .cons ra (.cons rb .nil), g⟩) fun r s' z => by
    cases r with
    | error er => exact z
    | ok fl =>
      cases fl with
      | ret y => exact cmpBack z
      | next => exact z
      | brk => exact z
      | cont => exact z)
/-- a == b by the own __eq__ -/
theorem op_own {tab : List (Str × Fn)} (c : Cc X Wx kk) (T : AllT (fun c g => OwnOk X.prog X.w X.K X.mg X.base c "__eq__" j g) tab) (hj : j ≤ kk) : OpR X (compareOp .Eq) (rW2 X.K X.mg (oOwnEq tab)) := by
  intro pins s σ H x y v u Q I rx ry hq
  obtain ⟨Hi, ι, m, wa, wb, M, ra, rb, g⟩ := hq
  show wpAny (model X.prog X.w) X.A (richCompare .Eq v u) (EP X pins σ Q) X.xe s
  have g' : Good X.K X.mg (RepW X.K X.mg) (fun _ _ _ _ => False) σ Hi ι H (oOwn tab wa wb m) Q := by
    unfold oOwnEq at g
    cases e : oOwn tab wa wb m with
    | ok a m => rw [e] at g; exact g
    | exc c ns vs m => rw [e] at g; exact g.elim
    | bad => rw [e] at g; exact g
  obtain ⟨C, f, b1, b2, gm, ox, od, ox', od', rfl, rfl, rfl, rfl, J1, J2, hsf, hfi, hisf, F, g⟩ := own_core T I rx ry M ra rb g'
  obtain ⟨mm, hF⟩ := I.fr
  refine PySem.W.cmp_K (op := .Eq) (tb := .ref C) c.room.units0 hF I.ok.mod.kin J1 J2.type (by simp [PySem.W.notFirst]) hfi hisf ?_
  exact wpAny_mono (run_noX F (c.room.mono hj) I.env0 I (us := [.ref b1, .ref b2]) (vs := [.ref b1, .ref b2]) (.cons rfl (.cons rfl .nil)) ⟨Hi, ι, [wa, wb], m, M, .cons ra (.cons rb .nil), g⟩) (fun _ _ z => cmpBack z) fun _ _ z => z
theorem good_unX {K : PySem.W.Frag} {mg : Str → Option Value} {σ τ : L2.St} {Hi H : Hp} {ι : List Addr} {r : R W} {Q : VK} (h : Good K mg (RepW K mg) Wx σ Hi ι H (noX r) Q) : Good K mg (RepW K mg) (fun _ _ _ _ => False) τ Hi ι H r Q := by
  cases r with
  | ok a m => exact h
  | exc c ns vs m => exact h.elim
  | bad => exact h
/-- C.nm(e, ..) of a class: a classmethod -/
theorem cls_core {p0 : Str → Fn → Prop} {tab : List (Str × Fn)} {cm : Bool} {pins : List (Addr × Obj)} {s : Shared} {σ : L2.St} {H : Hp} {Q : VK} (I : Inv X pins σ H s) (h : tD X.K X.mg Wx (fCMeth cm tab fo a) σ H Q) (ho : PE X o (tD X.K X.mg Wx fo)) (T : AllT p0 tab) {k : Value → Shared → Prop}
    (kk : ∀ (cn : Str) (gm : Fn) (H1 : Hp) (s1 : Shared) (b : Addr), Inv X pins σ H1 s1 → p0 cn gm → X.mg cn = some (.ref b) → tDA X.K X.mg Wx a σ H1 (fun vs H2 => spN X.K X.mg gm (if cm then .ref b :: vs else vs) H2 Q (WE Wx σ)) → k (.ref b) s1)
    (hcls : ∀ cn gm, p0 cn gm → ∃ b, X.mg cn = some (.ref b)) : wpAny (model X.prog X.w) X.A (eval o X.env) k X.xe s := by
  obtain ⟨Hi, ι, ρ, m, RR, g⟩ := h
  refine thn (ho.run pins s σ H (fun v H1 => ∃ b cn gm, v = .ref b ∧ X.mg cn = some (.ref b) ∧ p0 cn gm ∧ tDA X.K X.mg Wx a σ H1 (fun vs H2 => spN X.K X.mg gm (if cm then .ref b :: vs else vs) H2 Q (WE Wx σ))) I ⟨Hi, ι, ρ, m, RR, good_bind g fun w m1 Hi1 ι1 v H1 st M rv g1 => ?_⟩) fun u s1 ⟨v, H1, I1, rv, b, cn, gm, ev, hb, hp, q⟩ => ?_
  · split at g1
    case h_2 => exact g1.elim
    rename_i cn
    split at g1
    case h_2 => exact g1.elim
    rename_i gm hl
    obtain ⟨b, hb⟩ := hcls cn gm (T.get hl)
    have rv' : Rep X.K X.mg Hi1 v (.gl cn) := rv
    cases rv' with
    | gl q1 q2 =>
      rw [hb] at q1
      cases q1
      have e : v = .ref b := by
        cases v with
        | int i => obtain ⟨t, h⟩ := q2; cases h
        | str i => obtain ⟨t, h⟩ := q2; cases h
        | byt i => obtain ⟨t, h⟩ := q2; cases h
        | flt i => obtain ⟨t, h⟩ := q2; cases h
        | ref b => cases (show Value.ref _ = Value.ref b from q2); rfl
        | _ => cases (show Value.ref b = _ from q2)
      refine ⟨b, cn, gm, e, hb, T.get hl, Hi1, ι1, ρ, m1, RR.step st M, good_bind g1 fun ws m2 Hi2 ι2 vs2 H2 st2 M2 rvs g2 => ⟨Hi2, ι2, _, m2, M2, ?_, g2⟩⟩
      cases cm with
      | true => rw [e] at rv; exact .cons (rv.step st2) rvs
      | false => exact rvs
  · subst ev
    obtain rfl : u = Value.ref b := rv
    exact kk cn gm H1 s1 b I1 hp hb q
theorem pd_cmeth {tab : List (Str × Fn)} {pl : Sem Bool} (c : Cc X Wx kk) (T : AllT (fun c g => CMethOk X.prog X.w X.K X.mg X.base c nm j g) tab) (hj : j ≤ kk) (ho : PE X o (tD X.K X.mg Wx fo)) (ha : PA X (e :: es) (tDA X.K X.mg Wx a))
    (hst : starEach (e :: es) X.env = (false, eval e X.env) :: starEach es X.env := by rfl) (hpl : (backTo pos (starEach es X.env)).any (·.1) = false := by rfl)
    (ht : eval (.Call (.Attribute o nm apos) (e :: es) [] pos) X.env = (do
      let ov ← eval o X.env
      standAt apos.atName
      let (f, first) ← holding [ov] (getMethod ov nm pl)
      callWith pos f first (backTo pos (starEach (e :: es) X.env)) (backToKw pos (keywordEach [] X.env))) := by rfl) : PE X (.Call (.Attribute o nm apos) (e :: es) [] pos) (tD X.K X.mg Wx (fCMeth true tab fo a)) := by
  refine ⟨fun pins s σ H Q I h => ?_⟩
  refine PySem.W.methodCall_KW (pl := pl) (cls_core I h ho T (fun cn gm H1 s1 b I1 hp hb q => ?_) fun cn gm hp => let ⟨C, _, _, _, h, _⟩ := hp.ex; ⟨C, h⟩) ht
  obtain ⟨C, mc, pp, f, hg, hrd, hme, F⟩ := hp.ex
  rw [hb] at hg
  cases hg
  refine ClX.getmethcm_ok I1 hrd hme fun s2 I2 => ?_
  refine ClX.callwith_cm I2 (ClX.base_none I1 (Nat.le_refl _)) hme.fi (thn (ha.run pos _ s2 σ H1 _ I2 q) fun us s3 ⟨vs, H2, I3, rv, q2⟩ => ⟨⟨ClX.pin_at I3, I3.kIn⟩, ?_⟩) hst hpl
  have z := wpAny_call (PySem.W.method_call (ClX.pin_at I3) (run_fnRS F (c.room.mono hj) (passAt c.tk σ) I3 (us := .ref b :: us) (vs := .ref b :: vs) (.cons rfl rv) q2))
  exact thn z fun _ _ y => ClX.unpinE y
/-- C.nm() of a class: a static method -/
theorem sm_core {pins : List (Addr × Obj)} {s : Shared} {σ : L2.St} {H : Hp} {b p f : Addr} {mc : Value} {rest : List Value} {pl : Sem Bool} {Q : Value × List Value → Shared → Prop} (I : Inv X pins σ H s) (r : ClX.CRead X.K b mc)
    (h1 : PySem.W.findCls X.K (.ref b) mc nm = some (.get (.builtin "staticmethod.__get__") (.ref p) .none (.ref b))) (h2 : PySem.W.recIn X.K p "staticmethod" = some (.ref f :: rest)) (h : ∀ s', Inv X pins σ H s' → Q (.ref f, []) s') : wpAny (model X.prog X.w) X.A (getMethod (.ref b) nm pl) Q X.xe s := by
  refine PySem.W.method_cls I.kIn r.ga (PySem.W.cls_bind I.kIn r.rd h1 ?_)
  refine wpAny_call (PySem.W.sm_get (s := { s with toks := s.toks + 1 }) I.kIn h2 (PySem.W.handed_on rfl ?_))
  exact h _ (I.tok _)
theorem pd_smeth0 {tab : List (Str × Fn)} {pl : Sem Bool} (c : Cc X Wx kk) (T : AllT (fun c g => SMethOk X.prog X.w X.K X.mg X.base c nm j g) tab) (hj : j ≤ kk) (ho : PE X o (tD X.K X.mg Wx fo))
    (ht : eval (.Call (.Attribute o nm apos) [] [] pos) X.env = (do
      let ov ← eval o X.env
      standAt apos.atName
      let (f, first) ← holding [ov] (getMethod ov nm pl)
      callWith pos f first (backTo pos (starEach [] X.env)) (backToKw pos (keywordEach [] X.env))) := by rfl) : PE X (.Call (.Attribute o nm apos) [] [] pos) (tD X.K X.mg Wx (fCMeth false tab fo fNil)) := by
  refine ⟨fun pins s σ H Q I h => ?_⟩
  refine PySem.W.methodCall_KW (pl := pl) (cls_core I h ho T (fun cn gm H1 s1 b I1 hp hb q => ?_) fun cn gm hp => let ⟨C, _, _, _, _, h, _⟩ := hp.ex; ⟨C, h⟩) ht
  obtain ⟨C, mc, pp, f, rest, hg, hrd, h1, h2, hk, F⟩ := hp.ex
  rw [hb] at hg
  cases hg
  refine sm_core I1 hrd h1 h2 fun s2 I2 => ?_
  obtain ⟨Hi2, ι2, ρ2, m2, R2, g2⟩ := q
  exact PySem.W.callWith_K0 (first := []) I2.kIn hk (wpAny_call (run_fnRS F (c.room.mono hj) (passAt c.tk σ) I2 (us := []) (vs := []) .nil (g2.here (rep := RepWs X.K X.mg) (x := []) R2.mok .nil)))
end
end GD
/-! GE3: what the text says of classes; from there to the rules' premises. -/
namespace GD
open PySem PySem.Spec PyProof.Rows L2
section
variable {P : Program} {w : World} {K : PySem.W.Frag} {mg : Str → Option Value} {base : Heap} {c nm x qual : Str} {j k : Nat} {g : Fn} {st : Stmt}
theorem DefOk.mono (h : DefOk P w K mg base x j g) (hk : j ≤ k) : DefOk P w K mg base x k g := let ⟨f, F, h1, h2⟩ := h.ex; ⟨f, F.mono hk, h1, h2⟩
theorem MethOk.mono (h : MethOk P w K mg base c nm j g) (hk : j ≤ k) : MethOk P w K mg base c nm k g := let ⟨C, f, h1, h2, h3, F⟩ := h.ex; ⟨C, f, h1, h2, h3, F.mono hk⟩
theorem PropOk.mono (h : PropOk P w K mg base c nm j g) (hk : j ≤ k) : PropOk P w K mg base c nm k g := let ⟨C, p, f, h1, h2, h3, F⟩ := h.ex; ⟨C, p, f, h1, h2, h3, F.mono hk⟩
theorem OwnOk.mono (h : OwnOk P w K mg base c nm j g) (hk : j ≤ k) : OwnOk P w K mg base c nm k g := let ⟨C, f, h1, h2, h3, h4, h5, F⟩ := h.ex; ⟨C, f, h1, h2, h3, h4, h5, F.mono hk⟩
theorem CMethOk.mono (h : CMethOk P w K mg base c nm j g) (hk : j ≤ k) : CMethOk P w K mg base c nm k g := let ⟨C, mc, p, f, h1, h2, h3, F⟩ := h.ex; ⟨C, mc, p, f, h1, h2, h3, F.mono hk⟩
theorem SMethOk.mono (h : SMethOk P w K mg base c nm j g) (hk : j ≤ k) : SMethOk P w K mg base c nm k g := let ⟨C, mc, p, f, r, h1, h2, h3, h4, h5, F⟩ := h.ex; ⟨C, mc, p, f, r, h1, h2, h3, h4, h5, F.mono hk⟩
/-- what is so for each function of this def -/
def DefIs (P : Program) (w : World) (K : PySem.W.Frag) (mg : Str → Option Value) (base : Heap) (x qual : Str) (st : Stmt) (k : Nat) (g : Fn) : Prop := ∀ (f : Addr) (fd : FuncData), Fun K x qual st f fd → FnR P w K mg base (L2.CX P w) k f (spN K mg g)
structure MethAt (K : PySem.W.Frag) (mg : Str → Option Value) (c nm x qual : Str) (st : Stmt) : Prop where
  ex : ∃ C f fd, mg c = some (.ref C) ∧ Cls K C ∧ Meth K C nm f ∧ Fun K x qual st f fd
structure PropAt (K : PySem.W.Frag) (mg : Str → Option Value) (c nm x qual : Str) (st : Stmt) : Prop where
  ex : ∃ C p f fd, mg c = some (.ref C) ∧ Cls K C ∧ PropOf K C nm p f ∧ Fun K x qual st f fd
structure OwnAt (K : PySem.W.Frag) (mg : Str → Option Value) (c nm x qual : Str) (st : Stmt) : Prop where
  ex : ∃ C f fd, mg c = some (.ref C) ∧ PySem.W.selfFirst K C = true ∧ PySem.W.findIn K (.ref C) nm = some (some (.ref f)) ∧ PySem.W.isFn K (.ref f) = true ∧ PySem.W.fnIn K f = true ∧ Fun K x qual st f fd
structure CMethAt (K : PySem.W.Frag) (mg : Str → Option Value) (c nm x qual : Str) (st : Stmt) : Prop where
  ex : ∃ C mc p f fd, mg c = some (.ref C) ∧ ClX.CRead K C mc ∧ ClX.CMet K C mc nm p f ∧ Fun K x qual st f fd
structure SMethAt (K : PySem.W.Frag) (mg : Str → Option Value) (c nm x qual : Str) (st : Stmt) : Prop where
  ex : ∃ C mc p f rest fd, mg c = some (.ref C) ∧ ClX.CRead K C mc ∧ PySem.W.findCls K (.ref C) mc nm = some (.get (.builtin "staticmethod.__get__") (.ref p) .none (.ref C)) ∧ PySem.W.recIn K p "staticmethod" = some (.ref f :: rest) ∧ Fun K x qual st f fd
structure NewAt (K : PySem.W.Frag) (mg : Str → Option Value) (c x qual : Str) (st : Stmt) : Prop where
  ex : ∃ C f fd, mg c = some (.ref C) ∧ Mk K C f ∧ Fun K x qual st f fd
theorem MethAt.ok (T : MethAt K mg c nm x qual st) (D : DefIs P w K mg base x qual st k g) : MethOk P w K mg base c nm k g := let ⟨C, f, fd, h1, h2, h3, F⟩ := T.ex; ⟨C, f, h1, h2, h3, D f fd F⟩
theorem PropAt.ok (T : PropAt K mg c nm x qual st) (D : DefIs P w K mg base x qual st k g) : PropOk P w K mg base c nm k g := let ⟨C, p, f, fd, h1, h2, h3, F⟩ := T.ex; ⟨C, p, f, h1, h2, h3, D f fd F⟩
theorem OwnAt.ok (T : OwnAt K mg c nm x qual st) (D : DefIs P w K mg base x qual st k g) : OwnOk P w K mg base c nm k g := let ⟨C, f, fd, h1, h2, h3, h4, h5, F⟩ := T.ex; ⟨C, f, h1, h2, h3, h4, h5, D f fd F⟩
theorem CMethAt.ok (T : CMethAt K mg c nm x qual st) (D : DefIs P w K mg base x qual st k g) : CMethOk P w K mg base c nm k g := let ⟨C, mc, p, f, fd, h1, h2, h3, F⟩ := T.ex; ⟨C, mc, p, f, h1, h2, h3, D f fd F⟩
theorem SMethAt.ok (T : SMethAt K mg c nm x qual st) (D : DefIs P w K mg base x qual st k g) : SMethOk P w K mg base c nm k g := let ⟨C, mc, p, f, r, fd, h1, h2, h3, h4, F⟩ := T.ex; ⟨C, mc, p, f, r, h1, h2, h3, h4, F.kp, D f fd F⟩
theorem NewAt.ok (fz : Bool) (T : NewAt K mg c x qual st) (D : DefIs P w K mg base x qual st k g) : DefOk P w K mg base c (k + 1) (newO fz c g) := let ⟨C, f, fd, h1, h2, F⟩ := T.ex; new_def fz ⟨C, f, h1, h2, D f fd F⟩
theorem TopDef.ok (T : TopDef K mg x st) (D : DefIs P w K mg base x x st k g) : DefOk P w K mg base x k g := let ⟨f, fd, F, hm⟩ := T.ex; ⟨f, D f fd F, hm, F.kp⟩
theorem MethAt.own (T : MethAt K mg c nm x qual st) (hs : ∀ C, mg c = some (.ref C) → PySem.W.selfFirst K C = true) (hn : ∀ f fd, Fun K x qual st f fd → PySem.W.fnIn K f = true) : OwnAt K mg c nm x qual st := let ⟨C, f, fd, h1, h2, h3, F⟩ := T.ex; ⟨C, f, fd, h1, hs C h1, h3.at_, h3.fn, hn f fd F, F⟩
end
end GD
/-! GE4: name op= e; a class as a value. -/
namespace GD
open PySem PySem.Spec PyProof.Rows L2
/-- name op= e -/
def sAug (i : Nat) (o : O2) (a : Ev) : Ex := fun ρ m => match ρ[i]? with
  | some (some w) => (a ρ m).lift ρ fun y m => (noX (o w y m)).lift ρ fun z m => .nx (ρ.set i (some z)) m
  | _ => .bad
section
variable {X : Cx} {Wx : WX} {kk j : Nat}
/-- a class of the text -/
structure ClsAt (K : PySem.W.Frag) (mg : Str → Option Value) (c : Str) : Prop where
  ex : ∃ C, mg c = some (.ref C)
theorem pd_glc {x : Str} {pos : Pos} (T : ClsAt X.K X.mg x) (hg : Gl X x) (hdb : (x == ("__debug__" : Str)) = false := by decide) : PE X (.Name x pos) (tD X.K X.mg Wx (fC (.gl x))) := by
  obtain ⟨C, h1⟩ := T.ex
  exact pd_c (v := .ref C) (pe_glob hg h1 rfl hdb) fun _ => .gl h1 rfl
end
end GD
/-! GE5: tuple(x), sorted(x), x.reverse(), list(range(..)), divmod. -/
namespace GD
open PySem PySem.Spec PyProof.Rows L2
/-- tuple(x) -/
def oTuple : ON := fun ws m => match ws with
  | [.d (.tup xs)] => .ok (.d (.tup xs)) m
  | [w] => match lstOf w m with
    | some xs => .ok (.d (.tup xs)) m
    | none => .bad
  | _ => .bad
theorem s_tuple {K : PySem.W.Frag} {mg : Str → Option Value} : SN K mg (fun xs H Q => ∃ p ys, xs = [.ref p] ∧ ((SqL K H p ys ∧ ∀ l, H l = none → Q (.ref l) (upd H l (.tup ys))) ∨ (SqT K H p ys ∧ Q (.ref p) H))) oTuple := by
  intro Wx σ Hi ι m H xs ws Q M rs g
  unfold oTuple at g
  split at g
  · cases rs with
    | cons r1 r2 =>
      cases r2
      have r1' := r1
      cases r1 with
      | tup s r => exact ⟨_, _, rfl, .inr ⟨sqT_mono M.sub s, g.here (rep := RepW K mg) M r1'⟩⟩
  · split at g
    · rename_i e
      cases rs with
      | cons r1 r2 =>
        cases r2
        obtain ⟨a, vs, rfl, q, r⟩ := lstOf_rep M e r1
        refine ⟨_, _, rfl, .inl ⟨.inl (.inl q), fun l hl => ?_⟩⟩
        obtain ⟨M2, st2⟩ := M.newD (o := .tup vs) hl
        exact g _ _ _ _ st2 M2 (.tup (.inl (.inl upd_same)) (r.mono st2.imm))
    · exact g.elim
  · exact g.elim
/-! ### sorted -/
def dPy (d : D) : PyData := d.py.getD .none
/-- what can be sorted -/
structure SortOk (xs : List D) : Prop where
  py : ∀ d ∈ xs, ∃ p, d.py = some p
  al : PySem.W.AllAlike (xs.map dPy)
  so : PySem.W.Sortable (xs.map dPy)
  dp : ∀ d ∈ xs, (dPy d).depth ≤ 32
  le : xs.length ≤ 100000
noncomputable instance (xs : List D) : Decidable (SortOk xs) := Classical.propDecidable _
noncomputable def sortD (xs : List D) : List D := xs.mergeSort (PySem.W.dataLe false dPy)
noncomputable def oSorted : ON := fun ws m => match ws with
  | [w] => match lstOf w m with
    | some xs => if SortOk xs then .ok (.d (.lst (sortD xs))) m else .bad
    | none => .bad
  | _ => .bad
def rSortD (K : PySem.W.Frag) (mg : Str → Option Value) : List V → Hp → VK → Prop := fun vs H Q => ∃ a xs Hi ds, vs = [V.ref a] ∧ SqL K H a xs ∧ Same Hi H ∧ RepL K mg Hi xs ds ∧ SortOk ds ∧ ∀ ys p, RepL K mg Hi ys (sortD ds) → H p = none → Q (.ref p) (upd H p (.lst ys))
section
variable {X : Cx} {Wx : WX} {kk : Nat}
theorem each_rep {K : PySem.W.Frag} {mg : Str → Option Value} {Hi : Hp} : ∀ {xs : List V} {us : List Value} {ds : List D}, Vals xs us → RepL K mg Hi xs ds → PySem.W.EachIs (fun u d => ∃ x, RelV x u ∧ Rep K mg Hi x d) us ds
  | _, _, _, .nil, .nil => .nil
  | _, _, _, .cons a b, .cons c d => .cons ⟨_, a, c⟩ (each_rep b d)
theorem each_back {K : PySem.W.Frag} {mg : Str → Option Value} {Hi : Hp} : ∀ {us : List Value} {ds : List D}, PySem.W.EachIs (fun u d => ∃ x, RelV x u ∧ Rep K mg Hi x d) us ds → ∃ xs, Vals xs us ∧ RepL K mg Hi xs ds
  | _, _, .nil => ⟨[], .nil, .nil⟩
  | _, _, .cons ⟨x, a, c⟩ t => by
    obtain ⟨xs, h1, h2⟩ := each_back t
    exact ⟨x :: xs, .cons a h1, .cons c h2⟩
theorem each_read {K : PySem.W.Frag} {mg : Str → Option Value} {Hi : Hp} {β : D → Value → Prop} : ∀ {us : List Value} {ds : List D}, PySem.W.EachIs (fun u d => ∃ x, RelV x u ∧ Rep K mg Hi x d) us ds → (∀ d ∈ ds, ∀ u x, RelV x u → Rep K mg Hi x d → β d u) → PySem.W.EachIs (fun u d => β d u) us ds
  | _, _, .nil, _ => .nil
  | _, _, .cons ⟨x, a, c⟩ t, h => .cons (h _ (List.mem_cons_self ..) _ x a c) (each_read t fun d hd => h d (List.mem_cons_of_mem _ hd))
theorem cr_sortD (c : Cc X Wx kk) : CallR X (.builtin "sorted") (rSortD X.K X.mg) := by
  intro pins s σ H vs us Q I r h
  obtain ⟨a, xs, Hi, ds, rfl, hs, sm, rl, so, q⟩ := h
  obtain ⟨its, rv, hl, hz⟩ := I.list hs
  cases r with
  | cons ra rb =>
    cases rb
    obtain rfl := ra
    have e := each_rep rv rl
    refine PySem.W.sorted_data (bs := ds) (enc := dPy) (R := fun u d => ∃ x, RelV x u ∧ Rep X.K X.mg Hi x d) hl.isList e (each_read e fun d hd u x rx rd => ?_) so.al so.so (by rw [← rl.length]; exact hz) (fun b hb => ?_) fun out ho eo => ?_
    · obtain ⟨p, hp⟩ := so.py d hd
      have ep : dPy d = p := by unfold dPy; rw [hp] <;> rfl
      rw [ep]
      exact Dp.reads I p x u ((rd.mono sm).dp hp) rx
    · have h1 := so.dp b hb
      have h2 := c.room.units
      omega
    · obtain ⟨ys, r1, r2⟩ := each_back eo
      obtain ⟨c', hc'⟩ := sortedAll_at s.heap its out.toArray
      refine ⟨.ref (s.heap.objs.size + 1), upd H (s.heap.objs.size + 1) (.lst ys), I.laid (t' := s.toks) (fun _ _ => sortedAll_old) (Nat.le_succ _) (show ObjOk X.prog X.w _ _ _ (.lst ys) from ⟨?_, out, c', r1, hc'⟩), rfl, q ys _ r2 (I.hok.fresh (Nat.le_succ _))⟩
      rw [r1.length, ho, ← rl.length]
      exact hz
theorem s_sorted {K : PySem.W.Frag} {mg : Str → Option Value} : SN K mg (rSortD K mg) oSorted := by
  intro Wx σ Hi ι m H xs ws Q M rs g
  unfold oSorted at g
  split at g
  case h_2 => exact g.elim
  split at g
  case h_2 => exact g.elim
  rename_i e
  split at g
  case isFalse => exact g.elim
  rename_i so
  cases rs with
  | cons r1 r2 =>
    cases r2
    obtain ⟨a, vs, rfl, q, r⟩ := lstOf_rep M e r1
    refine ⟨_, vs, Hi, _, rfl, .inl (.inl q), M.sub, r, so, fun ys p hy hp => ?_⟩
    obtain ⟨M2, st2⟩ := M.newD (o := .lst ys) hp
    exact g _ _ _ _ st2 M2 (.lst upd_same (hy.mono st2.imm))
/-! ### x.reverse() -/
/-! ### list(range(..)) -/
end
end GD
/-! GE6: enumerate of lists, tuples, texts; isinstance of own classes. -/
namespace GD
open PySem PySem.Spec PyProof.Rows L2
/-- the number and the item -/
def ItE (K : PySem.W.Frag) (S : ZS) (xs : List V) : It :=
  ⟨fun i H => ZHas K H S xs ∧ i < xs.length, fun i H v H' => ∃ T x, v = .ref T ∧ H T = none ∧ H' = upd H T (.tup [.int (i : Nat), x]) ∧ xs[i]? = some x, fun i H => ZHas K H S xs ∧ xs.length ≤ i⟩
theorem turn_E {P : Program} {w : World} {K : PySem.W.Frag} {elts : List Expr} {kk : Nat} {tpos : Pos} {e it : Addr} {S : ZS} {xs : List V} {tk0 : Tok} (hne : e ≠ it) (ap : ∀ b ∈ [e, it], ZAp b S) :
    Turn P w K (.Tuple elts kk tpos) (ItE K S xs) [e, it] e (fun i h => i ≤ xs.length ∧ (∃ old, IsEnum h e it ((i : Nat) : Int) old) ∧ ZIt tk0 S it i h) where
  mem := by simp
  obj := fun i h st b hb => by
    obtain ⟨_, ⟨old, he⟩, hi⟩ := st
    have q : b = e ∨ b = it := by simpa using hb
    rcases q with z | z
    · rw [z]; exact ⟨_, he, fun v q => nomatch q⟩
    · rw [z]; exact hi.obj
  keep := fun i h h' st k => by
    obtain ⟨hl, ⟨old, he⟩, hi⟩ := st
    exact ⟨hl, ⟨old, k e (by simp) _ he⟩, hi.at fun o q => k it (by simp) o q⟩
  item := by
    intro X hP hw hK hc i pins s σ H E I hf st hg
    subst hP hw hK
    obtain ⟨hl, ⟨old, he⟩, hi⟩ := st
    obtain ⟨hx, l1⟩ := hg
    obtain ⟨fp, P1, St1, D, d1, m1, n1, v1, z1⟩ := z_draws I hc hx hi (ap it (by simp))
    have hef : e ∉ fp := n1 e hne (ap e (by simp))
    have hel : e < s.heap.objs.size := Heap.lt_size he
    refine wpAny_pyNext_enum_itemC D he d1 l1 hne hef fun u h' tk p1 ho st' hT hsz hk => ?_
    obtain ⟨x, ex, rx⟩ := v1 i u p1
    refine ⟨_, rfl, wpAny_letOwnedTupleGo_enum (s := { s with heap := h', toks := tk + 1 }) ho fun h'' he' sb => ?_⟩
    have hT2 : h''.get? s.heap.objs.size = some { cls := .type "tuple", data := .seq #[.int ((i : Nat) : Int) tk, u] } := (sb.2 _ (Nat.ne_of_gt hel)).trans hT
    have new : ObjOk X.prog X.w (upd H s.heap.objs.size (.tup [.int (i : Nat), x])) h'' s.heap.objs.size (.tup [.int (i : Nat), x]) :=
      ⟨by show 2 ≤ sizeLine; decide, [.int ((i : Nat) : Int) tk, u], .cons ⟨tk, rfl⟩ (.cons rx .nil), ⟨_, hT2, rfl, _, rfl⟩⟩
    have I1 : Inv X pins σ (upd H s.heap.objs.size (.tup [.int (i : Nat), x])) { s with heap := h'', toks := tk + 1 } :=
      I.turnedNew (t' := tk + 1) (ch := [e, it]) (fun c o hb q => (sb.2 c (fun q' => hb (by simp [q']))).trans (hk c o (fun q' => hb (by simp [q'])) (fun q' => hb (by simp [q'])) q)) hf (Nat.le_refl _) new
    refine ⟨.ref s.heap.objs.size, _, I1, rfl, ⟨_, x, rfl, I.hok.fresh (Nat.le_refl _), rfl, ex⟩, ⟨l1, ⟨u, ?_⟩, ?_⟩, fun c hcm => ?_⟩
    · have e1 : ((i + 1 : Nat) : Int) = ((i : Nat) : Int) + 1 := by omega
      rw [e1]
      exact he'
    · exact (z1 _ _ st').at fun o q => (sb.2 _ (Ne.symm hne)).trans q
    · have hlt : c < s.heap.objs.size := by
        have q : c = e ∨ c = it := by simpa using hcm
        rcases q with q | q
        · rw [q]; exact hel
        · rw [q]; obtain ⟨_, e1, _⟩ := hi.obj; exact Heap.lt_size e1
      rw [upd_ne (Nat.ne_of_lt hlt)]
      exact (hf c hcm).1
  done := by
    intro X hP hw hK hc i pins s σ H E I hf st hg
    subst hP hw hK
    obtain ⟨hl, ⟨old, he⟩, hi⟩ := st
    obtain ⟨hx, hend⟩ := hg
    obtain ⟨fp, P1, St1, D, d1, m1, n1, v1, z1⟩ := z_draws I hc hx hi (ap it (by simp))
    have ei : i = xs.length := by omega
    rw [ei] at d1
    exact wpAny_pyNext_enum_endD D he d1 fun h' hk => ⟨rfl, I.turnedL (t' := s.toks) (ch := [e, it]) (fun c o hb q => hk c o (fun q' => hb (by simp [q'])) q) hf⟩
  self := fun A i s Q E st h => by
    obtain ⟨_, ⟨old, he⟩, _⟩ := st
    exact wpAny_pyIter_enum he h
set_option maxHeartbeats 2000000 in
theorem meets_enum1 {v : Value} {o : Obj} {H : Heap → Prop} (B : Begins v o H) :
    Meets (Builtin.«enumerate.__new__» ⟨[.type "enumerate", v], []⟩) (fun _ R s => H s.heap ∧
      R (.ok (.ret (.ref (s.heap.push o).objs.size))) { s with heap := (s.heap.push o).push { cls := .type "enumerate", data := .fields #[.none, .bool false, .ref s.heap.objs.size, rawInt 0, .none, .none] } }) :=
  .of_wp fun prog w A R s hh => by
    obtain ⟨hp, gg, dd, kt, os⟩ := s
    obtain ⟨h1, hR⟩ := hh
    have hsub := sub_enumerate
    have q1 : ∀ {A' : Around} {E' : Value → Shared → Prop} {Q' : Value → Shared → Prop}, Q' (.ref hp.objs.size) ⟨hp.push o, gg, dd, kt, os⟩ → wpAny (model prog w) A' (pyIter v) Q' E' ⟨hp, gg, dd, kt, os⟩ := fun q => B.iter prog w _ _ ⟨hp, gg, dd, kt, os⟩ _ h1 q
    wp_walk using q1
    refine wpAny_stack_any fun stk => wpAny_pure ?_
    split
    · rename_i cc _ _ _ _ _
      cases (cc == Value.type "enumerate") <;> (wp_walk using q1; exact ⟨_, rfl, hR⟩)
    · wp_walk using q1
      exact ⟨_, rfl, hR⟩
theorem enum1_begins {prog : Program} {w : World} {A : Around} {E : Value → Shared → Prop} {s : Shared} {v : Value} {o : Obj} {H : Heap → Prop} {Q : Value → Shared → Prop} (B : Begins v o H) (h1 : H s.heap)
    (hq : ∀ h', IsEnum h' (s.heap.objs.size + 1) s.heap.objs.size 0 .none → h'.get? s.heap.objs.size = some o → (∀ b o, s.heap.get? b = some o → h'.get? b = some o) → Q (.ref (s.heap.objs.size + 1)) { s with heap := h' }) :
    wpAny (model prog w) A (call (.type "enumerate") [v]) Q E s := by
  refine callType_new F.called_enumerate (by decide) (F.typeCall_enumerate_1 _) (F.newCall_enumerate_1 _) (fun obj => F.args_object_init_2 obj _) F.entry_enumerate_new (meets_enum1 B) ⟨h1, ?_⟩
  have hz : (s.heap.push o).objs.size = s.heap.objs.size + 1 := Heap.size_push ..
  show _ ∧ _
  rw [hz]
  have z := Heap.get?_push_size (s.heap.push o) (o := { cls := .type "enumerate", data := .fields #[.none, .bool false, .ref s.heap.objs.size, rawInt 0, .none, .none] }) rfl
  rw [hz] at z
  exact ⟨⟨_, z, rfl⟩, hq _ z (Heap.get?_push_of_some _ (Heap.get?_push_size _ B.free)) fun b u x => Heap.get?_push_of_some _ (Heap.get?_push_of_some _ x)⟩
def iEnZ (K : PySem.W.Frag) (ta : TA) : TI := fun σ H R => ta σ H fun vs H1 => ∃ S xs, vs = [ZV S] ∧ ZHas K H1 S xs ∧ R (ItE K S xs) H1
theorem pi_enumZ {X : Cx} {e : Expr} {ta : TA} {p pos tpos : Pos} {elts : List Expr} {kk : Nat} (hg : Gl X "enumerate") (hm : X.mg "enumerate" = none) (ha : PA X [e] ta) (hs : starEach [e] X.env = [(false, eval e X.env)] := by rfl) :
    PI X (.Tuple elts kk tpos) (.Call (.Name "enumerate" p) [e] [] pos) (iEnZ X.K ta) := by
  refine ⟨fun pins s σ H R I h => ?_⟩
  refine Call_ (ld_blt I hg hm boot_enumerate (PyProof.Rows.callWith_type1 (thn (ha.run pos pins s σ H _ I h) fun us s1 ⟨vs, H1, I1, r1, q1⟩ => ?_) hs rfl))
  obtain ⟨S, xs, ex, hx, q⟩ := q1
  subst ex
  cases r1 with
  | cons r rr =>
    cases rr
    obtain ⟨o1, B1, t1, b1, c1, d1, e1⟩ := z_begins I1 hx r
    refine enum1_begins b1 c1 fun h' he hit hk => wpAny_pyIter_enum he ?_
    have I2 : Inv X pins σ H1 { s1 with heap := h' } := I1.kept (t' := s1.toks) hk
    have ap : ∀ b ∈ [s1.heap.objs.size + 1, s1.heap.objs.size], s1.heap.objs.size ≤ b := fun b hb => by
      have q : b = s1.heap.objs.size + 1 ∨ b = s1.heap.objs.size := by simpa using hb
      rcases q with z | z
      · rw [z]; exact Nat.le_add_right _ _
      · rw [z]; exact Nat.le_refl _
    exact ⟨s1.heap.objs.size + 1, [s1.heap.objs.size + 1, s1.heap.objs.size], _, _, H1, rfl, I2, turn_E (S := S) (xs := xs) (tk0 := t1) (Nat.succ_ne_self _) (fun b hb => e1 b (ap b hb)), ⟨Nat.zero_le _, ⟨.none, he⟩, d1 _ _ hit⟩, fun b hb => I1.fpOk (ap b hb) (I1.hok.fresh (ap b hb)), q⟩
/-- the mirror -/
def iEnumA (a : EvL) : EvL := fun ρ m => (a ρ m).bind fun ws m => match ws with
  | [.d x] => match itemsD x with
    | some xs => .ok (enumD 0 xs) m
    | _ => .bad
  | _ => .bad
theorem itOk_E {K : PySem.W.Frag} {mg : Str → Option Value} {Hi : Hp} {ι : List Addr} {S : ZS} {vs : List V} {xs : List D} (s1 : ∀ H', Same Hi H' → ZHas K H' S vs) (r1 : RepL K mg Hi vs xs) : ItOk K mg Hi ι (ItE K S vs) (enumD 0 xs) where
  go := fun i Hi1 ι1 m1 H1 sm _ M hi => by
    rw [enumD_len] at hi
    exact ⟨s1 _ (sm.trans M.sub), by rw [r1.length]; omega⟩
  stop := fun i Hi1 ι1 m1 H1 sm _ M hi => by
    rw [enumD_len] at hi
    exact ⟨s1 _ (sm.trans M.sub), by rw [r1.length]; omega⟩
  yld := fun i w Hi1 ι1 m1 H1 x H2 sm pr M hw hy => by
    obtain ⟨T, p, rfl, hT, rfl, z1⟩ := hy
    obtain ⟨d, e1, rfl⟩ := enumD_get hw
    obtain ⟨v, q1, q2⟩ := r1.get e1
    rw [z1] at q1
    cases q1
    rw [Nat.zero_add]
    exact M.pair hT (.int _) (q2.mono sm)
section
variable {X : Cx} {Wx : WX} {kk : Nat}
theorem pid_enumA {e : Expr} {p pos tpos : Pos} {elts : List Expr} {k1 : Nat} {f : EvL} (hg : Gl X "enumerate") (hm : X.mg "enumerate" = none) (ha : PA X [e] (tDA X.K X.mg Wx f)) (hs : starEach [e] X.env = [(false, eval e X.env)] := by rfl) :
    PI X (.Tuple elts k1 tpos) (.Call (.Name "enumerate" p) [e] [] pos) (tDI X.K X.mg Wx (iEnumA f)) := PI.imp (pi_enumZ hg hm ha hs) fun σ H Q t => by
  obtain ⟨Hi, ι, ρ, m, RR, gd⟩ := t
  refine ⟨Hi, ι, ρ, m, RR, good_bind gd fun ws m1 Hi1 ι1 vs H1 st M rv g1 => ?_⟩
  split at g1
  · split at g1
    · rename_i xs h1
      cases rv with
      | cons r1 r2 =>
        cases r2
        obtain ⟨S, us, rfl, s1, q1⟩ := items_rep h1 r1
        exact ⟨S, us, rfl, s1 _ M.sub, g1 _ _ _ _ Step.refl M (itOk_E s1 q1)⟩
    · exact g1.elim
  · exact g1.elim
/-! ### isinstance(x, C), C an own class -/
theorem gl_refC {K : PySem.W.Frag} {mg : Str → Option Value} {Hi : Hp} {v : V} {c : Str} {C : Addr} (r : Rep K mg Hi v (.gl c)) (h : mg c = some (.ref C)) : v = .ref C := by
  cases r with
  | gl q1 q2 =>
    rw [h] at q1
    cases q1
    cases v with
    | int i => obtain ⟨t, h⟩ := q2; cases h
    | str i => obtain ⟨t, h⟩ := q2; cases h
    | byt i => obtain ⟨t, h⟩ := q2; cases h
    | flt i => obtain ⟨t, h⟩ := q2; cases h
    | ref b => cases (show Value.ref C = Value.ref b from q2); rfl
    | _ => cases (show Value.ref C = _ from q2)
/-- plain things are no instances of the class -/
structure KitNo (K : PySem.W.Frag) (C : Addr) : Prop where
  non : PySem.W.kitOne K (.type "NoneType") (.ref C) = some false
  str : PySem.W.kitOne K (.type "str") (.ref C) = some false
  tup : PySem.W.kitOne K (.type "tuple") (.ref C) = some false
  lst : PySem.W.kitOne K (.type "list") (.ref C) = some false
structure IsiOk (K : PySem.W.Frag) (mg : Str → Option Value) (c : Str) : Prop where
  ex : ∃ C, mg c = some (.ref C) ∧ C8.InsC K C ∧ KitNo K C
/-- x an instance of the class itself, or a plain thing -/
def oIsiC (c : Str) : ON := fun ws m => match ws with
  | [x, .d (.gl c')] => match insOf x m with
    | some (c1, _, _) => if c1 = c ∧ c' = c then .ok (.d (.bl true)) m else .bad
    | none => if c' = c then (match x with
      | .d .non => .ok (.d (.bl false)) m
      | .d (.str _) => .ok (.d (.bl false)) m
      | .d (.tup _) => .ok (.d (.bl false)) m
      | .d (.lst _) => .ok (.d (.bl false)) m
      | _ => .bad) else .bad
  | _ => .bad
def PlainV (K : PySem.W.Frag) (H : Hp) (x : V) : Prop := x = .non ∨ (∃ z, x = .str z) ∨ (∃ a vs, x = .ref a ∧ SqT K H a vs) ∨ ∃ a vs, x = .ref a ∧ H a = some (.lst vs)
def rIsiC (K : PySem.W.Frag) (mg : Str → Option Value) (c : Str) : List V → Hp → VK → Prop := fun xs H Q => ∃ C, mg c = some (.ref C) ∧ ((∃ a dx fs, xs = [.ref a, .ref C] ∧ H a = some (.ins C dx fs) ∧ Q (.bl true) H) ∨ ∃ x, xs = [x, .ref C] ∧ PlainV K H x ∧ Q (.bl false) H)
theorem cr_isiC {c : Str} (T : IsiOk X.K X.mg c) : CallR X (.builtin "isinstance") (rIsiC X.K X.mg c) := by
  intro pins s σ H xs us Q I r h
  obtain ⟨C, hC, q, kn⟩ := T.ex
  obtain ⟨C', hC', h⟩ := h
  rw [hC] at hC'
  cases hC'
  rcases h with h | ⟨x, rfl, hx, hq⟩
  · exact C8.call_isC q pins s σ H xs us Q I r h
  · cases r with
    | cons ru r2 =>
      cases r2 with
      | cons rw' r3 =>
        cases r3
        cases rw'
        have fin : ∀ tk, EP X pins σ Q (.bool false) { s with toks := tk } := fun tk => ⟨.bl false, H, I.tok _, rfl, hq⟩
        rcases hx with rfl | ⟨z, rfl⟩ | ⟨a, vs, rfl, h1⟩ | ⟨a, vs, rfl, h1⟩
        · cases ru
          exact PySem.W.kia_one PySem.W.kitx_none I.kIn True.intro kn.non (fun z => nomatch z) fin
        · obtain ⟨t, rfl⟩ := ru
          exact PySem.W.kia_one PySem.W.kitx_str I.kIn True.intro kn.str (fun z => nomatch z) fin
        · cases ru
          obtain ⟨its, _, ⟨o, p1, p2, _⟩, _⟩ := I.tuple h1
          exact PySem.W.kia_one PySem.W.kitx_tuple I.kIn ⟨o, p1, p2⟩ kn.tup (fun z => nomatch z) fin
        · cases ru
          obtain ⟨_, its, n, _, p1⟩ := (show ObjOk X.prog X.w H s.heap a (.lst vs) from I.hok a _ h1)
          exact PySem.W.kia_one PySem.W.kitx_list I.kIn ⟨_, p1, rfl⟩ kn.lst (fun z => nomatch z) fin
theorem s_isiC {K : PySem.W.Frag} {mg : Str → Option Value} {c : Str} (T : IsiOk K mg c) : SN K mg (rIsiC K mg c) (oIsiC c) := by
  intro Wx σ Hi ι m H xs ws Q M rs g
  unfold oIsiC at g
  split at g
  case h_2 => exact g.elim
  split at g
  · rename_i c1 ns ds hi
    split at g
    case isFalse => exact g.elim
    rename_i hc
    obtain ⟨rfl, rfl⟩ := hc
    cases rs with
    | cons r1 r2 =>
      cases r2 with
      | cons r2 r3 =>
        cases r3
        obtain ⟨a, C, dx, vs, ev, hg, ha, _, _⟩ := insOf_rep M r1 hi
        subst ev
        have e := gl_refC r2 hg
        subst e
        exact ⟨C, hg, .inl ⟨a, dx, _, rfl, ha, g.here (rep := RepW K mg) M (.bl _)⟩⟩
  · split at g
    case isFalse => exact g.elim
    rename_i hc
    subst hc
    obtain ⟨C, hg, _⟩ := T.ex
    cases rs with
    | cons r1 r2 =>
      cases r2 with
      | cons r2 r3 =>
        cases r3
        have e := gl_refC r2 hg
        subst e
        split at g
        · cases r1
          exact ⟨C, hg, .inr ⟨_, rfl, .inl rfl, g.here (rep := RepW K mg) M (.bl _)⟩⟩
        · cases r1
          exact ⟨C, hg, .inr ⟨_, rfl, .inr (.inl ⟨_, rfl⟩), g.here (rep := RepW K mg) M (.bl _)⟩⟩
        · rename_i xs0 _
          have r0 : Rep K mg Hi _ (.tup xs0) := r1
          cases r0 with
          | tup q1 q2 =>
            exact ⟨C, hg, .inr ⟨_, rfl, .inr (.inr (.inl ⟨_, _, rfl, q1.elim (fun h => .inl (h.elim (fun h => .inl (M.sub _ _ h)) fun ⟨o, h⟩ => .inr ⟨o, M.sub _ _ h⟩)) fun h => .inr h⟩)), g.here (rep := RepW K mg) M (.bl _)⟩⟩
        · rename_i xs0 _
          have r0 : Rep K mg Hi _ (.lst xs0) := r1
          cases r0 with
          | lst q1 q2 =>
            exact ⟨C, hg, .inr ⟨_, rfl, .inr (.inr (.inr ⟨_, _, rfl, M.sub _ _ q1⟩)), g.here (rep := RepW K mg) M (.bl _)⟩⟩
        · exact g.elim
end
end GD
/-! GE7: methods called with keywords. -/
namespace GD
open PySem PySem.Spec PyProof.Rows L2
/-- o.nm(a.., k = b, ..), o of the class c -/
def fMethK (c nm : Str) (g : Fn) (pm : List W → List W → List W) (fo : Ev) (a b : EvL) : Ev := fun ρ m => (fo ρ m).bind fun w m => match insOf w m with
  | some (c', ns, _) => if c' = c ∧ nm ∉ ns then (a ρ m).bind fun ws m => (b ρ m).bind fun zs m => g (pm (w :: ws) zs) m else .bad
  | none => .bad
end GD
/-! GX0: the __init__ of an own error over ValueError: super().__init__(text), then its fields. -/
namespace GD
open PySem PySem.Spec PyProof.Rows L2 NdefX LamX
section
variable {X : Cx} {pins : List (Addr × Obj)} {σ : L2.St} {H : Hp} {s : Shared}
/-- the bound __init__ called -/
theorem mw_call {a C u : Addr} {us : List Value} {Q : Value → Shared → Prop} {E : Value → Shared → Prop} {A : Around} (T : OexC X.K C) (I : Inv X pins σ H s) (e : H a = some (exo a C none)) (hu : s.heap.get? u = some (PySem.W.kxs_mw "ValueError.__init__" a)) (hl : us.length ≤ sizeLine) (h : ∀ s', Inv X pins σ H s' → Q .none s') :
    wpAny (model X.prog X.w) A (call (.ref u) us) Q E s := by
  obtain ⟨nm, q, N, bs, bm, sn, sub, ab, col, dd, k0, k1, k2, k3, k5, hC, hbm⟩ := T.cls
  obtain ⟨t1, ho⟩ := exo_at I.hok e
  obtain ⟨hp, g, d, t, os⟩ := s
  refine wpAny_call (codeAny_of_tree ?_)
  show wpAny _ A.in1 (callAny (.ref u) ⟨us, []⟩) _ _ _
  simp only [callAny]
  refine wpAny_bind (wpAny_load hu ?_)
  simp only [PySem.W.kxs_mw, show (Value.type "method-wrapper" == Value.type "method" || Value.type "method-wrapper" == Value.type "builtin_function_or_method" || Value.type "method-wrapper" == Value.type "method-wrapper") = true by decide, if_true]
  refine PySem.W.KFB.if_so (by decide) ?_
  refine wpAny_bind (PySem.W.check_bound_init F.excBase_ValueError.toExcCallFacts (I.kIn _ _ hC) ho rfl ?_)
  refine wpAny_bind (wpAny_pure (wpAny_pure ?_))
  refine ⟨plainId_quiet F.excBase_ValueError.init.plain _, codeAny_builtin F.excBase_ValueError.initEntry ?_⟩
  refine PySem.W.exc_init_tree (cls := .ref C) (t0 := t1) (dv := none) (c2 := .none) (c3 := .none) (b4 := .bool false) ho hl fun h' k hx _ => ?_
  have J := I.write (t' := t) (x := a) (e := a) (o := exo a C none) (by rw [e]; exact True.intro) (.inl rfl) k ⟨_, hx⟩ (exo_ok hx)
  have eu : upd H a (exo a C none) = H := by
    funext b
    by_cases hb : b = a
    · rw [hb, upd_same, e]
    · rw [upd_ne hb]
  rw [eu] at J
  exact h _ J
/-- what the written part and the program say of an error's __init__ -/
structure SupF (P : Program) (K : PySem.W.Frag) (mg : Str → Option Value) (C f cda cc : Addr) (scope : Scope) (sv : Str) : Prop where
  fn : ∃ oc od fd osl ar, K.lookup f = some ⟨oc, od, .func fd, osl⟩ ∧ (fd.params.posonlyargs ++ fd.params.args).head? = some ar ∧ ar.arg = sv
  code : ∃ ccl cdd vs ccs file tf, K.lookup cda = some ⟨ccl, cdd, .fields vs, ccs⟩ ∧ vs[2]? = some (.str file tf) ∧ ((P.main.file : Str) == file) = true
  cell : ∃ cl cld csl, K.lookup cc = some ⟨cl, cld, .cell (some (.ref C)), csl⟩
  sup : mg "super" = none
  top : (P.main.scope.names.lookup ("super" : Str)).isSome = false
  ks : scope.names.lookup ("super" : Str) = some .globalImplicit
  kc : scope.names.lookup ("__class__" : Str) = some .free
  ka : scope.names.lookup sv = some .local
  kd : scope.kind = .function
  ss : PySem.W.ks_superIn K C C "__init__" = some (some (.builtin "ValueError.__init__"))
  sB : PySem.W.subIn K (.ref C) (.type "ValueError") = some true
  no : PySem.W.nsIn K cStatics "thirdparty.any" = some none
theorem super_init {a C f cda cc L : Addr} {q self : Str} {scope : Scope} {body : List Stmt} {e : Expr} {te : TE} {p0 p1 apos pos epos : Pos} {i : Nat} {pl : Sem Bool} {Q : Flow → Shared → Prop} (T : OexC X.K C) (F : SupF X.prog X.K X.mg C f cda cc scope self) (henv : X.env = PySem.W.envX q scope L f (.ref cda) [("__class__", cc)])
    (hN : X.N[i]? = some self) (hs : σ[i]? = some (some (.ref a))) (I : Inv X pins σ H s) (ha : H a = some (exo a C none)) (he : PE X e te) (h : te σ H fun v H1 => H1 a = some (exo a C none) ∧ ∀ s', Inv X pins σ H1 s' → Q .next s')
    (hsw : swapsWith (.Call (.Attribute (.Call (.Name "super" p0) [] [] p1) "__init__" apos) [e] [] pos) none epos.line X.env = pure false := by rfl) (hia : interactive X.env = false := by rfl)
    (hev : eval (.Call (.Attribute (.Call (.Name "super" p0) [] [] p1) "__init__" apos) [e] [] pos) X.env = (do
      let ov ← attributeBase (.Call (.Name "super" p0) [] [] p1) "__init__" X.env (eval (.Call (.Name "super" p0) [] [] p1) X.env)
      standAt apos.atName
      let (f, first) ← holding [ov] (getMethod ov "__init__" pl)
      callWith pos f first (backTo pos (starEach [e] X.env)) []) := by rfl)
    (hst : starEach [e] X.env = (false, eval e X.env) :: starEach [] X.env := by rfl) :
    PySem.wpAt (model X.prog X.w) X.A (.func body X.env) (exec (.Expr (.Call (.Attribute (.Call (.Name "super" p0) [] [] p1) "__init__" apos) [e] [] pos) epos) X.env) Q X.xe s := by
  obtain ⟨oc, od, fd, osl, ar, hf, hp, rfl⟩ := F.fn
  obtain ⟨ccl, cdd, vs, ccs, file, tf, hcode, hvs, hfile⟩ := F.code
  obtain ⟨cl, cld, csl, hcell⟩ := F.cell
  obtain ⟨nm, qn, N, bs, bm, sn, sub, ab, col, dd, k0, k1, k2, k3, k5, hC, hbm⟩ := T.cls
  have hcl : PySem.W.clsIn X.K C = some { name := nm, bases := bs, mro := .ref C :: bm, ns := N, qualname := qn, hasDict := true, slotNames := sn, subclasses := sub, abstract := ab, collection := col, hasDel := false } := by unfold PySem.W.clsIn; rw [hC] <;> rfl
  have hsub : PySem.W.mroIn X.K C (.ref C) = some true := by
    unfold PySem.W.mroIn
    rw [hcl, Option.bind_some, if_neg (show ¬ (List.isEmpty (Value.ref C :: bm) = true) from Bool.false_ne_true)]
    simp
  have KX := I.kIn
  refine PySem.ks_wpAt_Expr_any ?_ hia hsw
  refine PySem.ks_wpAt_MethodCall (pl := pl) ?_ hev
  obtain ⟨t1, ho⟩ := exo_at I.hok ha
  have hk1 : X.env.kindOf "super" = some .globalImplicit := by rw [henv]; exact F.ks
  have hk2 : X.env.kindOf "__class__" = some .free := by rw [henv]; exact F.kc
  have hk3 : X.env.kindOf ar.arg = some .local := by rw [henv]; exact F.ka
  refine PySem.ks_wpAt_super_base (f := f) (cc := cda) hk1 hk2 (by decide) (by rw [henv]) (KX _ _ hf) rfl hp (by rw [henv]) (KX _ _ hcode) rfl hvs hfile F.top ?_
  obtain ⟨mb, hb1, hb2⟩ := I.mod.blt
  refine PySem.W.ks_loadName_global I.ok.kind hk1 (Calls.loadGlobal_builtin (by rw [I.ok.glob]; exact I.mod.glob.keeps I.bk) F.sup (by rw [I.ok.blt]; exact hb1.keeps I.bk) ((hb2 "super" (by decide)).trans (by decide +kernel : bootBuiltins "super" = some (.type "super"))) ⟨rfl, ?_⟩)
  refine wpAny_loadName_free I.ok.kind hk2 (by rw [henv]; rfl) ⟨_, KX _ _ hcell, rfl⟩ ?_
  obtain ⟨m, hns, hl⟩ := I.loc
  obtain ⟨u, ru, hlk⟩ := hl i ar.arg (.ref a) hN hs (.inl hk3)
  obtain rfl : u = Value.ref a := ru
  have hmv : m ar.arg = some (.ref a) := by
    rcases hlk with ⟨_, z⟩ | ⟨z, _⟩
    · exact z
    · rw [hk3] at z
      rcases z with z | z <;> cases z
  refine wpAny_loadName_local I.ok.kind hk3 hns hmv ?_
  refine PySem.ks_wpAny_isType_cls (KX _ _ hC) rfl ⟨rfl, ?_⟩
  obtain ⟨hh, g, d, t, os⟩ := s
  refine PySem.ks_wpAny_call_super (KX _ _ hC) rfl ho rfl (fun c e => by cases e) (PySem.W.looks_mroIn KX hsub) (fun h1 hso k1 => ?_)
  have I1 : Inv X pins σ H ⟨h1, g, d, t, os⟩ := I.kept k1
  obtain ⟨t2, ho1⟩ := exo_at I1.hok ha
  have hne : a ≠ C := fun z => by
    subst z
    have q := I1.kIn _ _ hC
    rw [ho1] at q
    cases q
  have hss := F.ss
  unfold PySem.W.ks_superIn at hss
  rw [hcl] at hss
  have hty : PySem.W.Looks (model X.prog X.w) h1 (isInstance (.ref a) (.type "ValueError")) true := (PySem.W.InstAt.type (od := none) (⟨ho1, rfl, rfl, trivial⟩ : PySem.W.InstAt h1 a _ C none)).andThen (PySem.W.looks_subIn I1.kIn F.sB)
  refine PySem.W.kxs_getMethod PySem.W.kxs_ValueError hso (PySem.W.looks_opaque I1.kIn F.no) (l₀ := .ref C :: bm) (fun A Q E s k q => wpAny_bind ((PySem.W.looks_clsIn I1.kIn hcl) A _ E s k (wpAny_pure q))) rfl I1.kIn hss hty hne (by decide) ?_
  have I2 : Inv X pins σ H ⟨h1.push (PySem.W.kxs_mw "ValueError.__init__" a), g, d, t + 1, os⟩ := I1.kept fun b o e => Heap.get?_push_of_some _ e
  have hu : (h1.push (PySem.W.kxs_mw "ValueError.__init__" a)).get? h1.objs.size = some (PySem.W.kxs_mw "ValueError.__init__" a) := Heap.get?_push_size _ rfl
  have I3 : Inv X ((h1.objs.size, PySem.W.kxs_mw "ValueError.__init__" a) :: pins) σ H ⟨h1.push (PySem.W.kxs_mw "ValueError.__init__" a), g, d, t + 1, os⟩ := I2.pins_of fun p hp => by
    rcases List.mem_cons.mp hp with rfl | hp
    · refine ⟨hu, I1.hok.fresh (Nat.le_refl _), fun z => ?_, I1.nofs (Nat.le_refl _), fun v z => by cases z⟩
      have lt := I1.lt
      rw [← z] at lt
      exact Nat.lt_irrefl _ lt
    · exact I2.pin p (List.mem_append_right _ hp)
  show wpAny _ _ (callWith pos (.ref h1.objs.size) [] (backTo pos (starEach [e] X.env)) []) _ _ _
  rw [hst]
  refine PySem.W.kxs_callWith (i := "ValueError.__init__") (x := a) rfl ?_
  refine Calls.evalArgs_plain ?_
  show wpAny _ _ (spliced ((false, eval e X.env) :: backTo pos (starEach [] X.env))) _ _ _
  refine Calls.spliced_cons (thn (he.run _ _ σ H _ I3 h) fun v s3 ⟨y, H3, I4, ry, ha4, q4⟩ => ?_)
  refine Calls.spliced_nil ⟨ClX.pin_at I4, ?_⟩
  refine mw_call T I4 ha4 (ClX.pin_at I4) (by show 1 ≤ sizeLine; rw [sizeLine_eq]; omega) fun s' J => q4 s' (J.pins_of fun p hp => J.pin p (List.mem_append_right _ (List.mem_cons_of_mem _ hp)))
end
end GD
/-! GX1: the promise of an error's __init__; raise. -/
namespace GD
open PySem PySem.Spec PyProof.Rows L2 NdefX LamX
/-! ### what an f-string can tell -/
def fmt1 : D → Bool
  | .int i => decide (i.natAbs < 2 ^ 250)
  | .str x => decide ((reprText x).length ≤ 10000)
  | _ => false
def fmtB : D → Bool
  | .int i => decide (i.natAbs < 2 ^ 250)
  | .str x => decide (x.length ≤ 10000)
  | .tup xs => decide (xs.length ≤ 20) && xs.all fmt1
  | _ => false
/-- raise c(x): the error's fields are code and f -/
def sRaise (c f : Str) (a : Ev) : Ex := fun ρ m => (a ρ m).lift ρ fun w m => match w with
  | .d x => if fmtB x then .xc c [f, "code"] [x, .str c] ρ m else .bad
  | .m _ => .bad
def sRaise0 (c : Str) : Ex := fun ρ m => .xc c ["code"] [.str c] ρ m
theorem log_small {n : Nat} (h : n < 2 ^ 250) : n.log2 < 1920 := by
  by_cases e : n = 0
  · subst e; decide
  · have := (Nat.log2_lt e).mpr h
    omega
theorem int_text {i : Int} (h : i.natAbs < 2 ^ 250) : (Str.ofString (toString i)).length ≤ 10000 := by
  have h2 : i.natAbs < 10 ^ 250 := Nat.lt_of_lt_of_le h (Nat.pow_le_pow_left (by decide) 250)
  have e := int_text_length_le10 (k := 250) (by decide) h2
  rw [PySem.ofString_length]
  omega
section
variable {X : Cx}
theorem repr_allD {K : PySem.W.Frag} {mg : Str → Option Value} {Hi : Hp} {prog : Program} {w : World} : ∀ {vs : List V} {ds : List D} {its : List Value}, RepL K mg Hi vs ds → Vals vs its → ds.all fmt1 = true → ∃ ts, ReprAll prog w its ts ∧ piled ts ≤ 10002 * ds.length
  | _, _, _, .nil, .nil, _ => ⟨[], .nil, Nat.zero_le _⟩
  | _, _, _, .cons (d := d) r rs, .cons q qs, h => by
    rw [List.all_cons, Bool.and_eq_true] at h
    obtain ⟨ts, h1, h2⟩ := repr_allD rs qs h.2
    cases r with
    | int i =>
      obtain ⟨t, rfl⟩ := q
      have z := of_decide_eq_true h.1
      refine ⟨_, .cons (ReprIs.int t (log_small z)) h1, ?_⟩
      rw [piled_cons, List.length_cons]
      have := int_text z
      omega
    | str x =>
      obtain ⟨t, rfl⟩ := q
      have z := of_decide_eq_true h.1
      refine ⟨_, .cons (ReprIs.str x t (by rw [sizeLine_eq]; omega)) h1, ?_⟩
      rw [piled_cons, List.length_cons]
      omega
    | _ => exact absurd h.1 (by simp [fmt1])
/-- {x}: some text -/
def tFmtX (K : PySem.W.Frag) (mg : Str → Option Value) (te : TE) : TE := fun σ H Q => te σ H fun x H1 => ∃ Hi d, Same Hi H1 ∧ Rep K mg Hi x d ∧ fmtB d = true ∧ ∀ m : Str, m.length ≤ 1000000 → Q (.str m) H1
theorem pe_fmtX {e : Expr} {te : TE} {pos : Pos} {k : Nat} (hr : Room k X.A) (he : PE X e te) : PE X (.FormattedValue e (-1) none pos) (tFmtX X.K X.mg te) := by
  refine ⟨fun pins s σ H Q I h => ?_⟩
  refine wpAny_FormattedValue_plain (thn (he.run pins s σ H _ I h) fun v s1 ⟨x, H1, I1, r1, Hi, d, sm, rp, hf, q⟩ => ?_)
  cases rp with
  | int i =>
    obtain ⟨t, rfl⟩ := r1
    have z := of_decide_eq_true hf
    exact wpAny_formatField_int (log_small z) ⟨.str (toString i), H1, I1.tok _, ⟨_, rfl⟩, q _ (Nat.le_trans (int_text z) (by decide))⟩
  | str y =>
    obtain ⟨t, rfl⟩ := r1
    have z := of_decide_eq_true hf
    exact wpAny_formatField_str ⟨.str y, H1, I1, ⟨t, rfl⟩, q y (Nat.le_trans z (by decide))⟩ ⟨.str y, H1, I1.tok _, ⟨_, rfl⟩, q y (Nat.le_trans z (by decide))⟩ (by rw [sizeLine_eq]; omega)
  | tup sq rl =>
    rename_i a vs ds
    have hf' : (decide (ds.length ≤ 20) && ds.all fmt1) = true := hf
    rw [Bool.and_eq_true] at hf'
    have hl := of_decide_eq_true hf'.1
    cases r1
    obtain ⟨its, rv, ⟨o, ho, hcl, n, hd⟩, _⟩ := I1.tuple (sqT_mono sm sq)
    obtain ⟨ts, h1, h2⟩ := repr_allD (prog := X.prog) (w := X.w) rl rv hf'.2
    have htx := fmt_text ts
    have hu := hr.units
    have h3 : 10002 * ds.length ≤ 200040 := by omega
    exact fmt_tuple (ts := ts) (by omega) ho hcl hd h1 (by rw [sizeLine_eq]; omega) fun m u tk hm => ⟨.str m, H1, I1.tok _, ⟨u, rfl⟩, q m (by omega)⟩
  | _ => cases hf
/-! ### the promise -/
/-- C(x): code, f -/
def spErr (K : PySem.W.Frag) (mg : Str → Option Value) (C : Addr) (c f : Str) : Sp := fun vs H Q _ => ∃ a v Hi d, vs = [.ref a, v] ∧ H a = some (exo a C none) ∧ Same Hi H ∧ Rep K mg Hi v d ∧ fmtB d = true ∧
  ∀ dx, H dx = none → dx ≠ a → Q .non (upd (upd (upd H dx (exd dx [("code", .str c)])) a (exo a C (some dx))) dx (exd dx [(f, v), ("code", .str c)]))
def spErr0 (C : Addr) (c : Str) : Sp := fun vs H Q _ => ∃ a, vs = [.ref a] ∧ H a = some (exo a C none) ∧ ∀ dx, H dx = none → dx ≠ a → Q .non (upd (upd H dx (exd dx [("code", .str c)])) a (exo a C (some dx)))
end
/-! ### the __init__ runs -/
section
variable {P : Program} {w : World} {K : PySem.W.Frag} {mg : Str → Option Value} {base : Heap} {k : Nat} {f cda cc C : Addr} {qual : Str} {params : Arguments} {body : List Stmt} {scope : Scope} {kV doc pm ct oc : Value} {an od : Option Addr} {osl : Array (Option Value)} {N ps : List Str}
theorem init_run {sp : Sp} (lk : K.lookup f = some ⟨oc, od, .func (PySem.W.fnX "__init__" qual params body scope [("__class__", cc)] .none kV doc pm an (.ref cda) ct), osl⟩) (hcd : PySem.W.codeIn K (.ref cda) qual = true) (S : NScope N ps ["__class__"] scope) (hcell : ∃ cl cld csl, K.lookup cc = some ⟨cl, cld, .cell (some (.ref C)), csl⟩)
    (hlen : ∀ vs H Q E, sp vs H Q E → vs.length = ps.length)
    (hbody : ∀ (A : Around) (outer : List PySem.Env) (s s1 : Shared) (H : Hp) (vs : List V) (Q : VK) (E : XK), Room k (A.deeper (envF ⟨"__init__", qual, params, body, scope, [("__class__", cc)], cda⟩ f s.heap.objs.size)) → sp vs H Q E →
      Inv (ncx (L2.CX P w) P w K mg base N ⟨"__init__", qual, params, body, scope, [("__class__", cc)], cda⟩ f A outer s H E) [] (startF N vs [some (.ref C)]) H s1 →
      PySem.wpAt (model P w) (A.deeper (envF ⟨"__init__", qual, params, body, scope, [("__class__", cc)], cda⟩ f s.heap.objs.size)) (.func body (envF ⟨"__init__", qual, params, body, scope, [("__class__", cc)], cda⟩ f s.heap.objs.size))
        (execs body (envF ⟨"__init__", qual, params, body, scope, [("__class__", cc)], cda⟩ f s.heap.objs.size))
        (fun fl s' => ∃ σ' H', fl = .next ∧ Inv (ncx (L2.CX P w) P w K mg base N ⟨"__init__", qual, params, body, scope, [("__class__", cc)], cda⟩ f A outer s H E) [] σ' H' s' ∧ Q .non H')
        (ncx (L2.CX P w) P w K mg base N ⟨"__init__", qual, params, body, scope, [("__class__", cc)], cda⟩ f A outer s H E).xe s1) :
    FnOk P w K mg base (L2.CX P w) (k + 1) f (PySem.W.fnX "__init__" qual params body scope [("__class__", cc)] .none kV doc pm an (.ref cda) ct) ps sp := by
  refine ⟨hlen, fun A outer s H args us vs Q E hr e0 hb r hs => ?_⟩
  have KX : K.In s.heap := e0.mod.kin.keeps fun b o e => (e0.bs b o e).1
  have lim : s.heap.NoLimit := e0.mod.nolimit.keeps fun b o e => (e0.bs b o e).1
  obtain ⟨cl, cld, csl, hcell⟩ := hcell
  have CA : CellsAt [("__class__", cc)] ["__class__"] [some (.ref C)] s.heap H := by
    have hb2 : base.get? cc = some ⟨cl, cld, .cell (some (.ref C)), csl⟩ := e0.mod.kin _ _ hcell
    refine ⟨rfl, fun y c e => ?_, fun x y c e1 e2 => ?_, fun i y e => ?_⟩
    · have hc : c = cc := by
        simp only [List.lookup] at e
        split at e
        · exact (Option.some.inj e).symm
        · cases e
      subst hc
      exact ⟨(e0.bs _ _ hb2).2, _, _, (e0.bs _ _ hb2).1, rfl⟩
    · simp only [List.lookup] at e1 e2
      split at e1
      · split at e2
        · rename_i h1 _ h2
          exact (beq_iff_eq.mp h1).trans (beq_iff_eq.mp h2).symm
        · cases e2
      · cases e1
    · cases i with
      | succ n => simp at e
      | zero =>
        simp at e
        subst e
        refine ⟨cc, rfl, fun v e => ?_⟩
        simp at e
        subst e
        exact ⟨.ref C, rfl, _, (e0.bs _ _ hb2).1, rfl⟩
  refine PySem.ks_codeAny_call_defAt (fd := PySem.W.fnX "__init__" qual params body scope [("__class__", cc)] .none kV doc pm an (.ref cda) ct) (body := body) (binds := ps.zip us) hr.depth (KX _ _ lk) rfl lim (PySem.W.codeRec_of KX hcd) rfl hb S.nocell (fun x hx => S.par _ (List.of_mem_zip hx).1) (fun h1 hns kp => ?_) S.co S.gen S.kind
  have I := inv_startN (CX := L2.CX P w) (F := ⟨"__init__", qual, params, body, scope, [("__class__", cc)], cda⟩) (f := f) (E := E) (tk := s.toks + (ps.zip us).length) S hr.hd e0 (hlen _ _ _ _ hs) r CA hns kp
  refine PySem.ks_wpAt_mono (hbody A outer s _ H vs Q E (hr.deeper _) hs I) (fun fl s' z => ?_) fun e s' z => z
  obtain ⟨σ', H', rfl, J, q⟩ := z
  exact ⟨.non, H', J.os, J.bare, J.base, J.hok, rfl, q⟩
end
end GD
/-! GX2: raise C(x), raise C(). -/
namespace GD
open PySem PySem.Spec PyProof.Rows L2 NdefX LamX
/-- the words of an error's __init__ with one field -/
def errBody (c f msg : Str) (p0 p1 p2 p3 p4 p5 p6 p7 p8 p9 p10 p11 p12 p13 p14 p15 p16 : Pos) (j0 j1 : Nat) : List Stmt :=
  [.Expr (.Call (.Attribute (.Call (.Name "super" p0) [] [] p1) "__init__" p2) [.JoinedStr [.Constant (.str msg) j0 p3, .FormattedValue (.Name f p4) (-1) none p5] p6] [] p7) p8,
   .Assign [.Attribute (.Name "self" p9) "code" p10] (.Constant (.str c) j1 p11) p12,
   .Assign [.Attribute (.Name "self" p13) f p14] (.Name f p15) p16]
def errBody0 (c msg : Str) (p0 p1 p2 p3 p7 p8 p9 p10 p11 p12 : Pos) (j0 j1 : Nat) : List Stmt :=
  [.Expr (.Call (.Attribute (.Call (.Name "super" p0) [] [] p1) "__init__" p2) [.Constant (.str msg) j0 p3] [] p7) p8,
   .Assign [.Attribute (.Name "self" p9) "code" p10] (.Constant (.str c) j1 p11) p12]
theorem ev_mc {o e : Expr} {name : Str} {apos pos : Pos} {env : PySem.Env} (h : (apos.endLine == pos.line) = true) (hst : starEach [e] env = (false, eval e env) :: starEach [] env) :
    eval (.Call (.Attribute o name apos) [e] [] pos) env = (do
      let ov ← attributeBase o name env (eval o env)
      standAt apos.atName
      let (f, first) ← holding [ov] (getMethod ov name (do return (← importBound o env).getD true))
      callWith pos f first (backTo pos (starEach [e] env)) []) := by
  have e1 : methodCallForm 1 (backTo pos (starEach [e] env)) (backToKw pos (keywordEach [] env)) = true := by rw [hst]; rfl
  have e2 : methodCallPos true o env apos pos = pure pos := by
    unfold methodCallPos
    rw [if_pos (by rw [h]; rfl)]
  show (do
    let ov ← attributeBase o name env (eval o env)
    standAt apos.atName
    methodCall o name apos pos env ov 1 (backTo pos (starEach [e] env)) (backToKw pos (keywordEach [] env))) = _
  unfold methodCall
  rw [e1]
  simp only [e2, pure_bind]
  rfl
section
variable {P : Program} {w : World} {K : PySem.W.Frag} {mg : Str → Option Value} {base : Heap} {f0 cda cc C : Addr} {qual : Str} {params : Arguments} {body : List Stmt} {scope : Scope} {kV doc pm ct oc : Value} {an od : Option Addr} {osl : Array (Option Value)} {c f msg : Str} {p0 p1 p2 p3 p4 p5 p6 p7 p8 p9 p10 p11 p12 p13 p14 p15 p16 : Pos} {j0 j1 : Nat}
theorem err_init (T : OexC K C) (F : SupF P K mg C f0 cda cc scope "self") (lk : K.lookup f0 = some ⟨oc, od, .func (PySem.W.fnX "__init__" qual params body scope [("__class__", cc)] .none kV doc pm an (.ref cda) ct), osl⟩) (hcd : PySem.W.codeIn K (.ref cda) qual = true) (S : NScope ["self", f, "__class__"] ["self", f] ["__class__"] scope)
    (hb : body = errBody c f msg p0 p1 p2 p3 p4 p5 p6 p7 p8 p9 p10 p11 p12 p13 p14 p15 p16 j0 j1) (hpos : (p2.endLine == p7.line) = true) (hm : msg.length ≤ 10000) (n1 : PySem.W.findIn K (.ref C) "code" = some none) (n2 : PySem.W.findIn K (.ref C) f = some none) (hfd : (f == ("__debug__" : Str)) = false) (hfc : (f == ("__classdict__" : Str)) = false) :
    FnOk P w K mg base (L2.CX P w) 1 f0 (PySem.W.fnX "__init__" qual params body scope [("__class__", cc)] .none kV doc pm an (.ref cda) ct) ["self", f] (spErr K mg C c f) := by
  refine init_run (C := C) lk hcd S F.cell (fun vs H Q E h => by obtain ⟨a, v, Hi, d, rfl, _⟩ := h; rfl) fun A outer s s1 H vs Q E hr hs I => ?_
  obtain ⟨a, v, Hi, d, rfl, ha, sm, rp, hf, hq⟩ := hs
  subst hb
  have vS : Vis scope "self" := .inl (S.par _ (by simp))
  have vF : Vis scope f := .inl (S.par _ (by simp))
  refine PySem.ks_wpAt_execs_cons ?_
  refine super_init (X := ncx (L2.CX P w) P w K mg base ["self", f, "__class__"] ⟨"__init__", qual, params, errBody c f msg p0 p1 p2 p3 p4 p5 p6 p7 p8 p9 p10 p11 p12 p13 p14 p15 p16 j0 j1, scope, [("__class__", cc)], cda⟩ f0 A outer s H E) (i := 0) T F rfl rfl rfl I ha (pe_joined (.cons pe_str (.cons (pe_fmtX hr (pe_var (i := 1) rfl vF hfd hfc)) .nil))) ?_ rfl I.quiet (ev_mc hpos rfl)
  refine ⟨msg, rfl, ?_, v, rfl, Hi, d, sm, rp, hf, fun t ht => ⟨t, rfl, ?_, ha, fun s2 J => ?_⟩⟩
  · rw [strLen_append, sizeLine_eq]
    have : (Str.empty).length = 0 := rfl
    omega
  · rw [strLen_append, strLen_append, sizeLine_eq]
    have : (Str.empty).length = 0 := rfl
    omega
  · refine wpAt_of_wpAny ?_
    have hp := pss_cons (ps_ost (X := ncx (L2.CX P w) P w K mg base ["self", f, "__class__"] ⟨"__init__", qual, params, errBody c f msg p0 p1 p2 p3 p4 p5 p6 p7 p8 p9 p10 p11 p12 p13 p14 p15 p16 j0 j1, scope, [("__class__", cc)], cda⟩ f0 A outer s H E) (f := "code") (p' := p10) (pos := p12) (pe_var (i := 0) (x := "self") (pos := p9) rfl vS) (pe_str (x := c) (j := j1) (pos := p11)))
      (pss_one (ps_ost (f := f) (p' := p14) (pos := p16) (pe_var (i := 0) (x := "self") (pos := p13) rfl vS) (pe_var (i := 1) (x := f) (pos := p15) rfl vF hfd hfc)))
    refine wpAny_mono (hp.run [] s2 _ H { nx := fun _ H' => Q .non H', rt := fun _ _ => False, bk := fun _ _ => False, ct := fun _ _ => False } J ?_) (fun fl s' z => ?_) fun _ _ z => z
    · refine ⟨.ref a, rfl, a, C, rfl, T, n1, .inl ⟨ha, fun dx hd ne => ?_⟩⟩
      refine ⟨v, rfl, .ref a, rfl, a, C, rfl, T, n2, .inr ⟨dx, [("code", .str c)], ?_, ?_, by show 1 ≤ 900; decide, hq dx hd ne⟩⟩
      · rw [upd_same]
      · rw [upd_ne ne, upd_same]
    · cases fl with
      | next =>
        obtain ⟨σ', H', J', q⟩ := z
        exact ⟨σ', H', rfl, J', q⟩
      | ret u => obtain ⟨_, _, _, _, _, q⟩ := z; exact q.elim
      | brk => obtain ⟨_, _, _, q⟩ := z; exact q.elim
      | cont => obtain ⟨_, _, _, q⟩ := z; exact q.elim
theorem err_init0 (T : OexC K C) (F : SupF P K mg C f0 cda cc scope "self") (lk : K.lookup f0 = some ⟨oc, od, .func (PySem.W.fnX "__init__" qual params body scope [("__class__", cc)] .none kV doc pm an (.ref cda) ct), osl⟩) (hcd : PySem.W.codeIn K (.ref cda) qual = true) (S : NScope ["self", "__class__"] ["self"] ["__class__"] scope)
    (hb : body = errBody0 c msg p0 p1 p2 p3 p7 p8 p9 p10 p11 p12 j0 j1) (hpos : (p2.endLine == p7.line) = true) (n1 : PySem.W.findIn K (.ref C) "code" = some none) :
    FnOk P w K mg base (L2.CX P w) 1 f0 (PySem.W.fnX "__init__" qual params body scope [("__class__", cc)] .none kV doc pm an (.ref cda) ct) ["self"] (spErr0 C c) := by
  refine init_run (C := C) lk hcd S F.cell (fun vs H Q E h => by obtain ⟨a, rfl, _⟩ := h; rfl) fun A outer s s1 H vs Q E hr hs I => ?_
  obtain ⟨a, rfl, ha, hq⟩ := hs
  subst hb
  have vS : Vis scope "self" := .inl (S.par _ (by simp))
  refine PySem.ks_wpAt_execs_cons ?_
  refine super_init (X := ncx (L2.CX P w) P w K mg base ["self", "__class__"] ⟨"__init__", qual, params, errBody0 c msg p0 p1 p2 p3 p7 p8 p9 p10 p11 p12 j0 j1, scope, [("__class__", cc)], cda⟩ f0 A outer s H E) (i := 0) T F rfl rfl rfl I ha pe_str ⟨ha, fun s2 J => ?_⟩ rfl I.quiet (ev_mc hpos rfl)
  refine wpAt_of_wpAny ?_
  have hp := pss_one (ps_ost (X := ncx (L2.CX P w) P w K mg base ["self", "__class__"] ⟨"__init__", qual, params, errBody0 c msg p0 p1 p2 p3 p7 p8 p9 p10 p11 p12 j0 j1, scope, [("__class__", cc)], cda⟩ f0 A outer s H E) (f := "code") (p' := p10) (pos := p12) (pe_var (i := 0) (x := "self") (pos := p9) rfl vS) (pe_str (x := c) (j := j1) (pos := p11)))
  refine wpAny_mono (hp.run [] s2 _ H { nx := fun _ H' => Q .non H', rt := fun _ _ => False, bk := fun _ _ => False, ct := fun _ _ => False } J ?_) (fun fl s' z => ?_) fun _ _ z => z
  · exact ⟨.ref a, rfl, a, C, rfl, T, n1, .inl ⟨ha, fun dx hd ne => hq dx hd ne⟩⟩
  · cases fl with
    | next =>
      obtain ⟨σ', H', J', q⟩ := z
      exact ⟨σ', H', rfl, J', q⟩
    | ret u => obtain ⟨_, _, _, _, _, q⟩ := z; exact q.elim
    | brk => obtain ⟨_, _, _, q⟩ := z; exact q.elim
    | cont => obtain ⟨_, _, _, q⟩ := z; exact q.elim
end
/-! ### raise -/
/-- c is an own error with the field f (none: with none) -/
structure ErrOk (P : Program) (w : World) (K : PySem.W.Frag) (mg : Str → Option Value) (base : Heap) (c : Str) (f : Option Str) : Prop where
  ex : ∃ C fI fd ps, mg c = some (.ref C) ∧ OexC K C ∧ PySem.W.findIn K (.ref C) "__init__" = some (some (.ref fI)) ∧ PySem.W.typeIn K (.ref fI) = some (.type "function") ∧ Binds K fd ps [] ∧
    FnOk P w K mg base (L2.CX P w) 1 fI fd ps (match f with
      | some f => spErr K mg C c f
      | none => spErr0 C c)
section
variable {X : Cx} {Wx : WX} {kk : Nat}
theorem passes0 : Passes (L2.CX X.prog X.w) X (fun _ _ _ => False) := fun _ _ _ _ _ _ _ h => by
  obtain ⟨_, _, _, _, _, _, _, _, _, _, _, _, z⟩ := h
  exact z.elim
theorem err_end {H : Hp} {a dx C : Addr} {u0 u1 u2 u3 : HO} {fs : List (Str × V)} (ha : H a = none) (hd : H dx = none) (ne : dx ≠ a) : upd (del (upd (upd (upd (upd H a u0) dx u1) a u2) dx u3) a) dx (.xd fs) = upd H dx (.xd fs) := by
  funext b
  by_cases h1 : b = dx
  · subst h1; rw [upd_same, upd_same]
  · rw [upd_ne h1, upd_ne h1]
    by_cases h2 : b = a
    · subst h2; rw [del_same, ha]
    · rw [del_ne h2, upd_ne h1, upd_ne h2, upd_ne h1, upd_ne h2]
theorem err_end0 {H : Hp} {a dx C : Addr} {u0 u1 u2 : HO} {fs : List (Str × V)} (ha : H a = none) (hd : H dx = none) (ne : dx ≠ a) : upd (del (upd (upd (upd H a u0) dx u1) a u2) a) dx (.xd fs) = upd H dx (.xd fs) := by
  funext b
  by_cases h1 : b = dx
  · subst h1; rw [upd_same, upd_same]
  · rw [upd_ne h1, upd_ne h1]
    by_cases h2 : b = a
    · subst h2; rw [del_same, ha]
    · rw [del_ne h2, upd_ne h2, upd_ne h1, upd_ne h2]
/-- raise c(e) -/
theorem psd_raise {c f : Str} {e : Expr} {fa : Ev} {p pos pos' : Pos} (cc : Cc X Wx kk) (T : ErrOk X.prog X.w X.K X.mg X.base c (some f)) (hj : 2 ≤ kk) (hg : Gl X c) (he : PE X e (tD X.K X.mg Wx fa)) (hdb : (c == ("__debug__" : Str)) = false := by decide)
    (hst : starEach [e] X.env = (false, eval e X.env) :: starEach [] X.env := by rfl) : PS X (.Raise (some (.Call (.Name c p) [e] [] pos)) none pos') (tDS X.K X.mg Wx (sRaise c f fa)) := by
  obtain ⟨C, fI, fd, ps, hm, TC, iC, tI, hb, F⟩ := T.ex
  refine PS.imp (ps_raise cc.calm cc.tk (pmk_oex (dvs := []) TC iC tI F (cc.room.mono hj) hb .nil passes0 hg hm (pa_cons he pa_nil hst) hdb hst rfl)) fun D σ H t => ?_
  obtain ⟨Hi, ι, ρ, m, RR, g⟩ := t
  refine ⟨Hi, ι, ρ, m, RR, ?_⟩
  unfold sRaise at g
  cases ee : fa ρ m with
  | bad => rw [ee] at g; exact g
  | exc c ns vs m1 =>
    rw [ee] at g
    exact fun Hi' ι' H' C dx fs st M h1 h2 h3 h4 => g Hi' ι' σ H' C dx fs st (RR.step st M) h1 h2 h3 h4
  | ok y m1 =>
    rw [ee] at g
    intro Hi1 ι1 v H1 st M rv
    cases y with
    | m k => exact g.elim
    | d x =>
      simp only [R.lift_ok] at g
      split at g
      case isFalse => exact g.elim
      rename_i hf
      refine ⟨by show 1 ≤ 1000; decide, fun a ha => ?_⟩
      have sm : Same Hi1 (upd H1 a (exo a C none)) := fun b o q => by
        have q2 := M.sub b o q
        rw [upd_ne (ne_of_none q2 ha)]
        exact q2
      refine ⟨a, v, Hi1, x, rfl, upd_same, sm, rv, hf, fun dx hd ne => ?_⟩
      have hd1 : H1 dx = none := by rw [upd_ne ne] at hd; exact hd
      refine ⟨rfl, dx, [(f, v), ("code", .str c)], ?_, upd_same, hd1, ?_⟩
      · rw [upd_ne (Ne.symm ne), upd_same]
      · rw [err_end (C := C) ha hd1 ne]
        obtain ⟨M2, st2⟩ := M.newD (o := .xd [(f, v), ("code", .str c)]) hd1
        exact g (upd Hi1 dx (.xd [(f, v), ("code", .str c)])) ι1 σ _ C dx [v, .str c] (st.trans st2) (RR.step (st.trans st2) M2) hm upd_same rfl (.cons (Rep.mono st2.imm rv) (.cons (.str c) .nil))
/-- C(), C's own __init__ keeping sp -/
theorem pmk_oex0 {x : Str} {C fI : Addr} {k : Nat} {fd : FuncData} {ps : List Str} {sp : Sp} {p pos : Pos} (T : OexC X.K C) (iC : PySem.W.findIn X.K (.ref C) "__init__" = some (some (.ref fI))) (tI : PySem.W.typeIn X.K (.ref fI) = some (.type "function"))
    (F1 : FnOk X.prog X.w X.K X.mg X.base (L2.CX X.prog X.w) k fI fd ps sp) (hr : Room (k + 1) X.A) (hb : Binds X.K fd ps []) (hg : Gl X x) (hm : X.mg x = some (.ref C)) (hdb : (x == ("__debug__" : Str)) = false := by decide) :
    PMk X (.Call (.Name x p) [] [] pos) (fun _ H Q => ∀ a, H a = none → sp [.ref a] (upd H a (exo a C none))
      (fun v H2 => v = .non ∧ ∃ (d : Addr) (fs : List (Str × V)), H2 a = some (exo a C (some d)) ∧ H2 d = some (exd d fs) ∧ H d = none ∧ Q (.ref C) (some d) (upd (del H2 a) d (.xd fs))) (fun _ _ _ => False)) := by
  intro pins s σ H1 Q I1 q1
  obtain ⟨nm, q, N, bs, bm, sn, sub, ab, col, dd, k0, k1, k2, k3, k5, hC, hbm⟩ := T.cls
  refine wpAny_Call_Name_kw (ld_glob I1 hg hm ?_ hdb)
  refine PySem.W.callWith_K0 I1.kIn T.kC ?_
  show wpAny _ _ (call (.ref C) []) _ _ _
  obtain ⟨hp, g, dr, tk, os⟩ := s
  have hsz : hp.objs.size ≤ hp.objs.size + 1 := Nat.le_succ _
  have hn : H1 (hp.objs.size + 1) = none := I1.hok.fresh hsz
  have hq := q1 (hp.objs.size + 1) hn
  have kk : ∀ b o, hp.get? b = some o → ((hp.push (PySem.W.kdv_tup [])).push (PySem.HandSPX.excO C hp.objs.size)).get? b = some o := fun b o e => Heap.get?_push_of_some _ (Heap.get?_push_of_some _ e)
  have hget : ((hp.push (PySem.W.kdv_tup [])).push (PySem.HandSPX.excO C hp.objs.size)).get? (hp.objs.size + 1) = some (PySem.HandSPX.excO C hp.objs.size) := by heap_get
  have I2 : Inv X pins σ (upd H1 (hp.objs.size + 1) (exo (hp.objs.size + 1) C none)) ⟨(hp.push (PySem.W.kdv_tup [])).push (PySem.HandSPX.excO C hp.objs.size), g, dr, tk, os⟩ :=
    I1.laid (t' := tk) (a := hp.objs.size + 1) (o := exo (hp.objs.size + 1) C none) (h' := (hp.push (PySem.W.kdv_tup [])).push (PySem.HandSPX.excO C hp.objs.size)) kk hsz (exo_ok hget)
  have r2 : Vals [V.ref (hp.objs.size + 1)] [Value.ref (hp.objs.size + 1)] := .cons rfl .nil
  have hl : ([Value.ref (hp.objs.size + 1)] ++ []).length = ps.length := by
    have e := F1.len _ _ _ _ hq
    exact e
  refine wpAny_call (PySem.HandSPX.call_own F.excBase_ValueError (fun Y => PySem.HandSPX.refsVE_contains Y bm hbm) (I1.kIn _ _ hC) (PySem.W.looks_findIn I1.kIn iC) (fun self => PySem.W.bind_fn I1.kIn self tI) (by show 0 ≤ sizeLine; exact Nat.zero_le _)
    (codeAny_mono (F1.run _ X.stack _ _ ⟨[Value.ref (hp.objs.size + 1)], []⟩ [Value.ref (hp.objs.size + 1)] _ _ (fun _ _ _ => False) (hr.make C [] []) (I2.env0.make C [] []) (hb _ [Value.ref (hp.objs.size + 1)] I2.kIn hl) r2 hq) fun r s' hq' => ?_))
  cases r with
  | error er => exact passes0 pins σ _ _ er s' I2 hq'
  | ok fl =>
    cases fl with
    | ret u =>
      obtain ⟨v, H2, os2, bare2, un2, hok2, rv, ev, d, fs, ea, ed, hd1, q2⟩ := hq'
      subst ev
      obtain ⟨h2, g2, d2, t2, os'⟩ := s'
      exact ⟨rv, mk_end (raises_own T.exC T.tyC) I1 hsz kk un2 hok2 os2 bare2 ea ed hd1 q2⟩
    | next => exact False.elim hq'
    | brk => exact False.elim hq'
    | cont => exact False.elim hq'
/-- raise c() -/
theorem psd_raise0 {c : Str} {p pos pos' : Pos} (cc : Cc X Wx kk) (T : ErrOk X.prog X.w X.K X.mg X.base c none) (hj : 2 ≤ kk) (hg : Gl X c) (hdb : (c == ("__debug__" : Str)) = false := by decide) :
    PS X (.Raise (some (.Call (.Name c p) [] [] pos)) none pos') (tDS X.K X.mg Wx (sRaise0 c)) := by
  obtain ⟨C, fI, fd, ps, hm, TC, iC, tI, hb, F⟩ := T.ex
  refine PS.imp (ps_raise cc.calm cc.tk (pmk_oex0 TC iC tI F (cc.room.mono hj) hb hg hm hdb)) fun D σ H t => ?_
  obtain ⟨Hi, ι, ρ, m, RR, g⟩ := t
  intro a ha
  refine ⟨a, rfl, upd_same, fun dx hd ne => ?_⟩
  have hd1 : H dx = none := by rw [upd_ne ne] at hd; exact hd
  refine ⟨rfl, dx, [("code", .str c)], upd_same, ?_, hd1, ?_⟩
  · rw [upd_ne ne, upd_same]
  · rw [err_end0 (C := C) ha hd1 ne]
    obtain ⟨M2, st2⟩ := RR.mok.newD (o := .xd [("code", .str c)]) hd1
    exact g (upd Hi dx (.xd [("code", .str c)])) ι σ _ C dx [.str c] st2 (RR.step st2 M2) hm upd_same rfl (.cons (.str c) .nil)
end
end GD
/-! GL0: lambdas are made. -/
namespace GD
open PySem PySem.Spec PyProof.Rows L2 NdefX LamX PySem.W
section
variable {M : Model} {A : Around} {E : Value → Shared → Prop} {s : Shared} {F : LamF} {env : PySem.Env} {c P : Addr} {ps : Array Value} {pos : Pos} {firstLine : Nat} {mg : Str → Option Value} {clos : List (Str × Addr)} {dV : Value} {Q : Value → Shared → Prop}
theorem lam_tail (hcl : closureFor F.scope env = pure clos) (hge0 : env.globals = mainGlobals) (hg : s.heap.Ns mainGlobals mg) (hcode : env.code = .ref c) (C : CodeHd s.heap c P) (hP : s.heap.get? P = some (tabObj ps)) (ht : TriplesOk ps.toList)
    (hnf : codeAmong pos ps.toList = none) (hgP : mainGlobals ≠ P) (hb : s.heap.BuiltinsAt mg P)
    (h : ∀ c' ctv h' tk, Heap.ExtBut P s.heap h' → s.heap.objs.size ≤ c' → c' < h'.objs.size → h'.CodeRec (.ref c') F.qual → h'.get? P = some (tabObj (ps ++ #[rawInt pos.line, rawInt pos.col, .ref c'])) →
      Q (.ref h'.objs.size) { s with heap := h'.push { cls := .type "function", data := .func (lamFn F clos dV ((mg "__name__").getD .none) (.ref c') ctv) }, toks := tk }) :
    wpAny M A (makeTail "<lambda>" F.qual F.params (.expr F.body) F.scope env dV .none none pos firstLine) Q E s := by
  obtain ⟨bm, ob, hbm, hne0, _, hneP, hbo, hcls, hdict, hdata⟩ := hb
  unfold makeTail
  rw [hcl, hge0]
  refine wpAny_bind (wpAny_pure ?_)
  cases clos with
  | nil =>
    simp only [List.isEmpty_nil, if_true]
    refine wpAny_bind (wpAny_pure ?_)
    refine wpAny_bind (wpAny_functionCodeX hcode (C.code hP ht) (C.tab hP) hnf fun c' h' tk hx hge hlt _ hrec htb _ => ?_)
    have hg' := hg.extBut hx hgP
    refine wpAny_bind (wpAny_builtinsFor hg' hbm hne0 (hx _ _ hneP hbo) hcls hdict hdata ?_)
    refine wpAny_bind (wpAny_nsGet hg' ?_)
    exact wpAny_bind (wpAny_pure (wpAny_newObj_type (h c' .none h' tk hx hge hlt hrec htb.2) (by size_fits)))
  | cons q r =>
    simp only [List.isEmpty_cons, Bool.false_eq_true, if_false]
    refine wpAny_bind (wpAny_newTextTuple ?_)
    refine wpAny_bind (wpAny_functionCodeX hcode ((C.keeps fun b o e => Heap.get?_push_of_some _ e).code (Heap.get?_push_of_some _ hP) ht) ((C.keeps fun b o e => Heap.get?_push_of_some _ e).tab (Heap.get?_push_of_some _ hP)) hnf fun c' h' tk hx hge hlt _ hrec htb _ => ?_)
    have hg' := (hg.push _).extBut hx hgP
    have hx' : Heap.ExtBut P s.heap h' := fun b o hb' e => hx b o hb' (Heap.get?_push_of_some _ e)
    have hge' : s.heap.objs.size ≤ c' := Nat.le_trans (by rw [Heap.size_push]; omega) hge
    refine wpAny_bind (wpAny_builtinsFor hg' hbm hne0 (hx' _ _ hneP hbo) hcls hdict hdata ?_)
    refine wpAny_bind (wpAny_nsGet hg' ?_)
    exact wpAny_bind (wpAny_pure (wpAny_newObj_type (h c' _ h' tk hx' hge' hlt hrec htb.2) (by size_fits)))
theorem lam_tailHit {cv : Value} (hcl : closureFor F.scope env = pure clos) (hge0 : env.globals = mainGlobals) (hg : s.heap.Ns mainGlobals mg) (hcode : env.code = .ref c) (C : CodeHd s.heap c P) (hP : s.heap.get? P = some (tabObj ps)) (ht : TriplesOk ps.toList)
    (hf : codeAmong pos ps.toList = some cv) (hb : s.heap.BuiltinsAt mg P)
    (h : ∀ (ctv : Value) (h' : Heap) (tk : Tok), (∀ b o, s.heap.get? b = some o → h'.get? b = some o) → s.heap.objs.size ≤ h'.objs.size →
      Q (.ref h'.objs.size) { s with heap := h'.push { cls := .type "function", data := .func (lamFn F clos dV ((mg "__name__").getD .none) cv ctv) }, toks := tk }) :
    wpAny M A (makeTail "<lambda>" F.qual F.params (.expr F.body) F.scope env dV .none none pos firstLine) Q E s := by
  obtain ⟨bm, ob, hbm, hne0, _, hneP, hbo, hcls, hdict, hdata⟩ := hb
  unfold makeTail
  rw [hcl, hge0]
  refine wpAny_bind (wpAny_pure ?_)
  cases clos with
  | nil =>
    simp only [List.isEmpty_nil, if_true]
    refine wpAny_bind (wpAny_pure ?_)
    refine wpAny_bind (wpAny_functionCode_hit hcode (C.code hP ht) hf ?_)
    refine wpAny_bind (wpAny_builtinsFor hg hbm hne0 hbo hcls hdict hdata ?_)
    refine wpAny_bind (wpAny_nsGet hg ?_)
    exact wpAny_bind (wpAny_pure (wpAny_newObj_type (h .none s.heap s.toks (fun _ _ e => e) (Nat.le_refl _)) (by size_fits)))
  | cons q r =>
    simp only [List.isEmpty_cons, Bool.false_eq_true, if_false]
    refine wpAny_bind (wpAny_newTextTuple ?_)
    refine wpAny_bind (wpAny_functionCode_hit hcode ((C.keeps fun b o e => Heap.get?_push_of_some _ e).code (Heap.get?_push_of_some _ hP) ht) hf ?_)
    refine wpAny_bind (wpAny_builtinsFor (hg.push _) hbm hne0 (Heap.get?_push_of_some _ hbo) hcls hdict hdata ?_)
    refine wpAny_bind (wpAny_nsGet (hg.push _) ?_)
    have hsz : ∀ oT : Obj, s.heap.objs.size ≤ (s.heap.push oT).objs.size := fun oT => by rw [Heap.size_push]; omega
    exact wpAny_bind (wpAny_pure (wpAny_newObj_type (h _ _ s.toks (fun b o e => Heap.get?_push_of_some _ e) (hsz _)) (by size_fits)))
end
theorem lamO_ok {P : Program} {w : World} {H : Hp} {h : Heap} {f c : Addr} {F : LamF} {C : List (Str × Addr)} {dV pm ctv : Value} (e : h.get? f = some ({ cls := .type "function", data := .func (lamFn F (cloFrom C F.scope.names []) dV pm (.ref c) ctv) } : Obj)) : ObjOk P w H h f (LamO f F C c dV) :=
  ⟨⟨_, _, pm, ctv, e⟩, ⟨_, e⟩, fun h1 h2 ⟨od, sl, p, t, z⟩ st => ⟨od, sl, p, t, st _ z⟩⟩
theorem lamO_at {P : Program} {w : World} {H : Hp} {h : Heap} {f c : Addr} {F : LamF} {C : List (Str × Addr)} {dV : Value} (hok : HOk P w H h) (e : H f = some (LamO f F C c dV)) :
    ∃ (od : Option Addr) (sl : Array (Option Value)) (pm ctv : Value), h.get? f = some (⟨.type "function", od, .func (lamFn F (cloFrom C F.scope.names []) dV pm (.ref c) ctv), sl⟩ : Obj) := by
  obtain ⟨z, _, _⟩ := hok f _ e
  exact z
section
variable {X : Cx} {pins : List (Addr × Obj)} {σ : L2.St} {Hi H : Hp} {ι : List Addr} {m : Mem} {s : Shared}
theorem upd_swap {H : Hp} {a b : Addr} {u v : HO} (h : a ≠ b) : upd (upd H a u) b v = upd (upd H b v) a u := by
  funext x
  by_cases h1 : x = b
  · subst h1; rw [upd_same, upd_ne (Ne.symm h), upd_same]
  · rw [upd_ne h1]
    by_cases h2 : x = a
    · subst h2; rw [upd_same, upd_same]
    · rw [upd_ne h2, upd_ne h2, upd_ne h1]
theorem mok_tab {K : PySem.W.Frag} {mg : Str → Option Value} {k : Nat} {P c' : Addr} {q : Str} {ps : Array Value} {pos : Pos} (M : Mok K mg Hi ι m H) (hk : ι[k]? = some P) (hm : m[k]? = some (.tab P q)) (hP : H P = some (.tbl ps)) (ht : TriplesOk ps.toList)
    (ha : ∀ (pos : Pos) (cv : Value), codeAmong pos ps.toList = some cv → ∃ c, cv = .ref c ∧ Hi c = some (CodeO c q)) (hc : H c' = none) :
    Mok K mg (upd Hi c' (CodeO c' q)) ι m (upd (upd H P (.tbl (ps ++ #[rawInt pos.line, rawInt pos.col, .ref c']))) c' (CodeO c' q)) ∧
    Step Hi ι H (upd Hi c' (CodeO c' q)) ι (upd (upd H P (.tbl (ps ++ #[rawInt pos.line, rawInt pos.col, .ref c']))) c' (CodeO c' q)) := by
  have ne : P ≠ c' := ne_of_none hP hc
  obtain ⟨M1, s1⟩ := M.newD (o := CodeO c' q) hc
  have eL : (ps ++ #[rawInt pos.line, rawInt pos.col, .ref c']).toList = ps.toList ++ [rawInt pos.line, rawInt pos.col, .ref c'] := by simp
  obtain ⟨M2, s2⟩ := M1.setX (o := .tbl (ps ++ #[rawInt pos.line, rawInt pos.col, .ref c'])) (mo := .tab P q) hk hm (fun z => nomatch z) (by
    refine ⟨rfl, _, upd_same, by rw [eL]; exact PySem.TriplesOk_snoc _ _ _ _ ht, fun p' cv hcv => ?_⟩
    rw [eL] at hcv
    rcases among_app _ ht hcv with z | z
    · obtain ⟨c0, e1, e2⟩ := ha p' cv z
      exact ⟨c0, e1, s1.imm _ _ e2⟩
    · exact ⟨c', z, upd_same⟩)
  have em : m.set k (.tab P q) = m := by
    obtain ⟨hl, e⟩ := List.getElem?_eq_some_iff.mp hm
    rw [← e]
    exact List.set_getElem_self hl
  rw [em] at M2
  rw [upd_swap ne]
  exact ⟨M2, s1.trans s2⟩
/-- the lambda's object is made, its defaults dV laid -/
theorem lam_make {k : Nat} {c P : Addr} {Z : LamZ} {i : Nat} {pos : Pos} {firstLine : Nat} {dV : Value} {E : Value → Shared → Prop} {Q : Value → Shared → Prop} (I : Inv X pins σ H s) (M : Mok X.K X.mg Hi ι m H) (TB : TabB X.base X.mg c P) (hcode : X.env.code = .ref c) (hC : X.env.cells = Z.C) (hm : m[k]? = some (.tab P (Z.F i).qual))
    (hfree : ∀ y ∈ (Z.F i).scope.names, y.2 = .free → ∃ c, X.env.cells.lookup y.1 = some c) (hd : DflO Hi (Z.F i) dV)
    (h : ∀ (f : Addr) (Hi1 H1 : Hp) (s' : Shared), Inv X pins σ H1 s' → Mok X.K X.mg Hi1 ι m H1 → Step Hi ι H Hi1 ι H1 → Rep X.K X.mg Hi1 (.ref f) (.lam i Z) → Q (.ref f) s') :
    wpAny (model X.prog X.w) X.A (makeTail "<lambda>" (Z.F i).qual (Z.F i).params (.expr (Z.F i).body) (Z.F i).scope X.env dV .none none pos firstLine) Q E s := by
  obtain ⟨a, hk⟩ : ∃ a, ι[k]? = some a := by
    have hl := (List.getElem?_eq_some_iff.mp hm).1
    rw [← M.len] at hl
    exact ⟨ι[k], by simp [hl]⟩
  obtain ⟨ea, ps, hP, ht, ha⟩ := M.obj k _ a hm hk
  subst ea
  have bP : s.heap.BuiltinsAt X.mg a := TB.bm.keeps I.bk
  have hP' : s.heap.get? a = some { cls := .none, data := .fields ps } := I.hok a _ hP
  cases hc : codeAmong pos ps.toList with
  | none =>
    refine lam_tail (mg := X.mg) (c := c) (P := a) (ps := ps) (pos := pos) (closure_ok hfree) I.ok.glob (I.mod.glob.keeps I.bk) hcode (TB.code.keeps I.bk) hP' ht hc TB.gP bP fun c' ctv h' tk hx hge hlt hrec htb => ?_
    obtain ⟨c2, oc, vs, t, e2, hoc, hdd, hv⟩ := hrec
    cases e2
    have nC : H c' = none := I.hok.fresh hge
    have I1 := inv_table (t' := tk) (more := #[rawInt pos.line, rawInt pos.col, .ref c']) (h' := h') I hP (fun b o hb e => hx b o hb e) htb hge ⟨oc, vs, t, hoc, hdd, hv⟩
    obtain ⟨M1, s1⟩ := mok_tab (pos := pos) M hk hm hP ht ha nC
    have nF := I1.hok.fresh (Nat.le_refl _)
    have eF : (h'.push ({ cls := .type "function", data := .func (lamFn (Z.F i) (cloFrom X.env.cells (Z.F i).scope.names []) dV ((X.mg "__name__").getD .none) (.ref c') ctv) } : Obj)).get? h'.objs.size = some ({ cls := .type "function", data := .func (lamFn (Z.F i) (cloFrom X.env.cells (Z.F i).scope.names []) dV ((X.mg "__name__").getD .none) (.ref c') ctv) } : Obj) := Heap.get?_push_size _ rfl
    have I2 := I1.laid (t' := tk) (a := h'.objs.size) (o := LamO h'.objs.size (Z.F i) Z.C c' dV) (h' := h'.push ({ cls := .type "function", data := .func (lamFn (Z.F i) (cloFrom X.env.cells (Z.F i).scope.names []) dV ((X.mg "__name__").getD .none) (.ref c') ctv) } : Obj)) (fun b u e => Heap.get?_push_of_some _ e) (Nat.le_refl _) (lamO_ok (by rw [← hC]; exact eF))
    obtain ⟨M2, s2⟩ := M1.newD (o := LamO h'.objs.size (Z.F i) Z.C c' dV) nF
    exact h _ _ _ _ I2 M2 (s1.trans s2) (.lam upd_same (s2.imm _ _ upd_same) (hd.mono (s1.trans s2).imm))
  | some cv =>
    obtain ⟨c', e, hco⟩ := ha pos cv hc
    subst e
    refine lam_tailHit (mg := X.mg) (c := c) (P := a) (ps := ps) (pos := pos) (closure_ok hfree) I.ok.glob (I.mod.glob.keeps I.bk) hcode (TB.code.keeps I.bk) hP' ht hc bP fun ctv h' tk hx hsz => ?_
    have I1 : Inv X pins σ H { s with heap := h', toks := tk } := I.kept hx
    have nF : H h'.objs.size = none := I1.hok.fresh (Nat.le_refl _)
    have eF : (h'.push ({ cls := .type "function", data := .func (lamFn (Z.F i) (cloFrom X.env.cells (Z.F i).scope.names []) dV ((X.mg "__name__").getD .none) (.ref c') ctv) } : Obj)).get? h'.objs.size = some ({ cls := .type "function", data := .func (lamFn (Z.F i) (cloFrom X.env.cells (Z.F i).scope.names []) dV ((X.mg "__name__").getD .none) (.ref c') ctv) } : Obj) := Heap.get?_push_size _ rfl
    have I2 := I1.laid (t' := tk) (a := h'.objs.size) (o := LamO h'.objs.size (Z.F i) Z.C c' dV) (h' := h'.push ({ cls := .type "function", data := .func (lamFn (Z.F i) (cloFrom X.env.cells (Z.F i).scope.names []) dV ((X.mg "__name__").getD .none) (.ref c') ctv) } : Obj)) (fun b u e => Heap.get?_push_of_some _ e) (Nat.le_refl _) (lamO_ok (by rw [← hC]; exact eF))
    obtain ⟨M2, s2⟩ := M.newD (o := LamO h'.objs.size (Z.F i) Z.C c' dV) nF
    exact h _ _ _ _ I2 M2 s2 (.lam upd_same (s2.imm _ _ hco) (hd.mono s2.imm))
end
/-! ### the expression -/
/-- lambda i of the frame Z; its code's table has the number k -/
def fLam (k : Nat) (P : Addr) (q : Str) (Z : LamZ) (i : Nat) : Ev := fun _ m => match m[k]? with
  | some (.tab P' q') => if P' = P ∧ q' = q then .ok (.d (.lam i Z)) m else .bad
  | _ => .bad
/-- what is known of the frame that makes lambdas -/
structure LamC (X : Cx) (Z : LamZ) (P : Addr) : Prop where
  cells : X.env.cells = Z.C
  code : ∃ c, X.env.code = .ref c ∧ TabB X.base X.mg c P
def lamFreeB (sc scope : Scope) : Bool := scope.names.all fun y => !decide (y.2 = .free) || decide (sc.names.lookup y.1 = some .cell) || decide (sc.names.lookup y.1 = some .free)
theorem lam_free {X : Cx} {scope : Scope} (h : lamFreeB X.env.scope scope = true) (ok : X.Ok) : ∀ y ∈ scope.names, y.2 = .free → ∃ c, X.env.cells.lookup y.1 = some c := fun y hy e => by
  have z := List.all_eq_true.mp h y hy
  simp only [Bool.or_eq_true, Bool.not_eq_true', decide_eq_true_eq, decide_eq_false_iff_not] at z
  rcases z with (z | z) | z
  · exact absurd e z
  · exact ok.has _ (.inl z)
  · exact ok.has _ (.inr z)
section
variable {X : Cx} {Wx : WX}
theorem pd_lam {k i : Nat} {P : Addr} {q0 : Str} {Z : LamZ} {params : Arguments} {body : Expr} {scope : Scope} {pos : Pos} (L : LamC X Z P) (hq0 : X.env.qual ++ "<lambda>" = q0) (hF : Z.F i = ⟨X.env.qual ++ "<lambda>", params, body, scope⟩) (hfr : lamFreeB X.env.scope scope = true) (hdf : params.defaults = []) (hdef : defaultsOf params X.env = ([], [])) :
    PE X (.Lambda params body scope pos) (tD X.K X.mg Wx (fLam k P q0 Z i)) := by
  refine ⟨fun pins s σ H Q I h => ?_⟩
  obtain ⟨Hi, ι, ρ, m, RR, g⟩ := h
  unfold fLam at g
  split at g
  case h_2 => exact g.elim
  rename_i P' q hm
  split at g
  case isFalse => exact g.elim
  rename_i hq
  obtain ⟨rfl, rfl⟩ := hq
  have hm : m[k]? = some (.tab P' (Z.F i).qual) := by rw [hF]; show m[k]? = some (.tab P' (X.env.qual ++ "<lambda>")); rw [hq0]; exact hm
  obtain ⟨c, hc, TB⟩ := L.code
  refine PySem.W.kla_eval hdef ?_
  rw [makeFunction_eq]
  simp only [List.zip_nil_right, List.filterMap_nil, List.isEmpty_nil, if_true, pure_bind]
  have z := lam_make (X := X) (k := k) (c := c) (P := P') (Z := Z) (i := i) (pos := pos) (firstLine := pos.line) (dV := .none) (E := X.xe) (Q := EP X pins σ Q) I RR.mok TB hc L.cells hm (by rw [hF]; exact lam_free hfr I.ok) (.inl ⟨by rw [hF]; exact hdf, rfl⟩) fun f Hi1 H1 s' I1 M1 st rp => ⟨.ref f, H1, I1, rfl, g Hi1 ι (.ref f) H1 st M1 rp⟩
  rw [hF] at z
  exact z
theorem pd_lam1 {k i : Nat} {P : Addr} {q0 : Str} {Z : LamZ} {params : Arguments} {body : Expr} {scope : Scope} {pos p2 : Pos} {n : Int} {j : Nat} (L : LamC X Z P) (hq0 : X.env.qual ++ "<lambda>" = q0) (hF : Z.F i = ⟨X.env.qual ++ "<lambda>", params, body, scope⟩) (hfr : lamFreeB X.env.scope scope = true) (hdf : params.defaults ≠ []) (hdef : defaultsOf params X.env = ([eval (.Constant (.int n) j p2) X.env], [])) :
    PE X (.Lambda params body scope pos) (tD X.K X.mg Wx (fLam k P q0 Z i)) := by
  refine ⟨fun pins s σ H Q I h => ?_⟩
  obtain ⟨Hi, ι, ρ, m, RR, g⟩ := h
  unfold fLam at g
  split at g
  case h_2 => exact g.elim
  rename_i P' q hm
  split at g
  case isFalse => exact g.elim
  rename_i hq
  obtain ⟨rfl, rfl⟩ := hq
  have hm : m[k]? = some (.tab P' (Z.F i).qual) := by rw [hF]; show m[k]? = some (.tab P' (X.env.qual ++ "<lambda>")); rw [hq0]; exact hm
  obtain ⟨c, hc, TB⟩ := L.code
  rw [arm_eval_Lambda, hdef]
  show wpAny _ _ (do let dv ← evalAll [eval (.Constant (.int n) j p2) X.env]; let kdv ← holding dv (evalAllOpt []); makeFunction "<lambda>" (X.env.qual ++ "<lambda>") params (.expr body) scope X.env dv kdv [] pos pos.line) _ _ s
  refine wpAny_bind (evalAll_cons (wpAny_Constant_int (wpAny_evalAll_nil (wpAny_bind (wpAny_holding (wpAny_pure ?_))))))
  rw [makeFunction_eq]
  simp only [List.zip_nil_right, List.filterMap_nil, List.isEmpty_nil, List.isEmpty_cons, Bool.false_eq_true, if_false, if_true, pure_bind]
  refine wpAny_bind (wpAny_newTextTuple ?_)
  have I0 := I.tok (s.toks + 1)
  have nT : H s.heap.objs.size = none := I.hok.fresh (Nat.le_refl _)
  have eT : (s.heap.push ({ cls := .type "tuple", data := .seq [Value.int n s.toks].toArray } : Obj)).get? s.heap.objs.size = some ({ cls := .type "tuple", data := .seq [Value.int n s.toks].toArray } : Obj) := Heap.get?_push_size _ rfl
  have I1 := I0.laid (t' := s.toks + 1) (a := s.heap.objs.size) (o := .tup [.int n]) (h' := s.heap.push ({ cls := .type "tuple", data := .seq [Value.int n s.toks].toArray } : Obj)) (fun b u e => Heap.get?_push_of_some _ e) (Nat.le_refl _) ⟨by show 1 ≤ sizeLine; rw [sizeLine_eq]; decide, [Value.int n s.toks], .cons ⟨_, rfl⟩ .nil, _, eT, rfl, _, rfl⟩
  obtain ⟨M1, s1⟩ := RR.mok.newD (o := .tup [.int n]) nT
  have z := lam_make (X := X) (k := k) (c := c) (P := P') (Z := Z) (i := i) (pos := pos) (firstLine := pos.line) (dV := .ref s.heap.objs.size) (E := X.xe) (Q := EP X pins σ Q) I1 M1 TB hc L.cells hm (by rw [hF]; exact lam_free hfr I.ok) (.inr ⟨by rw [hF]; exact hdf, _, n, rfl, upd_same⟩) fun f Hi1 H1 s' I1 M1 st rp => ⟨.ref f, H1, I1, rfl, g Hi1 ι (.ref f) H1 (s1.trans st) M1 rp⟩
  rw [hF] at z
  exact z
end
end GD
/-! GL1: lambdas are called. -/
namespace GD
open PySem PySem.Spec PyProof.Rows L2 LamX
/-- the names of a lambda: own ones that the maker has not, captured ones, globals -/
structure LamW (N : List Str) (sc scope : Scope) : Prop where
  kind : scope.kind = .function
  co : scope.isCoroutine = false
  gen : scope.isGenerator = false
  nocell : ∀ y ∈ scope.names, y.2 ≠ .cell
  own : ∀ y ∈ scope.names, y.2 = .local → y.1 ∉ N
  free : ∀ y ∈ scope.names, y.2 = .free → sc.names.lookup y.1 = some .cell ∨ sc.names.lookup y.1 = some .free
def lamWB (N : List Str) (sc scope : Scope) : Bool :=
  decide (scope.kind = .function) && (!scope.isCoroutine && (!scope.isGenerator && ((scope.names.all fun y => !decide (y.2 = .cell)) && ((scope.names.all fun y => !decide (y.2 = .local) || !decide (y.1 ∈ N)) && lamFreeB sc scope))))
theorem lamW_by {N : List Str} {sc scope : Scope} (h : lamWB N sc scope = true) : LamW N sc scope := by
  unfold lamWB at h
  simp only [Bool.and_eq_true, Bool.not_eq_true', decide_eq_true_eq] at h
  obtain ⟨h1, h2, h3, h4, h5, h6⟩ := h
  refine ⟨h1, h2, h3, fun y hy e => ?_, fun y hy e hm => ?_, fun y hy e => ?_⟩
  · have z := List.all_eq_true.mp h4 y hy
    simp [e] at z
  · have z := List.all_eq_true.mp h5 y hy
    simp [e] at z
    exact z hm
  · have z := List.all_eq_true.mp h6 y hy
    simp only [e, Bool.or_eq_true, Bool.not_eq_true', decide_eq_true_eq, decide_eq_false_iff_not] at z
    rcases z with (z | z) | z
    · exact absurd trivial z
    · exact .inl z
    · exact .inr z
/-- how the names of a lambda are bound when it is called without arguments -/
def LamBind (F : LamF) : Prop :=
  (F.params.defaults = [] ∧ ∀ (cl : List (Str × Addr)) (pm cdv ctv : Value), bindArgs (lamFn F cl .none pm cdv ctv) ⟨[], []⟩ = pure []) ∨
  (F.params.defaults ≠ [] ∧ ∃ a, F.scope.names.lookup a = some .local ∧ ∀ (T : Addr) (cl : List (Str × Addr)) (pm cdv ctv : Value), ∃ k, bindArgs (lamFn F cl (.ref T) pm cdv ctv) ⟨[], []⟩ = (seqItems? (.ref T) >>= k) ∧ ∀ u, k (some #[u]) = pure [(a, u)])
section
variable {X : Cx} {pins : List (Addr × Obj)} {σ : L2.St} {H HZ : Hp} {s s1 : Shared} {ex : List Addr}
theorem lam_startG {A : Around} {outer : List PySem.Env} {E : XK} {scope : Scope} {f c' : Addr} {h₁ : Heap} {tk : Nat} {bs : List (Str × Value)} (I : Inv X pins σ H s) (L : LamW X.N X.env.scope scope) (e0 : Env0 X.prog X.w X.K X.mg X.base A outer s1 HZ) (hd : A.handled = none)
    (un : Un (frs X.stack) ex H HZ s.heap s1.heap) (hex : ∀ y c, X.env.cells.lookup y = some c → c ∉ ex) (hns : h₁.Ns s1.heap.objs.size fun y => bs.reverse.lookup y) (kp : ∀ b o, s1.heap.get? b = some o → h₁.get? b = some o) :
    Inv (lamCx X A outer s1 HZ E scope f c') [] σ HZ { s1 with heap := h₁, toks := tk } := by
  have hfree : ∀ y ∈ scope.names, y.2 = .free → ∃ c, X.env.cells.lookup y.1 = some c := fun y hy e => (L.free y hy e).elim (fun z => I.ok.has _ (.inl z)) fun z => I.ok.has _ (.inr z)
  have back : ∀ {y c}, (cloFrom X.env.cells scope.names []).lookup y = some c → X.env.cells.lookup y = some c := by
    intro y c e
    rcases cloFrom_mem (PySem.mem_of_lookup e) with z | ⟨z1, z2⟩
    · exact nomatch z
    obtain ⟨c1, z3⟩ := hfree _ z1 rfl
    have z3 : X.env.cells.lookup y = some c1 := z3
    rw [z3] at z2 ⊢
    rw [z2]
    rfl
  have forth : ∀ {y}, scope.names.lookup y = some .free → ∃ c, (cloFrom X.env.cells scope.names []).lookup y = some c := fun {y} z => mem_lookup (cloFrom_has (cells := X.env.cells) (acc := []) (PySem.mem_of_lookup z))
  have stays : ∀ {c : Addr} {v : Option Value}, H c = none → c ∉ ex → s.heap.IsCell c v → h₁.IsCell c v := by
    rintro c v n nx ⟨o, ho, hd⟩
    obtain ⟨sl, q⟩ := un.any ho n nx
    exact ⟨_, kp _ _ q, hd⟩
  have noA : ∀ b : Addr, b ∉ (lamCx X A outer s1 HZ E scope f c').ex := fun b z => nomatch (show b ∈ ([] : List Addr) from z)
  have ok : (lamCx X A outer s1 HZ E scope f c').Ok := by
    refine ⟨e0.mod, L.kind, rfl, rfl, Nat.le_refl _, fun y z c e1 e2 => I.ok.inj y z c (back e1) (back e2), fun y hy => ?_, fun y c z _ => (nomatch (show false = true from z)), fun _ => hd, Around.frames_deeper e0.frames, .inr ⟨rfl, rfl⟩, fun b z => absurd z (noA b), e0.bs, e0.bsz, fun b _ _ => noA b, fun b z => absurd z (noA b), e0.funs, e0.frf⟩
    rcases hy with z | z
    · exact absurd rfl (L.nocell _ (PySem.mem_of_lookup (show scope.names.lookup y = some .cell from z)))
    · exact forth z
  refine ⟨ok, rfl, e0.bare, Un.kept kp, ⟨_, hns, fun i y v e1 e2 e3 => ?_⟩, fun y c e => ?_, e0.hok.fresh (Nat.le_refl _), fun y c e => ?_, fun q hq => (nomatch (show q ∈ ([] : List (Addr × Obj)) from hq)), e0.hok.kept kp, I.len⟩
  · rcases (show Vis scope y from e3) with z | z | z
    · exact absurd (List.mem_of_getElem? e1) (L.own _ (PySem.mem_of_lookup z) rfl)
    · exact absurd rfl (L.nocell _ (PySem.mem_of_lookup z))
    · obtain ⟨m, _, hl⟩ := I.loc
      have fr := L.free _ (PySem.mem_of_lookup z) rfl
      obtain ⟨u, r, q⟩ := hl i y v e1 e2 (fr.elim (fun z => .inr (.inl z)) fun z => .inr (.inr z))
      obtain ⟨c2, h2⟩ := forth z
      have h3 := back h2
      refine ⟨u, r, .inr ⟨.inr z, c2, h2, ?_⟩⟩
      rcases q with ⟨z1, _⟩ | ⟨_, c3, e', z4⟩
      · have z1 : X.env.scope.names.lookup y = some .local := z1
        rcases fr with z2 | z2 <;> (rw [show X.env.scope.names.lookup y = _ from z2] at z1; cases z1)
      · rw [h3] at e'
        cases e'
        exact stays (I.freeC y _ h3) (hex y _ h3) z4
  · obtain ⟨u, z⟩ := I.cell y c (back e)
    exact ⟨u, stays (I.freeC y c (back e)) (hex y c (back e)) z⟩
  · obtain ⟨v, o, ho, _⟩ := I.cell y c (back e)
    exact un.free c o ho (I.freeC y c (back e)) (hex y c (back e))
/-- the lambda of the frame X, as it was at s, is called at s1 -/
theorem lam_run {k : Nat} {F : LamF} {A : Around} {outer : List PySem.Env} {f c' : Addr} {dV : Value} {Q : VK} {E : XK} {tb : TE} (I : Inv X pins σ H s) (L : LamW X.N X.env.scope F.scope) (B : LamBind F) (hq : F.qual = X.env.qual ++ "<lambda>") (e0 : Env0 X.prog X.w X.K X.mg X.base A outer s1 HZ) (hr : Room (k + 1) A)
    (un : Un (frs X.stack) ex H HZ s.heap s1.heap) (hex : ∀ y c, X.env.cells.lookup y = some c → c ∉ ex) (hf : HZ f = some (LamO f F X.env.cells c' dV)) (hc : HZ c' = some (CodeO c' F.qual)) (hd : DflO HZ F dV)
    (hbody : ∀ (A : Around) (outer : List PySem.Env) (s : Shared) (H : Hp), Room k (A.deeper (lamEnv X F.scope s.heap.objs.size f c')) → PE (lamCx X A outer s H E F.scope f c') F.body tb) (ht : tb σ HZ Q) :
    codeAny (model X.prog X.w) A (.call (.ref f) ⟨[], []⟩) (CR (L2.CX X.prog X.w) outer X.prog X.w HZ s1 Q E) s1 := by
  obtain ⟨od, sl, pm, ctv, of1⟩ := lamO_at e0.hok hf
  obtain ⟨⟨oc, vs, t, hoc, hdc, hvc⟩, _, _⟩ := e0.hok c' _ hc
  have lim : s1.heap.NoLimit := e0.mod.nolimit.keeps fun b o e => (e0.bs b o e).1
  have hb : ∃ bs : List (Str × Value), (∀ y ∈ bs, F.scope.names.lookup y.1 = some .local) ∧ BindsTo s1 (lamFn F (cloFrom X.env.cells F.scope.names []) dV pm (.ref c') ctv) ⟨[], []⟩ bs := by
    rcases B with ⟨b1, b2⟩ | ⟨b1, a, b2, b3⟩
    · rcases hd with ⟨_, rfl⟩ | ⟨z, _⟩
      · exact ⟨[], fun y hy => (nomatch hy), BindsTo.of_eq (b2 _ _ _ _)⟩
      · exact absurd b1 z
    · rcases hd with ⟨z, _⟩ | ⟨_, T, n, rfl, hT⟩
      · exact absurd z b1
      · obtain ⟨_, us, ru, oT, hoT, _, mm, hdT⟩ := e0.hok T _ hT
        obtain ⟨kk, k1, k2⟩ := b3 T (cloFrom X.env.cells F.scope.names []) pm (.ref c') ctv
        cases ru with
        | cons r1 r2 =>
          cases r2
          rename_i u
          exact ⟨[(a, u)], fun y hy => by rw [List.mem_singleton.mp hy]; exact b2, BindsTo.of_defaults rfl hoT hdT k1 (k2 u)⟩
  obtain ⟨bs, hl, hb⟩ := hb
  refine PySem.W.kla_callFunE hr.depth of1 rfl L.co L.gen rfl ⟨c', oc, vs, t, rfl, hoc, hdc, hvc⟩ (hb _ _ _ _ ?_)
  refine wpAny_newFunctionEnv L.nocell hl (fun h₁ hns hsb => ⟨lim.fresh _ hsb, ?_⟩) L.kind
  have kp : ∀ b o, s1.heap.get? b = some o → h₁.get? b = some o := fun b o e => hsb.extBut b o (Nat.ne_of_lt (Heap.lt_size e)) (Heap.get?_push_of_some _ e)
  have J := lam_startG (E := E) (f := f) (c' := c') (tk := s1.toks + bs.length) I L e0 hr.hd un hex hns kp
  show codeAny _ _ (.expr F.body (PySem.W.envX F.qual F.scope s1.heap.objs.size f (.ref c') (cloFrom X.env.cells F.scope.names []))) _ _
  rw [hq]
  refine PySem.W.kla_codeExpr (wpAny_mono ((hbody A outer s1 HZ (hr.deeper _)).run [] _ σ HZ Q J ht) (fun v s' z => ?_) fun e s' z => z)
  obtain ⟨w', H', J', rv, q⟩ := z
  exact ⟨w', H', J'.os, J'.bare, J'.base, J'.hok, rv, q⟩
end
/-! ### several clauses 'except x as n' -/
/-- behind the suite the name is gone -/
def offI (i : Nat) (D : Ends) : Ends := { nx := fun σ H => D.nx (σ.set i none) H, rt := D.rt, bk := fun σ H => D.bk (σ.set i none) H, ct := fun σ H => D.ct (σ.set i none) H }
abbrev ClT := Value × (Addr → Value → Option Addr → TS)
def wAll (K : PySem.W.Frag) (Wout : WX) (i : Nat) (D : Ends) : List ClT → WX
  | [] => Wout
  | q :: r => fun cls d σ H => ∃ b, PySem.W.exmOne K cls q.1 = some b ∧ (b = true → ∀ a, H a = none → q.2 a cls d (offI i D) (σ.set i (some (.ref a))) H) ∧ (b = false → wAll K Wout i D r cls d σ H)
/-- the clauses, each with its suite's reading -/
inductive HdsA (X : Cx) (n : Str) : List ExceptHandler → List ClT → Prop
  | nil : HdsA X n [] []
  | cons {x : Str} {q : ClT} {b₀ : Stmt} {suite : List Stmt} {np pos' : Pos} {hds : List ExceptHandler} {l : List ClT} (hc : Names X x q.1)
      (hsu : ∀ (a : Addr) (oe : Obj) (cls : Value) (d : Option Addr) (pn : List (Addr × Obj)), Zc cls d oe → (∃ vs, oe.data = .fields vs) → PSs (X.suite a ((a, oe) :: pn)) (b₀ :: suite) (q.2 a cls d)) (r : HdsA X n hds l) :
      HdsA X n (.ExceptHandler (some (.Name x np)) (some n) (b₀ :: suite) pos' :: hds) (q :: l)
section
variable {X : Cx} {n : Str} {i : Nat} {body : List Stmt} {h₀ : ExceptHandler} {hds : List ExceptHandler} {l : List ClT} {pos : Pos} {tb : WX → TS} {Wout : WX}
theorem ps_try_all (hs : X.stack = X.env :: X.outer) (hf : X.env.frame = some X.env.locals) (hN : X.N.Nodup) (hi : X.N[i]? = some n) (hln : X.env.kindOf n = some .local) (tk : Takes X Wout)
    (hb : ∀ (W : WX) (pn : List (Addr × Obj)) (xe : Value → Shared → Prop), Takes (X.tr pn xe) W → PassesOwn (model X.prog X.w) X.A X.env xe → PSs (X.tr pn xe) body (tb W))
    (hh : HdsA X n (h₀ :: hds) l) : PS X (.Try body (h₀ :: hds) [] [] pos) (fun D σ H => tb (wAll X.K Wout i D l) D σ H) := by
  refine ⟨fun pins s σ H D I h => wpAny_Try_except (wpAny_mono ((hb (wAll X.K Wout i D l) (X.pn ++ pins) _ (fun u s' xx => ?_) PassesOwn.looking).run [] s σ H D (I.toTry _) h) (fun f s1 z => ?_) fun e s1 z => z)⟩
  · have ok := I.ok
    have fr : X.A.frames = some (X.env :: X.outer) := by rw [ok.frames, hs]
    obtain ⟨a, B, sI, pins', σ', H', cls, d, rfl, J', nb, up, sky, na, os, ag, w⟩ := xx
    have J : Inv X pins σ' H' sI := J'.ofTry ok
    rw [hs] at sky
    show wpAny (model X.prog X.w) X.A (noteFrame (.ref a) X.env) _ _ _
    refine Sky.land Zc.steady fr hf sky fun h3 fl3 up3 => ?_
    obtain ⟨oe3, vs3, he3, hz3, hd3⟩ := fl3.there
    have out : a ∉ frs (X.env :: X.outer) := fun hm => by
      obtain ⟨_, o', e', hnf⟩ := fl3.2.2.1.mem hm
      rw [he3] at e'
      cases e'
      exact hnf _ hd3
    have nL : a ≠ X.env.locals := fun z => out (List.mem_filterMap.mpr ⟨X.env, List.mem_cons_self, by rw [hf, z]⟩)
    have nF : a ∉ X.fs := fun hm => by
      obtain ⟨e, he, q⟩ := List.mem_filterMap.mp hm
      exact out (List.mem_filterMap.mpr ⟨e, List.mem_cons_of_mem _ he, q⟩)
    have J3 : Inv X pins σ' H' { s' with heap := h3 } := J.landed nb fl3.1 (up.trans up3) os ag
    have S3 := J3.suite he3 hd3 na nL nF
    suffices go : ∀ {hs' : List ExceptHandler} {l' : List ClT}, HdsA X n hs' l' → wAll X.K Wout i D l' cls d σ' H' → wpAny (model X.prog X.w) X.A (handleBy (.ref a) X.env hs') (SP X pins D) X.xe { s' with heap := h3 } from go hh w
    intro hs' l' hk
    induction hk with
    | nil =>
      intro w
      refine wpAny_handleBy_nil ?_
      obtain ⟨k1, k2, k3, oe, vs, T, oT, ts', he, hz, hd, h1, hr⟩ := id fl3
      have fin : wpAny (model X.prog X.w) X.A (setFlight (.ref a) X.env.frame) (fun _ s4 => wpAny (model X.prog X.w) X.A (throw (.ref a) : Sem Flow) (SP X pins D) X.xe s4) X.xe { s' with heap := h3 } := by
        rw [hf]
        exact HandSPX.setFlight_upZ fl3 fun h4 hh4 up4 => wpAny_throw (tk _ _ ⟨a, B, sI, pins, σ', H', cls, d, rfl, J, nb, (up.trans up3).trans up4, .inr (.inr (by rw [hs]; exact hh4)), na, os, ag, w⟩)
      unfold PySem.passOn
      refine wpAny_bind (wpAny_field he hd h1 ?_)
      rw [if_neg (show ¬ ((Value.ref T == Value.none) = true) from by simp)]
      first
        | exact wpAny_bind (wpAny_pure (wpAny_bind fin))
        | exact wpAny_bind fin
    | @cons x q b₀ suite np pos' hds2 l2 hc hsu r ih =>
      intro w
      obtain ⟨b, hb1, hyes, hno⟩ := w
      have LT : PySem.W.Looks (model X.prog X.w) h3 (typeOf (.ref a)) cls := fun A Q E s k z => wpAny_typeOf_ref (k _ _ he3) (by rw [hz3.1]; exact z)
      have LM := PySem.W.exm_one (M := model X.prog X.w) J3.kIn LT hb1
      have seen : ∀ {Q : Value → Shared → Prop} {E : Value → Shared → Prop}, Q q.1 { s' with heap := h3 } → wpAny (model X.prog X.w) (X.A.mark (some (.ref a))) (eval (.Name x np) X.env) Q E { s' with heap := h3 } := by
        intro Q E z
        obtain ⟨hg, hdb, hm | ⟨hm, hv, hnn⟩⟩ := hc
        · exact ld_glob (X := X.suite a ((a, oe3) :: (X.pn ++ pins))) S3 hg hm z hdb
        · exact ld_blt (X := X.suite a ((a, oe3) :: (X.pn ++ pins))) S3 hg hm hv z hnn hdb
      refine wpAny_handleBy_cons (codeAny_handlers_test (seen (LM.here ?_))) (by intro z; cases z)
      cases b with
      | false => exact ih (hno rfl)
      | true =>
        refine codeAny_handlers_suite_as (HandSPX.lands_againZ fl3 fun h4 fl4 up4 => ?_)
        obtain ⟨oe4, vs4, he4, hz4, hd4⟩ := fl4.there
        have J4 : Inv X pins σ' H' { s' with heap := h4 } := J.landed nb fl4.1 ((up.trans up3).trans up4) os ag
        have S4 := J4.suite he4 hd4 na nL nF
        refine store_ok (X := X.suite a ((a, oe4) :: (X.pn ++ pins))) (v := .ref a) S4 hN hi (.inl hln) rfl (fun s5 S5 => ?_) (.inr hln)
        refine wpAny_mono ((hsu a oe4 cls d (X.pn ++ pins) hz4 ⟨_, hd4⟩).run [] s5 _ H' _ S5 (hyes rfl a na)) (fun f s6 z => ?_) fun _ _ z => z.elim
        cases f with
        | next => obtain ⟨σ6, H6, S6, q6⟩ := z; exact gone_ok (S6.unsuite ok) hN hi hln fun s7 J7 => ⟨_, _, J7, q6⟩
        | brk => obtain ⟨σ6, H6, S6, q6⟩ := z; exact gone_ok (S6.unsuite ok) hN hi hln fun s7 J7 => ⟨_, _, J7, q6⟩
        | cont => obtain ⟨σ6, H6, S6, q6⟩ := z; exact gone_ok (S6.unsuite ok) hN hi hln fun s7 J7 => ⟨_, _, J7, q6⟩
        | ret u => obtain ⟨v6, σ6, H6, S6, r6, q6⟩ := z; exact gone_ok (S6.unsuite ok) hN hi hln fun s7 J7 => ⟨_, _, _, J7, r6, q6⟩
  · have ok := I.ok
    cases f with
    | next => obtain ⟨σ', H', J', q⟩ := z; exact wpAny_execs_nil ⟨σ', H', J'.ofTry ok, q⟩
    | brk => obtain ⟨σ', H', J', q⟩ := z; exact ⟨σ', H', J'.ofTry ok, q⟩
    | cont => obtain ⟨σ', H', J', q⟩ := z; exact ⟨σ', H', J'.ofTry ok, q⟩
    | ret u => obtain ⟨v, σ', H', J', r, q⟩ := z; exact ⟨v, σ', H', J'.ofTry ok, r, q⟩
end
end GD
/-! GL2: the exception that is handled; the def that tries. -/
namespace GD
open PySem PySem.Spec PyProof.Rows L2 LamX
instance : DecidableEq XT := fun x y => decidable_of_iff (x.a = y.a ∧ x.C = y.C ∧ x.dd = y.dd) (by cases x; cases y; simp)
/-- p is the exception x -/
structure XPin (x : XT) (p : Addr × Obj) : Prop where
  at_ : p.1 = x.a
  cls : Zc (.ref x.C) (some x.dd) p.2
  flds : ∃ vs, p.2.data = .fields vs
/-- the attributes ats of the class are its instances' own -/
structure XF (K : PySem.W.Frag) (ats : List Str) (C : Addr) : Prop where
  xf : XfC K C
  no : ∀ n ∈ ats, PySem.W.findIn K (.ref C) n = some none
def fXf (x : XT) (n : Str) (f : Ev) : Ev := fun ρ m => (f ρ m).bind fun w m => match w with
  | .d (.xin y ns vs) => if y = x then (match (ns.zip vs).lookup n with
    | some v => .ok (.d v) m
    | none => .bad) else .bad
  | _ => .bad
/-- the context of a def that is called while x is handled -/
structure CcH (X : Cx) (ats : List Str) (x : XT) (k : Nat) : Prop where
  nd : X.N.Nodup
  room : L2H.RoomH k X.A
  pin : ∃ p, XPin x p ∧ p ∈ X.pn
  xf : XF X.K ats x.C
theorem op_inH {X : Cx} {k : Nat} (hr : L2H.RoomH k X.A) : OpR X (compareOp .In) (rInU X.K) := OpR.or (OpR.or (op_inD (by have := hr.un; omega)) (op_inTup (by have := hr.un; omega))) op_in_sign
theorem op_eqH {X : Cx} {k : Nat} (hr : L2H.RoomH k X.A) : OpR X (compareOp .Eq) (rEqU X.K) := OpR.or op_eq (op_eqD (by have := hr.un; omega))
section
variable {X : Cx} {Wx : WX} {kk : Nat}
theorem pd_xf {x : XT} {ats : List Str} {n : Str} {e : Expr} {pos : Pos} {f : Ev} (c : CcH X ats x kk) (hn : n ∈ ats) (he : PE X e (tD X.K X.mg Wx f)) (hb : attributeBase e n X.env (eval e X.env) = eval e X.env := by rfl) : PE X (.Attribute e n pos) (tD X.K X.mg Wx (fXf x n f)) := by
  refine ⟨fun pins s σ H Q I h => ?_⟩
  obtain ⟨Hi, ι, ρ, m, RR, g⟩ := h
  refine attr_of hb (thn (he.run pins s σ H (fun v H1 => ∃ (fs : List (Str × V)) (u : V), v = .ref x.a ∧ H1 x.dd = some (.xd fs) ∧ fs.lookup n = some u ∧ Q u H1) I ⟨Hi, ι, ρ, m, RR, good_bind g fun w m1 Hi1 ι1 v H1 st M rv g1 => ?_⟩) fun u s1 hh => ?_)
  · split at g1
    case h_2 => exact g1.elim
    rename_i y ns vs
    split at g1
    case isFalse => exact g1.elim
    rename_i hy
    subst hy
    split at g1
    case h_2 => exact g1.elim
    rename_i d hl
    cases rv with
    | xin h1 h2 h3 =>
      rename_i fs
      obtain ⟨u, k1, k2⟩ := fld_some h3 hl
      exact ⟨_, u, rfl, M.sub _ _ h1, k1, g1.here (rep := RepW X.K X.mg) M k2⟩
  · obtain ⟨v, H1, I1, rx, fs, w, ev, ea, l, q⟩ := hh
    subst ev
    obtain rfl : u = Value.ref x.a := rx
    obtain ⟨p, ⟨p1, p2, vs, p3⟩, hp⟩ := c.pin
    obtain ⟨ha, _⟩ := I1.pin p (List.mem_append_left _ hp)
    rw [p1] at ha
    have hx : ObjOk X.prog X.w H1 s1.heap x.dd (.xd fs) := I1.hok x.dd _ ea
    obtain ⟨mA, hns, hr⟩ := hx
    obtain ⟨od, ho, hl⟩ := lookIn_ns hns
    obtain ⟨u, hu, ru⟩ := RelO.some_of (v := w) (o := mA n) (by rw [← l]; exact hr n)
    have J : PySem.W.InstAt s1.heap x.a p.2 x.C (some od) := ⟨ha, p2.1, by unfold PySem.W.notCls; rw [p3] <;> rfl, by rw [p2.2]; exact ho⟩
    exact HandSPX.exc_get I1.kIn J c.xf.xf.ga c.xf.xf.gg c.xf.xf.exC (PySem.W.findObj_own c.xf.xf.hdC (c.xf.no n hn) rfl (by rw [hl, hu])) (handed_of ru) ⟨w, H1, I1.tok _, ru, q⟩
end
/-- what the def y promises while an exception is handled -/
structure FieldOk (P : Program) (w : World) (K : PySem.W.Frag) (mg : Str → Option Value) (base : Heap) (y : Str) (ats : List Str) (k : Nat) (g : XT → Fn) : Prop where
  ex : ∃ f, mg y = some (.ref f) ∧ PySem.W.keepIn K (.ref f) = true ∧ ∀ (A : Around) (outer : List PySem.Env) (s : Shared) (H : Hp) (p : Addr × Obj) (x : XT) (Q : VK) (Hi : Hp) (ι : List Addr) (ns : List Str) (vs : List D) (m : Mem),
    L2H.RoomH k A → L2H.PinOk outer H s p → Env0 P w K mg base A outer s H → XPin x p → XF K ats x.C → Mok K mg Hi ι m H → Rep K mg Hi (.ref x.a) (.xin x ns vs) → Good K mg (RepW K mg) W0 [] Hi ι H (g x [.d (.xin x ns vs)] m) Q →
    codeAny (model P w) A (.call (.ref f) ⟨[.ref x.a], []⟩) (CR (L2.CX P w) outer P w H s Q (fun _ _ _ => False)) s
theorem field_ok {P : Program} {w : World} {K : PySem.W.Frag} {mg : Str → Option Value} {base : Heap} {y e : Str} {ats : List Str} {st : Stmt} {N : List Str} {k n : Nat} {b : XT → Ex} (T : TopDef K mg y st) (S : FnScope N [e] (defScope st)) (hn : N.length = n)
    (hb : ∀ (kV doc pm : Value) (an : Option Addr) (cdv ct : Value) (us : List Value), us.length = 1 → bindArgs (PySem.W.fnOf y y (defArgs st) (defBody st) (defScope st) .none kV doc pm an cdv ct) ⟨us, []⟩ = pure (List.zip [e] us))
    (hbody : ∀ (f : Addr) (cdv : Value) (A : Around) (outer : List PySem.Env) (s : Shared) (H : Hp) (p : Addr × Obj) (x : XT), CcH (L2H.cxH (L2.CX P w) P w K mg base N y (defScope st) f cdv A outer s H (fun _ _ _ => False) p) ats x k →
      PSs (L2H.cxH (L2.CX P w) P w K mg base N y (defScope st) f cdv A outer s H (fun _ _ _ => False) p) (defBody st) (tDS K mg W0 (b x))) : FieldOk P w K mg base y ats (k + 1) (fun x => fnOf false 1 n (b x)) := by
  obtain ⟨f, fd, F, hm⟩ := T.ex
  obtain ⟨oc, od, kV, doc, pm, an, cdv, ct, osl, rfl, lk, hcd⟩ := F.ex
  refine ⟨f, hm, F.kp, fun A outer s H p x Q Hi ι ns vs m hr hpin e0 hx hxf M rp g => ?_⟩
  have KX : K.In s.heap := e0.mod.kin.keeps fun b o z => (e0.bs b o z).1
  have lim : s.heap.NoLimit := e0.mod.nolimit.keeps fun b o z => (e0.bs b o z).1
  refine codeAny_call_function hr.depth (KX _ _ lk) rfl S.co S.gen rfl (PySem.W.codeRec_of KX hcd) (BindsTo.of_eq (hb kV doc pm an cdv ct [.ref x.a] rfl) _ _ _ _ ?_)
  refine wpAny_newFunctionEnv_cells S.kind (fun z hz => ?_) fun env he s1 ic => ?_
  · have hz : z = (e, Value.ref x.a) := by simpa using hz
    subst hz
    rcases S.par e (by simp) with q | q
    · exact .inl q
    · exact .inr ⟨q, PySem.W.cellsFrom_some _ _ _ (.inl q)⟩
  subst he
  refine ⟨lim.keeps ic.toInCall.keep, codeAny_func ?_⟩
  have I := L2H.inv_startH (CX := L2.CX P w) (P := P) (w := w) (E := fun _ _ _ => False) (vs := [V.ref x.a]) (us := [Value.ref x.a]) S hpin e0 rfl (.cons rfl .nil) ic
  have C : CcH (L2H.cxH (L2.CX P w) P w K mg base N y (defScope st) f cdv A outer s H (fun _ _ _ => False) p) ats x k := ⟨S.nd, hr.deeper _, ⟨p, hx, List.mem_singleton.mpr rfl⟩, hxf⟩
  have z := body_imp (E := fun _ _ _ => False) (mu := false) (np := 1) (N := N) (b := b x) (vs := [V.ref x.a]) (ws := [.d (.xin x ns vs)]) hn M (.cons rp .nil) g
  refine wpAny_mono ((hbody f cdv A outer s H p x C).run [] s1 _ H _ I z) (fun fl s' hs => ?_) fun _ _ hs => hs
  cases fl with
  | ret u =>
    obtain ⟨v, σ', H', J, rv, q⟩ := hs
    exact ⟨v, H', J.os, J.bare, J.base, J.hok, rv, q⟩
  | next =>
    obtain ⟨σ', H', J, q⟩ := hs
    exact ⟨V.non, H', J.os, J.bare, J.base, J.hok, rfl, q⟩
  | brk =>
    obtain ⟨_, _, _, q⟩ := hs
    exact q.elim
  | cont =>
    obtain ⟨_, _, _, q⟩ := hs
    exact q.elim
/-! ### the suite -/
/-- return (e.code, y(e)) -/
def tryX (fh : XT → Fn) (x : XT) (ns : List Str) (vs : List D) (m : Mem) : R W := match (ns.zip vs).lookup ("code" : Str) with
  | some code => (fh x [.d (.xin x ns vs)] m).bind fun w m' => match w with
    | .d z => .ok (.d (.tup [code, z])) m'
    | .m _ => .bad
  | none => .bad
def tsX (K : PySem.W.Frag) (mg : Str → Option Value) (ats : List Str) (fh : XT → Fn) (a : Addr) (cls : Value) (d : Option Addr) : TS := fun Ds σ H => ∃ (C dd : Addr) (Hi : Hp) (ι : List Addr) (m : Mem) (ns : List Str) (vs : List D) (fs : List V),
  cls = .ref C ∧ d = some dd ∧ σ[1]? = some (some (.ref a)) ∧ XF K ats C ∧ Mok K mg Hi ι m H ∧ Hi dd = some (.xd (ns.zip fs)) ∧ ns.length = fs.length ∧ RepL K mg Hi fs vs ∧ Good K mg (RepW K mg) W0 [] Hi ι H (tryX fh ⟨a, C, dd⟩ ns vs m) Ds.rt
theorem try_suite {X : Cx} {y e : Str} {ats : List Str} {k : Nat} {fh : XT → Fn} {a : Addr} {oe : Obj} {cls : Value} {d : Option Addr} {pn : List (Addr × Obj)} {p1 p2 p3 p4 p5 p6 p7 : Pos} {j : Nat} (F : FieldOk X.prog X.w X.K X.mg X.base y ats k fh) (hr : Room k X.A) (hcode : ("code" : Str) ∈ ats) (hN : X.N[1]? = some e) (hv : Vis X.env.scope e)
    (hg : Gl X y) (hz : Zc cls d oe) (hf : ∃ vs, oe.data = .fields vs) (hd : (e == ("__debug__" : Str)) = false) (hcd : (e == ("__classdict__" : Str)) = false) (hdy : (y == ("__debug__" : Str)) = false) :
    PSs (X.suite a ((a, oe) :: pn)) [.Return (some (.Tuple [.Attribute (.Name e p1) "code" p2, .Call (.Name y p3) [.Name e p4] [] p5] j p6)) p7] (tsX X.K X.mg ats fh a cls d) := by
  refine ⟨fun pins s σ H D I h => ?_⟩
  obtain ⟨C, dd, Hi, ι, m, ns, vs, fs, rfl, rfl, hs, hxf, M, hdd, hl, rl, g⟩ := h
  obtain ⟨f, hm, hk, run⟩ := F.ex
  have hvar : ∀ p : Pos, PE (X.suite a ((a, oe) :: pn)) (.Name e p) (tVar 1) := fun p => pe_var hN hv hd hcd
  have h1 : PE (X.suite a ((a, oe) :: pn)) (.Attribute (.Name e p1) "code" p2) (tXf a (.ref C) (some dd) C "code" (tVar 1)) := pe_xf hxf.xf (hxf.no _ hcode) hz hf (hvar p1)
  have h2 : PE (X.suite a ((a, oe) :: pn)) (.Call (.Name y p3) [.Name e p4] [] p5) (fun σ H Q => σ[1]? = some (some (.ref a)) ∧ ∃ Hi ι m, Mok X.K X.mg Hi ι m H ∧ Rep X.K X.mg Hi (.ref a) (.xin ⟨a, C, dd⟩ ns vs) ∧ Good X.K X.mg (RepW X.K X.mg) W0 [] Hi ι H (fh ⟨a, C, dd⟩ [.d (.xin ⟨a, C, dd⟩ ns vs)] m) Q) := by
    refine ⟨fun pins s σ H Q I hq => ?_⟩
    obtain ⟨q0, Hi, ι, m, M, rp, g⟩ := hq
    refine wpAny_Call_Name_kw (ld_glob I hg hm ?_ hdy)
    refine PySem.W.callWith_K (h₀ := X.base) I.ok.mod.kin hk (thn ((pa_cons (hvar p4) pa_nil).run p5 pins s σ H (fun xs H1 => xs = [.ref a] ∧ H1 = H) I ⟨_, q0, rfl, rfl⟩) fun us s1 ⟨xs, H1, I1, r, e1, e2⟩ => ⟨I1.kIn, ?_⟩) rfl rfl
    subst e1
    rw [e2] at I1
    cases r with
    | cons r1 r2 =>
      cases r2
      cases r1
      have P1 := I1.pin (a, oe) (List.mem_append_left _ List.mem_cons_self)
      have pk : L2H.PinOk X.stack H s1 (a, oe) := ⟨P1.1, P1.2.1, fun hm => (List.mem_cons.mp (I1.stkSub a hm)).elim P1.2.2.1 P1.2.2.2.1, P1.2.2.2.2⟩
      refine wpAny_call (codeAny_mono (run _ X.stack s1 H (a, oe) ⟨a, C, dd⟩ Q Hi ι ns vs m ⟨hr.dp, hr.un⟩ pk I1.env0 ⟨rfl, hz, hf⟩ hxf M rp g) fun r s' z => ?_)
      cases r with
      | error er =>
        obtain ⟨_, _, _, _, _, _, _, _, _, _, _, _, z⟩ := z
        exact z.elim
      | ok fl =>
        cases fl with
        | ret u => exact I1.after z
        | next => exact z.elim
        | brk => exact z.elim
        | cont => exact z.elim
  refine (pss_one (ps_ret (pe_tup (pa_cons h1 (pa_cons h2 pa_nil))))).run pins s σ H D I ?_
  unfold tryX at g
  split at g
  case h_2 => exact g.elim
  rename_i code hc
  obtain ⟨u, k1, k2⟩ := fld_some rl hc
  have rx : Rep X.K X.mg Hi (.ref a) (.xin ⟨a, C, dd⟩ ns vs) := Rep.xin (x := ⟨a, C, dd⟩) hdd hl rl
  refine ⟨.ref a, hs, rfl, rfl, dd, ns.zip fs, u, rfl, M.sub _ _ hdd, k1, hs, Hi, ι, m, M, rx, good_bind g fun w m1 Hi1 ι1 v H1 st M1 rv g1 => ?_⟩
  cases w with
  | m _ => exact g1.elim
  | d z =>
    refine ⟨by show 2 ≤ sizeLine; rw [sizeLine_eq]; decide, fun p hp => ?_⟩
    obtain ⟨M2, st2⟩ := M1.newD (o := .tup [u, v]) hp
    exact g1 _ _ _ _ st2 M2 (.tup (.inl (.inl upd_same)) (.cons (Rep.mono (st.imm.trans st2.imm) k2) (.cons (Rep.mono st2.imm rv) .nil)))
/-! ### the def -/
open Classical in
/-- what is the same for every exception -/
noncomputable def allX (f : XT → R W) : R W := if h : ∃ r, ∀ x, f x = r then h.choose else .bad
theorem allX_eq {f : XT → R W} {r : R W} (h : ∀ x, f x = r) : allX f = r := by
  have z : ∃ r, ∀ x, f x = r := ⟨r, h⟩
  unfold allX
  rw [dif_pos z]
  exact (z.choose_spec ⟨0, 0, 0⟩).symm.trans (h _)
theorem allX_at {f : XT → R W} (x : XT) : f x = allX f ∨ allX f = .bad := by
  unfold allX
  by_cases z : ∃ r, ∀ x, f x = r
  · rw [dif_pos z]
    exact .inl (z.choose_spec x)
  · rw [dif_neg z]
    exact .inr rfl
/-- cs: the errors that are caught -/
noncomputable def tryR (cs : List Str) (fh : XT → Fn) (r : R W) : R W := match r with
  | .ok (.d v) m => .ok (.d (.tup [.str "value", v])) m
  | .ok (.m _) _ => .bad
  | .exc c ns vs m => if c ∈ cs then allX (fun x => tryX fh x ns vs m) else .bad
  | .bad => .bad
/-- the error c is caught by 'except b1' or, if not, by 'except b2' -/
structure TryC (K : PySem.W.Frag) (mg : Str → Option Value) (b1 b2 : Str) (ats : List Str) (c : Str) : Prop where
  ex : ∃ C C1 C2, mg c = some (.ref C) ∧ mg b1 = some (.ref C1) ∧ mg b2 = some (.ref C2) ∧ XF K ats C ∧ (PySem.W.exmOne K (.ref C) (.ref C1) = some true ∨ (PySem.W.exmOne K (.ref C) (.ref C1) = some false ∧ PySem.W.exmOne K (.ref C) (.ref C2) = some true))
def trySuite (e fld : Str) (q2 q3 q4 q5 q6 q7 q8 : Pos) (j : Nat) : List Stmt := [.Return (some (.Tuple [.Attribute (.Name e q2) "code" q3, .Call (.Name fld q4) [.Name e q5] [] q6] j q7)) q8]
def tryBody (a e fld b1 b2 : Str) (p1 p2 p3 p4 p5 p6 q1 q2 q3 q4 q5 q6 q7 q8 q9 r1 r2 r3 r4 r5 r6 r7 r8 r9 : Pos) (j1 j2 j3 j4 : Nat) : List Stmt :=
  [.Try [.Return (some (.Tuple [.Constant (.str "value") j1 p1, .Call (.Name a p2) [] [] p3] j2 p4)) p5]
    [.ExceptHandler (some (.Name b1 q1)) (some e) (trySuite e fld q2 q3 q4 q5 q6 q7 q8 j3) q9, .ExceptHandler (some (.Name b2 r1)) (some e) (trySuite e fld r2 r3 r4 r5 r6 r7 r8 j4) r9] [] [] p6]
/-- what is known of the def y that tries -/
structure TryDef (K : PySem.W.Frag) (mg : Str → Option Value) (y a e fld b1 b2 : Str) (st : Stmt) : Prop where
  top : TopDef K mg y st
  sc : FnScope [a, e] [a] (defScope st)
  bind : ∀ (kV doc pm : Value) (an : Option Addr) (cdv ct : Value) (us : List Value), us.length = 1 → bindArgs (PySem.W.fnOf y y (defArgs st) (defBody st) (defScope st) .none kV doc pm an cdv ct) ⟨us, []⟩ = pure (List.zip [a] us)
  body : ∃ p1 p2 p3 p4 p5 p6 q1 q2 q3 q4 q5 q6 q7 q8 q9 r1 r2 r3 r4 r5 r6 r7 r8 r9 j1 j2 j3 j4, defBody st = tryBody a e fld b1 b2 p1 p2 p3 p4 p5 p6 q1 q2 q3 q4 q5 q6 q7 q8 q9 r1 r2 r3 r4 r5 r6 r7 r8 r9 j1 j2 j3 j4
  la : (defScope st).names.lookup a = some .local
  le : (defScope st).names.lookup e = some .local
  g1 : (defScope st).names.lookup b1 = some .globalImplicit
  g2 : (defScope st).names.lookup b2 = some .globalImplicit
  gf : (defScope st).names.lookup fld = some .globalImplicit
  db : [a, e, fld, b1, b2].all (fun z => !(z == ("__debug__" : Str)) && !(z == ("__classdict__" : Str))) = true
  cls : ∃ C1 C2, mg b1 = some (.ref C1) ∧ mg b2 = some (.ref C2)
/-- the lambda i of the frame X: its body's mirror f -/
structure LamAt (X : Cx) (F : LamF) (k : Nat) (f : Ev) : Prop where
  w : LamW X.N X.env.scope F.scope
  b : LamBind F
  q : F.qual = X.env.qual ++ "<lambda>"
  run : ∀ (A : Around) (outer : List PySem.Env) (s : Shared) (H : Hp) (E : XK) (fa c' : Addr), Cc (lamCx X A outer s H E F.scope fa c') (fun c d _ H' => E c d H') k → PE (lamCx X A outer s H E F.scope fa c') F.body (tD X.K X.mg (fun c d _ H' => E c d H') f)
theorem not_of {l : List Str} {z : Str} (h : l.all (fun z => !(z == ("__debug__" : Str)) && !(z == ("__classdict__" : Str))) = true) (hz : z ∈ l) : (z == ("__debug__" : Str)) = false ∧ (z == ("__classdict__" : Str)) = false := by
  have q := List.all_eq_true.mp h z hz
  simpa using q
section
variable {X : Cx} {pins : List (Addr × Obj)} {σ : L2.St} {HM H : Hp} {sM s : Shared} {ex : List Addr}
theorem try_run {y a e fld b1 b2 : Str} {st : Stmt} {ats cs : List Str} {k kf i : Nat} {fh : XT → Fn} {f : Ev} {Z : LamZ} {fa : Addr} {Q : VK} {Hi : Hp} {ι : List Addr} {ρ : Env} {m : Mem} (T : TryDef X.K X.mg y a e fld b1 b2 st) (FF : FieldOk X.prog X.w X.K X.mg X.base fld ats kf fh) (hcode : ("code" : Str) ∈ ats) (hcs : ∀ c ∈ cs, TryC X.K X.mg b1 b2 ats c)
    (IM : Inv X pins σ HM sM) (e0 : Env0 X.prog X.w X.K X.mg X.base X.A X.stack s H) (un : Un (frs X.stack) ex HM H sM.heap s.heap) (hex : ∀ y c, X.env.cells.lookup y = some c → c ∉ ex) (hN : X.N.Nodup) (hr : Room (k + 2) X.A) (hkf : kf ≤ k + 1) (hC : X.env.cells = Z.C) (L : LamAt X (Z.F i) k f)
    (M : Mok X.K X.mg Hi ι m H) (hS : RepS X.K X.mg Hi ι ρ σ) (hl : Rep X.K X.mg Hi (.ref fa) (.lam i Z)) (g : Good X.K X.mg (RepW X.K X.mg) W0 [] Hi ι H (tryR cs fh (f ρ m)) Q) :
    ∃ gf, X.mg y = some (.ref gf) ∧ PySem.W.keepIn X.K (.ref gf) = true ∧ codeAny (model X.prog X.w) X.A (.call (.ref gf) ⟨[.ref fa], []⟩) (CR C8.CX0 X.stack X.prog X.w H s Q C8.E0) s := by
  obtain ⟨gf, fd, F, hm⟩ := T.top.ex
  obtain ⟨oc, od, kV, doc, pm, an, cdv, ct, osl, rfl, lk, hcd⟩ := F.ex
  obtain ⟨p1, p2, p3, p4, p5, p6, q1, q2, q3, q4, q5, q6, q7, q8, q9, r1, r2, r3, r4, r5, r6, r7, r8, r9, j1, j2, j3, j4, hbd⟩ := T.body
  obtain ⟨C1, C2, hC1, hC2⟩ := T.cls
  have da := not_of T.db (z := a) (by simp)
  have de := not_of T.db (z := e) (by simp)
  have df := not_of T.db (z := fld) (by simp)
  have d1 := not_of T.db (z := b1) (by simp)
  have d2 := not_of T.db (z := b2) (by simp)
  cases hl with
  | lam h1 h2 h3 =>
    rename_i c' dV
    rw [← hC] at h1
    refine ⟨gf, hm, F.kp, run_ofS (k := k + 1) (N := [a, e]) (ps := [a]) (us := [.ref fa]) (vs := [.ref fa]) lk hcd T.sc hr e0 (BindsTo.of_eq (T.bind kV doc pm an cdv ct [.ref fa] rfl)) (.cons rfl .nil) rfl fun hr' => ?_⟩
    obtain ⟨XT', hXT⟩ : ∃ Y : Cx, Y = (cxOf C8.CX0 X.prog X.w X.K X.mg X.base [a, e] y (defScope st) gf cdv X.A X.stack s H C8.E0).nox := ⟨_, rfl⟩
    have gl : ∀ {z : Str}, (defScope st).names.lookup z = some .globalImplicit → Gl XT' z := fun hz => by rw [hXT]; exact hz
    have act : ∀ (W : WX) (pn : List (Addr × Obj)) (xe : Value → Shared → Prop), Takes (XT'.tr pn xe) W →
        PE (XT'.tr pn xe) (.Call (.Name a p2) [] [] p3) (fun σZ HZ Q => σZ[0]? = some (some (.ref fa)) ∧ HZ = H ∧ tD X.K X.mg (fun c d _ H' => W c d σZ H') f σ H Q) := by
      intro W pn xe tk
      subst hXT
      refine ⟨fun pinsZ sZ σZ HZ Q IZ h => ?_⟩
      obtain ⟨hs, rfl, ht⟩ := h
      refine wpAny_Call_Name_kw (thn ((pe_var (pos := p2) (i := 0) rfl (.inl T.la) da.1 da.2).run pinsZ sZ σZ HZ (fun v H1 => v = .ref fa ∧ H1 = HZ) IZ ⟨.ref fa, hs, rfl, rfl⟩) fun u s1 ⟨v, H1, I1, r1, ev, eH⟩ => ?_)
      subst ev eH
      obtain rfl : u = Value.ref fa := r1
      obtain ⟨od1, sl1, pm1, ctv1, of1⟩ := lamO_at I1.hok (M.sub _ _ h1)
      refine PySem.W.callWith_F0 ⟨_, _, _, _, of1⟩ ?_
      have un1 : Un (frs X.stack) ex HM H1 sM.heap s1.heap := un.trans (I1.base.mono (fun b hb => hb) fun b hb => nomatch hb)
      have rc := lam_run (k := k) (E := fun cls d H' => W cls d σZ H') (tb := tD X.K X.mg (fun c d _ H' => W c d σZ H') f) (Q := Q) IM L.w L.b L.q I1.env0 hr' un1 hex (M.sub _ _ h1) (M.sub _ _ h2) (h3.mono M.sub)
        (fun A outer s H hr2 => L.run A outer s H _ fa c' ⟨takes_of rfl rfl rfl rfl, passes_of rfl, hN, rfl, hr2⟩) ht
      refine wpAny_call (codeAny_mono rc fun r s' hq => ?_)
      cases r with
      | error er => exact passAt tk σZ pinsZ H1 s1 er s' I1 hq
      | ok fl =>
        cases fl with
        | ret u => exact I1.after hq
        | next => exact hq.elim
        | brk => exact hq.elim
        | cont => exact hq.elim
    have hrs : Room kf XT'.A := by rw [hXT]; exact hr'.mono hkf
    have FF' : FieldOk XT'.prog XT'.w XT'.K XT'.mg XT'.base fld ats kf fh := by rw [hXT]; exact FF
    have su : ∀ (q2 q3 q4 q5 q6 q7 q8 : Pos) (j : Nat) (a : Addr) (oe : Obj) (cls : Value) (d : Option Addr) (pn : List (Addr × Obj)), Zc cls d oe → (∃ vs, oe.data = .fields vs) → PSs (XT'.suite a ((a, oe) :: pn)) (trySuite e fld q2 q3 q4 q5 q6 q7 q8 j) (tsX XT'.K XT'.mg ats fh a cls d) :=
      fun _ _ _ _ _ _ _ _ a oe cls d pn hz hf => try_suite FF' hrs hcode (by rw [hXT]; rfl) (by rw [hXT]; exact .inl T.le) (gl T.gf) hz hf de.1 de.2 df.1
    have tr := ps_try_all (X := XT') (n := e) (i := 1) (pos := p6) (Wout := fun _ _ _ _ => False)
      (body := [.Return (some (.Tuple [.Constant (.str "value") j1 p1, .Call (.Name a p2) [] [] p3] j2 p4)) p5]) (l := [(.ref C1, tsX XT'.K XT'.mg ats fh), (.ref C2, tsX XT'.K XT'.mg ats fh)])
      (by rw [hXT]; rfl) (by rw [hXT]; rfl) (by rw [hXT]; exact T.sc.nd) (by rw [hXT]; rfl) (by rw [hXT]; exact T.le) takes_none5
      (fun W pn xe tk _ => pss_one (ps_ret (pe_tup (pa_cons pe_str (pa_cons (act W pn xe tk) pa_nil)))))
      (HdsA.cons (q := (.ref C1, tsX XT'.K XT'.mg ats fh)) (np := q1) (pos' := q9) ⟨gl T.g1, d1.1, .inl (by rw [hXT]; exact hC1)⟩ (su q2 q3 q4 q5 q6 q7 q8 j3) (HdsA.cons (q := (.ref C2, tsX XT'.K XT'.mg ats fh)) (np := r1) (pos' := r9) ⟨gl T.g2, d2.1, .inl (by rw [hXT]; exact hC2)⟩ (su r2 r3 r4 r5 r6 r7 r8 j4) .nil))
    refine ⟨_, by rw [hbd]; exact (hXT ▸ (pss_one tr)).nox, ?_⟩
    subst hXT
    refine ⟨rfl, rfl, Hi, ι, ρ, m, ⟨M, hS⟩, ?_⟩
    cases hf : f ρ m with
    | bad => rw [hf] at g; exact g.elim
    | ok w m1 =>
      rw [hf] at g
      cases w with
      | m _ => exact g.elim
      | d v =>
        intro Hi1 ι1 x H1 st1 M1 rv
        refine ⟨by show 2 ≤ sizeLine; rw [sizeLine_eq]; decide, fun p hp => ?_⟩
        obtain ⟨M2, st2⟩ := M1.newD (o := .tup [.str "value", x]) hp
        exact g _ _ _ _ (st1.trans st2) M2 (.tup (.inl (.inl upd_same)) (.cons (.str _) (.cons (Rep.mono st2.imm rv) .nil)))
    | exc c ns vs m1 =>
      rw [hf] at g
      unfold tryR at g
      simp only at g
      split at g
      case isFalse => exact g.elim
      rename_i hc
      obtain ⟨C, C1', C2', hc1, hc2, hc3, hxf, hcase⟩ := (hcs c hc).ex
      rw [hC1] at hc2
      rw [hC2] at hc3
      cases hc2
      cases hc3
      intro Hi1 ι1 H1 C' dx fs st1 M1 hmc hdx hln rl
      rw [hc1] at hmc
      cases hmc
      have fin : ∀ a' : Addr, tsX X.K X.mg ats fh a' (.ref C) (some dx) (offI 1 { nx := fun _ H' => Q .non H', rt := Q }) (List.set (L2.start [a, e] [.ref fa]) 1 (some (.ref a'))) H1 := fun a' => by
        refine ⟨C, dx, Hi1, ι1, m1, ns, vs, fs, rfl, rfl, rfl, hxf, M1, hdx, hln, rl, ?_⟩
        rcases allX_at (f := fun x => tryX fh x ns vs m1) ⟨a', C, dx⟩ with z | z
        · show Good _ _ _ _ _ _ _ _ (tryX fh ⟨a', C, dx⟩ ns vs m1) Q
          rw [show tryX fh ⟨a', C, dx⟩ ns vs m1 = _ from z]
          exact Good.step g st1
        · rw [z] at g
          exact g.elim
      rcases hcase with z | ⟨z1, z2⟩
      · exact ⟨true, z, fun _ a' _ => fin a', fun h => nomatch h⟩
      · exact ⟨false, z1, fun h => (nomatch h), fun _ => ⟨true, z2, fun _ a' _ => fin a', fun h => nomatch h⟩⟩
end
end GD
/-! GL3: y(lambda), [y(a) for a in asks]; where a table comes in. -/
namespace GD
open PySem PySem.Spec PyProof.Rows L2 LamX
open Classical in
/-- y(e), e a lambda of the frame Z: tbl holds the mirrors of the bodies -/
noncomputable def fTry (cs : List Str) (fh : XT → Fn) (Z : LamZ) (tbl : List Ev) (fe : Ev) : Ev := fun ρ m => (fe ρ m).bind fun w m => match w with
  | .d (.lam i Z') => if Z' = Z then (match tbl[i]? with
    | some f => noX (tryR cs fh (f ρ m))
    | none => .bad) else .bad
  | _ => .bad
/-- the lambdas from the i-th on -/
def LamsOk (X : Cx) (Z : LamZ) (k : Nat) : Nat → List Ev → Prop
  | _, [] => True
  | i, f :: r => LamAt X (Z.F i) k f ∧ LamsOk X Z k (i + 1) r
theorem LamsOk.get {X : Cx} {Z : LamZ} {k : Nat} : ∀ {tbl : List Ev} {j i : Nat} {f : Ev}, LamsOk X Z k j tbl → tbl[i]? = some f → LamAt X (Z.F (j + i)) k f
  | [], _, _, _, _, h => by simp at h
  | g :: r, j, 0, f, h, e => by simp at e; subst e; exact h.1
  | g :: r, j, i + 1, f, h, e => by
    have z := LamsOk.get (i := i) h.2 (by simpa using e)
    rw [Nat.add_right_comm, Nat.add_assoc] at z
    exact z
/-- all that is known of the def y that tries -/
structure TryOk (P : Program) (w : World) (K : PySem.W.Frag) (mg : Str → Option Value) (base : Heap) (y : Str) (cs : List Str) (fh : XT → Fn) (kf : Nat) : Prop where
  ex : ∃ a e fld b1 b2 st ats, TryDef K mg y a e fld b1 b2 st ∧ FieldOk P w K mg base fld ats kf fh ∧ ("code" : Str) ∈ ats ∧ ∀ c ∈ cs, TryC K mg b1 b2 ats c
theorem good_no0 {K : PySem.W.Frag} {mg : Str → Option Value} {Wx : WX} {σ : L2.St} {Hi H : Hp} {ι : List Addr} {r : R W} {Q : VK} (g : Good K mg (RepW K mg) Wx σ Hi ι H (noX r) Q) : Good K mg (RepW K mg) W0 [] Hi ι H r Q := by
  cases r with
  | ok a m => exact g
  | exc c ns vs m => exact g.elim
  | bad => exact g
section
variable {X : Cx} {Wx : WX} {kk : Nat}
/-- y(fa), from a state in which the frame X stands as it did at sM -/
theorem try_at {y : Str} {cs : List Str} {fh : XT → Fn} {k kf i : Nat} {Z : LamZ} {tbl : List Ev} {f : Ev} {fa : Addr} {pins : List (Addr × Obj)} {σ : L2.St} {HM H : Hp} {sM s : Shared} {ex : List Addr} {Q : VK} {Hi : Hp} {ι : List Addr} {ρ : Env} {m : Mem}
    (T : TryOk X.prog X.w X.K X.mg X.base y cs fh kf) (LC : X.env.cells = Z.C) (L : LamsOk X Z k 0 tbl) (hN : X.N.Nodup) (hr : Room (k + 2) X.A) (hkf : kf ≤ k + 1) (hi : tbl[i]? = some f)
    (IM : Inv X pins σ HM sM) (e0 : Env0 X.prog X.w X.K X.mg X.base X.A X.stack s H) (un : Un (frs X.stack) ex HM H sM.heap s.heap) (hex : ∀ y c, X.env.cells.lookup y = some c → c ∉ ex)
    (M : Mok X.K X.mg Hi ι m H) (hS : RepS X.K X.mg Hi ι ρ σ) (hl : Rep X.K X.mg Hi (.ref fa) (.lam i Z)) (g : Good X.K X.mg (RepW X.K X.mg) W0 [] Hi ι H (tryR cs fh (f ρ m)) Q) :
    ∃ gf, X.mg y = some (.ref gf) ∧ PySem.W.keepIn X.K (.ref gf) = true ∧ codeAny (model X.prog X.w) X.A (.call (.ref gf) ⟨[.ref fa], []⟩) (CR C8.CX0 X.stack X.prog X.w H s Q C8.E0) s := by
  obtain ⟨a, e, fld, b1, b2, st, ats, TD, FF, hcode, hcs⟩ := T.ex
  have z := L.get hi
  rw [Nat.zero_add] at z
  exact try_run TD FF hcode hcs IM e0 un hex hN hr hkf LC z M hS hl g
theorem TryOk.at_ {P : Program} {w : World} {K : PySem.W.Frag} {mg : Str → Option Value} {base : Heap} {y : Str} {cs : List Str} {fh : XT → Fn} {kf : Nat} (T : TryOk P w K mg base y cs fh kf) : ∃ gf, mg y = some (.ref gf) ∧ PySem.W.keepIn K (.ref gf) = true := by
  obtain ⟨a, e, fld, b1, b2, st, ats, TD, FF, hcode, hcs⟩ := T.ex
  obtain ⟨f, fd, F, hm⟩ := TD.top.ex
  exact ⟨f, hm, F.kp⟩
theorem pd_try {y : Str} {cs : List Str} {fh : XT → Fn} {k kf : Nat} {Z : LamZ} {P : Addr} {tbl : List Ev} {e : Expr} {fe : Ev} {p pos : Pos} (c : Cc X Wx kk) (T : TryOk X.prog X.w X.K X.mg X.base y cs fh kf) (LC : LamC X Z P) (L : LamsOk X Z k 0 tbl) (hk : k + 2 ≤ kk) (hkf : kf ≤ k + 1) (hg : Gl X y) (he : PE X e (tD X.K X.mg Wx fe))
    (hdb : (y == ("__debug__" : Str)) = false := by decide) (hst : starEach [e] X.env = (false, eval e X.env) :: starEach [] X.env := by rfl) : PE X (.Call (.Name y p) [e] [] pos) (tD X.K X.mg Wx (fTry cs fh Z tbl fe)) := by
  refine ⟨fun pins s σ H Q I h => ?_⟩
  obtain ⟨Hi, ι, ρ, m, RR, g⟩ := h
  obtain ⟨gf, hm, hkp⟩ := T.at_
  refine wpAny_Call_Name_kw (ld_glob I hg hm ?_ hdb)
  refine PySem.W.callWith_K (h₀ := X.base) I.ok.mod.kin hkp (thn ((pa_cons he pa_nil hst).run pos pins s σ H (fun xs H1 => ∃ fa Hi1 ι1 m1 i f, xs = [.ref fa] ∧ Mok X.K X.mg Hi1 ι1 m1 H1 ∧ RepS X.K X.mg Hi1 ι1 ρ σ ∧ Rep X.K X.mg Hi1 (.ref fa) (.lam i Z) ∧ tbl[i]? = some f ∧ Good X.K X.mg (RepW X.K X.mg) W0 [] Hi1 ι1 H1 (tryR cs fh (f ρ m1)) Q) I
    ⟨Hi, ι, ρ, m, RR, good_bind g fun w m1 Hi1 ι1 v H1 st M rv g1 => ?_⟩) fun us s1 ⟨xs, H1, I1, r, q⟩ => ⟨I1.kIn, ?_⟩) hst rfl
  · split at g1
    case h_2 => exact g1.elim
    rename_i i Z'
    split at g1
    case isFalse => exact g1.elim
    rename_i hZ
    subst hZ
    split at g1
    case h_2 => exact g1.elim
    rename_i f hf
    cases rv with
    | lam h1 h2 h3 =>
      rename_i fa c' dV
      exact ⟨fa, Hi1, ι1, m1, i, f, rfl, M, RR.slots.step st, .lam h1 h2 h3, hf, good_no0 g1⟩
  · obtain ⟨fa, Hi1, ι1, m1, i, f, rfl, M, hS, hl, hi, g1⟩ := q
    cases r with
    | cons r1 r2 =>
      cases r2
      cases r1
      obtain ⟨gf', hm', _, rc⟩ := try_at (ex := []) T LC.cells L c.nd (c.room.mono hk) hkf hi I1 I1.env0 Un.refl (fun _ _ _ z => nomatch z) M hS hl g1
      rw [hm] at hm'
      cases hm'
      refine wpAny_call (codeAny_mono rc fun r s' z => ?_)
      cases r with
      | error er => exact (show False from z).elim
      | ok fl =>
        cases fl with
        | ret u => exact I1.after z
        | next => exact z.elim
        | brk => exact z.elim
        | cont => exact z.elim
/-! ### a comprehension whose element needs to know the frame -/
theorem lc_frame {pins : List (Addr × Obj)} {s : Shared} {σ : L2.St} {H : Hp} {Q : VK} {elt tg iter : Expr} {ifs : List Expr} {scope : Scope} {own : List (Str × Nat)} {pos pos' : Pos} {wi : TI} {g : TG} {tt : TT} {te : TE} {Qf : Value → Shared → Prop}
    (hc : X.calm = true) (hN : X.N.Nodup) (I : Inv X pins σ H s) (hi : PI X tg iter wi) (ok : BlkOk X.N X.env.scope scope own)
    (hg : ∀ (s : Shared) (H : Hp) (C : Addr) (cl : List (Str × Addr)) (fp : List Addr), PG (X.blk s H scope (compEnvC scope cl C X.env) fp) tg g) (ht : ∀ (s : Shared) (H : Hp) (C : Addr) (cl : List (Str × Addr)) (fp : List Addr), PTs (X.blk s H scope (compEnvC scope cl C X.env) fp) ifs tt)
    (he : ∀ (s : Shared) (H : Hp) (C : Addr) (cl : List (Str × Addr)) (fp : List Addr), Inv X pins σ H s → (∀ b ∈ fp, ∀ y c, X.env.cells.lookup y = some c → c ≠ b) → PE (X.blk s H scope (compEnvC scope cl C X.env) fp) elt te) (hs : ∀ x, foldedSetIterable iter X.env x = pure x)
    (h : tLc wi g tt te (own.map (·.2)) σ H Q)
    (hRR : ∀ D C s' m H', Inv X pins σ H' s' → Q (.ref D) H' → s'.heap.Ns C m → FpOk X pins H' C → compPost (model X.prog X.w) X.A X.xe none Qf (.ref D) C (.ok .next) s') :
    wpAny (model X.prog X.w) X.A (comprehension (.ListComp elt [⟨tg, iter, ifs, 0⟩] scope pos) scope X.env pos' (newList []) false (eval iter X.env) none) Qf X.xe s := by
  have hfree : ∀ y ∈ scope.names, y.2 = .free → ∃ c, X.env.cells.lookup y.1 = some c := fun y hy e => (ok.free y hy e).elim (fun z => I.ok.has _ (.inl z)) fun z => I.ok.has _ (.inr z)
  refine wpAny_comprehension_free (use := none) rfl hs (closure_ok hfree) ok.kind (fun y hy e => by rw [ok.uniq y hy, e]) (thn (hi.run pins s σ H _ I h) fun xv s1 hx => thn hx fun itv s2 h2 => ?_)
  obtain ⟨it, fp, tn, J, H2, rfl, I2, T, st2, f2, q⟩ := h2
  refine wpAny_newObj_type (newEnv_comp ?_) (by show 0 ≤ sizeLine; decide)
  obtain ⟨D, hD⟩ : ∃ D, D = s2.heap.objs.size := ⟨_, rfl⟩
  rw [← hD]
  have hDn : H2 D = none := I2.hok.fresh (Nat.le_of_eq hD.symm)
  obtain ⟨Wt, ⟨m0, w0⟩, turn⟩ := q D hDn
  obtain ⟨s3, hs3⟩ : ∃ z : Shared, z = { s2 with heap := s2.heap.push { cls := .type "list", data := .seq ([] : List Value).toArray } } := ⟨_, rfl⟩
  obtain ⟨H3, hH3⟩ : ∃ z : Hp, z = upd H2 D (.lst []) := ⟨_, rfl⟩
  have e3 : s3.heap = s2.heap.push { cls := .type "list", data := .seq ([] : List Value).toArray } := by rw [hs3]
  have I3 : Inv X pins σ H3 s3 := by
    rw [hs3, hH3]
    exact I2.laid (t' := s2.toks) (fun b o e => Heap.get?_push_of_some _ e) (Nat.le_of_eq hD.symm) ⟨Nat.zero_le _, [], 0, .nil, by rw [hD]; exact Heap.get?_push_size _ rfl⟩
  have f3 : ∀ b ∈ fp, FpOk X pins H3 b ∧ b < s3.heap.objs.size := fun b hb => by
    obtain ⟨o, e, _⟩ := T.obj _ _ st2 b hb
    have hlt := Heap.lt_size e
    refine ⟨⟨?_, (f2 b hb).2⟩, by rw [e3, Heap.size_push]; exact Nat.lt_succ_of_lt hlt⟩
    rw [hH3, upd_ne (by rw [hD]; exact Nat.ne_of_lt hlt)]
    exact (f2 b hb).1
  have I4 := block_start I3 ok hN f3
  rw [← hs3]
  obtain ⟨cl, hcl⟩ : ∃ z, z = cellsFrom (s3.heap.objs.size + 1) scope.names (cloFrom X.env.cells scope.names []) := ⟨_, rfl⟩
  rw [← hcl] at I4 ⊢
  have pg := hg s3 H3 s3.heap.objs.size cl fp
  have pt := ht s3 H3 s3.heap.objs.size cl fp
  have pe := he s3 H3 s3.heap.objs.size cl fp I3 fun b hb => (f3 b hb).1.2.2.2.2.1
  obtain ⟨ce, hce⟩ : ∃ z, z = compEnvC scope cl s3.heap.objs.size X.env := ⟨_, rfl⟩
  have cL : ce.locals = s3.heap.objs.size := by rw [hce]; rfl
  rw [← hce] at I4 pg pt pe
  obtain ⟨s4, hs4⟩ : ∃ z : Shared, z = { s3 with heap := pushCells (s3.heap.push { cls := .type "dict", data := .dict #[] }) scope.names } := ⟨_, rfl⟩
  have st4 : tn 0 s4.heap := T.keep _ _ _ st2 fun b _ o e => by rw [hs4]; exact pushCells_keeps _ _ _ _ (Heap.get?_push_of_some _ (by rw [e3]; exact Heap.get?_push_of_some _ e))
  rw [← hs4] at I4
  have stat : ∀ {σ' : L2.St} {H' : Hp} {s' : Shared}, Inv (X.blk s3 H3 scope ce fp) [] σ' H' s' → (∀ b ∈ fp, H' b = none) → ∀ b ∈ fp, FpOk (X.blk s3 H3 scope ce fp) [] H' b := fun {σ' H' s'} I' hn b hb =>
    ⟨hn b hb, (I'.ok.exf b hb).1, I'.ok.exfs b hb, .inl hb, (I'.ok.exf b hb).2, fun p hp => nomatch hp⟩
  show codeAny _ _ (.compStart (.ListComp elt [⟨tg, iter, ifs, 0⟩] scope pos) 0 (.ref it) (.ref D) (compEnvC scope cl s3.heap.objs.size X.env)) (compPost (model X.prog X.w) X.A X.xe none Qf (.ref D) s3.heap.objs.size) { s3 with heap := pushCells (s3.heap.push { cls := .type "dict", data := .dict #[] }) scope.names }
  rw [← hce, ← hs4]
  suffices go : codeAny (model X.prog X.w) X.A (.compLoop (.ListComp elt [⟨tg, iter, ifs, 0⟩] scope pos) 0 (.ref it) (.ref D) ce) (compPost (model X.prog X.w) X.A X.xe none Qf (.ref D) s3.heap.objs.size) s4 from codeAny_compStart_list go (T.self X.A 0 _ _ _ st4 go)
  refine compLoop_any (fun n s' => ∃ i H', Inv (X.blk s3 H3 scope ce fp) [] (wipe σ (own.map (·.2))) H' s' ∧ tn i s'.heap ∧ (∀ b ∈ fp, H' b = none) ∧ Wt i n H') ?_ m0 ⟨0, H3, I4, st4, fun b hb => (f3 b hb).1.1, by rw [hH3]; exact w0⟩
  rintro n s5 ⟨i, H5, I5, st5, n5, w5⟩
  rcases turn i n H5 w5 with ⟨stop, qq⟩ | ⟨go, Nx, hNx, step⟩
  · refine thnF (T.done (X.blk s3 H3 scope ce fp) rfl rfl rfl hc i [] s5 _ H5 (fun _ _ => False) I5 (stat I5 n5) st5 stop) fun r s6 ⟨hr, I6⟩ => ?_
    subst hr
    have I7 : Inv X pins σ H5 s6 := I3.call' (ch := fp) I6.os I6.base I6.hok I6.bare fun b hb => ⟨(f3 b hb).1.2.2.2.1, (f3 b hb).1.2.1, (f3 b hb).1.2.2.2.2.1, (f3 b hb).1.2.2.2.2.2⟩
    have nC : H5 s3.heap.objs.size = none := by rw [← cL]; exact I6.free
    obtain ⟨m, hn, _⟩ := I6.loc
    have hn : s6.heap.Ns ce.locals m := hn
    rw [cL] at hn
    exact hRR D _ s6 m H5 I7 qq hn (I3.fpOk (Nat.le_refl _) nC)
  · refine thnF (T.item (X.blk s3 H3 scope ce fp) rfl rfl rfl hc i [] s5 _ H5 (fun _ _ => False) I5 (stat I5 n5) st5 go) fun r s6 ⟨u, hr, h6⟩ => ?_
    subst hr
    refine thnF h6 fun _ s7 ⟨x, H7, I7, r7, y7, st7, n7⟩ => ?_
    refine thnF (pg.run _ s7 _ H7 x u _ (I7.pinned (stat I7 n7) (T.obj _ _ st7)) r7 (step x H7 y7)) fun _ s8 ⟨σ8, H8, I8, hw8, q8⟩ => ?_
    refine thnF (pt.run _ s8 σ8 H8 _ I8 q8) fun b s9 ⟨H9, I9, q9⟩ => ?_
    have back : ∀ {s' : Shared} {H' : Hp}, Inv (X.blk s3 H3 scope ce fp) ([] ++ pinsAt fp s7.heap) σ8 H' s' → Nx H' → ∃ m, m < n ∧ ∃ i H', Inv (X.blk s3 H3 scope ce fp) [] (wipe σ (own.map (·.2))) H' s' ∧ tn i s'.heap ∧ (∀ b ∈ fp, H' b = none) ∧ Wt i m H' := by
      intro s' H' I' nx
      obtain ⟨m', hm, w'⟩ := hNx H' nx
      have pin' : ∀ b ∈ fp, ∀ o, s7.heap.get? b = some o → s'.heap.get? b = some o ∧ H' b = none := fun b hb o e => by
        have z := I'.pin (b, o) (List.mem_append_right _ (List.mem_append_right _ (mem_pinsAt hb e)))
        exact ⟨z.1, z.2.1⟩
      refine ⟨m', hm, i + 1, H', (I'.unpinned (pins := [])).weak (by rw [← hw8, wipe_length]) (fun j v e => by rw [← hw8] at e; exact (wipe_some e).1), T.keep _ _ _ st7 fun b hb o e => (pin' b hb o e).1, fun b hb => ?_, w'⟩
      obtain ⟨o, e, _⟩ := T.obj _ _ st7 b hb
      exact (pin' b hb o e).2
    cases b with
    | false => exact back I9 q9
    | true => exact thnF (pe.run _ s9 σ8 H9 _ I9 q9) fun z s10 ⟨yv, H10, I10, r10, acc, hD10, hz10, nx⟩ => app_ok (X := X.blk s3 H3 scope ce fp) I10 hD10 hz10 r10 fun s11 I11 => back I11 nx
end
end GD
/-! GL4: [y(a) for a in asks]; the law's body with its table. -/
namespace GD
open PySem PySem.Spec PyProof.Rows L2 LamX
open Classical in
/-- y(a), a in slot j of the comprehension -/
noncomputable def eTry (cs : List Str) (fh : XT → Fn) (Z : LamZ) (tbl : List Ev) (j : Nat) : Ev := fun ρ m => match ρ[j]? with
  | some (some (.d (.lam i Z'))) => if Z' = Z then (match tbl[i]? with
    | some f => noX (tryR cs fh (f (ρ.set j none) m))
    | none => .bad) else .bad
  | _ => .bad
/-! ### the table comes in -/
def sTab (P : Addr) (q : Str) (f g : Ex) : Ex := fun ρ m => match f ρ m with
  | .nx ρ' m' => g ρ' (m' ++ [.tab P q])
  | _ => .bad
/-- the end of a law: nothing but its value is asked -/
def GoodT (K : PySem.W.Frag) (mg : Str → Option Value) (E : Ends) (r : RS) : Prop := match r with
  | .rt w m => ∀ (Hi' : Hp) (ι' : List Addr) (v : V) (H' : Hp), Mok K mg Hi' ι' m H' → RepW K mg Hi' ι' v w → E.rt v H'
  | _ => False
theorem GoodT.good {K : PySem.W.Frag} {mg : Str → Option Value} {E : Ends} {r : RS} {Wx : WX} {Hi H : Hp} {ι : List Addr} (g : GoodT K mg E r) : GoodS K mg Wx E Hi ι H r := by
  cases r with
  | rt w m => exact fun Hi' ι' v H' _ M rv => g Hi' ι' v H' M rv
  | _ => exact g.elim
/-- at the start: the table at P is empty and nobody's -/
def tDP (K : PySem.W.Frag) (mg : Str → Option Value) (P : Addr) (b : Ex) : TS := fun E σ H => ∃ Hi ι ρ m, Rel K mg Hi ι ρ m σ H ∧ H P = some (.tbl #[]) ∧ P ∉ ι ∧ Hi P = none ∧ GoodT K mg E (b ρ m)
theorem mok_in {K : PySem.W.Frag} {mg : Str → Option Value} {Hi H : Hp} {ι : List Addr} {m : Mem} {P : Addr} (q : Str) (M : Mok K mg Hi ι m H) (hP : H P = some (.tbl #[])) (hι : P ∉ ι) (hi : Hi P = none) : Mok K mg Hi (ι ++ [P]) (m ++ [.tab P q]) H := by
  refine ⟨M.sub, by simp [M.len], ?_, fun k mo a h1 h2 h3 => ?_, fun k mo a h1 h2 => ?_, M.lnk.push (mo := .tab P q) M.len trivial⟩
  · rw [List.nodup_append]
    refine ⟨M.nd, by simp, fun a ha b hb => ?_⟩
    have : b = P := by simpa using hb
    rw [this]
    exact fun z => hι (z ▸ ha)
  · by_cases hk : k < m.length
    · rw [List.getElem?_append_left hk] at h1
      rw [List.getElem?_append_left (by rw [M.len]; exact hk)] at h2
      exact M.free k mo a h1 h2 h3
    · have e : k = m.length := by
        have := (List.getElem?_eq_some_iff.mp h1).1
        simp at this
        omega
      subst e
      rw [List.getElem?_append_right (Nat.le_of_eq M.len), M.len] at h2
      simp at h2
      rw [← h2]
      exact hi
  · by_cases hk : k < m.length
    · rw [List.getElem?_append_left hk] at h1
      rw [List.getElem?_append_left (by rw [M.len]; exact hk)] at h2
      rw [take_app (by rw [M.len]; omega)]
      exact M.obj k mo a h1 h2
    · have e : k = m.length := by
        have := (List.getElem?_eq_some_iff.mp h1).1
        simp at this
        omega
      subst e
      rw [List.getElem?_append_right (Nat.le_of_eq M.len), M.len] at h2
      simp at h1 h2
      rw [← h1, ← h2]
      exact ⟨rfl, #[], hP, True.intro, fun pos cv hc => by
        have z : codeAmong pos [] = some cv := hc
        simp [codeAmong] at z⟩
theorem pssd_tab {X : Cx} {Wx : WX} {P : Addr} {q : Str} {st : Stmt} {rest : List Stmt} {f g : Ex} (h1 : PS X st (tDS X.K X.mg Wx f)) (h2 : PSs X rest (tDS X.K X.mg Wx g)) : PSs X (st :: rest) (tDP X.K X.mg P (sTab P q f g)) := PSs.imp (pss_cons h1 h2) fun D σ H t => by
  obtain ⟨Hi, ι, ρ, m, RR, hP, hι, hi, gd⟩ := t
  refine ⟨Hi, ι, ρ, m, RR, ?_⟩
  unfold sTab at gd
  cases e : f ρ m with
  | nx ρ' m' =>
    rw [e] at gd
    intro Hi2 ι2 σ2 H2 st R2
    have n1 : P ∉ ι2 := fun z => by
      have := st.new P z hι
      rw [hP] at this
      cases this
    exact ⟨Hi2, ι2 ++ [P], ρ', m' ++ [.tab P q], ⟨mok_in q R2.mok (st.frm P _ hP hι) n1 (st.inew P hι hi (by rw [hP]; simp)), R2.slots.1, fun i w z => by
      obtain ⟨v, q1, q2⟩ := R2.slots.2 i w z
      exact ⟨v, q1, q2.mono (fun _ _ h => h) (List.prefix_append _ _)⟩⟩, GoodT.good gd⟩
  | bk ρ' m' => rw [e] at gd; exact gd.elim
  | ct ρ' m' => rw [e] at gd; exact gd.elim
  | rt w m' => rw [e] at gd; exact gd.elim
  | xc c ns vs ρ' m' => rw [e] at gd; exact gd.elim
  | bad => rw [e] at gd; exact gd.elim
/-- what the law promises, its table at P -/
def spLawT (K : PySem.W.Frag) (P : Addr) : Sp := fun vs H Q _ => ∃ (a : Addr) (ns : List Int), vs = [.ref a] ∧ ns.length ≤ 63 ∧ H P = some (.tbl #[]) ∧ SqL K H a (ns.map V.int) ∧ ∀ H', Q (.bl true) H'
theorem fn_true {n : Nat} {b : Ex} {ws : List W} {m : Mem} (hl : ws.length = 1) (h : fnOf false 1 n b ws [] = .ok (.d (.bl true)) m) : ∃ m', b (ws.map some ++ List.replicate (n - ws.length) none) [] = .rt (.d (.bl true)) m' := by
  unfold fnOf at h
  rw [if_pos hl] at h
  cases e : b (ws.map some ++ List.replicate (n - ws.length) none) [] with
  | rt w m' =>
    rw [e] at h
    cases w with
    | d x =>
      have h : R.ok (W.d x) (m'.take 0) = .ok (.d (.bl true)) m := h
      cases h
      exact ⟨m', rfl⟩
    | m k =>
      have h : (if k < 0 then R.ok (W.m k) (m'.take 0) else match m'[k]? with
        | some (.lst xs) => if false = true then .ok (.m 0) (m'.take 0 ++ [.lst xs]) else .ok (.d (.lst xs)) (m'.take 0)
        | some (.dic w kvs) => if false = true then .ok (.m 0) (m'.take 0 ++ [.dic w kvs]) else .bad
        | _ => .bad) = .ok (.d (.bl true)) m := h
      rw [if_neg (by omega)] at h
      split at h <;> cases h
  | nx ρ' m' => rw [e] at h; cases h
  | bk ρ' m' => rw [e] at h; cases h
  | ct ρ' m' => rw [e] at h; cases h
  | xc c ns vs ρ' m' => rw [e] at h; cases h
  | bad => rw [e] at h; cases h
theorem law_tab {P : Program} {w : World} {K : PySem.W.Frag} {mg : Str → Option Value} {base : Heap} {x : Str} {st : Stmt} {f : Addr} {fd : FuncData} {N : List Str} {k n : Nat} {T : Addr} {b : LamZ → Ex} (F : Fun K "law" "law" st f fd) (S : FnScope N [x] (defScope st)) (hn : N.length = n)
    (h : ∀ (Z : LamZ) (ns : List Int), ns.length ≤ 63 → ∃ m, fnOf false 1 n (b Z) [.d (.fls (ns.map .int))] [] = .ok (.d (.bl true)) m)
    (hbody : ∀ (cdv : Value) (A : Around) (outer : List PySem.Env) (s : Shared) (H : Hp) (E : XK), (∃ oc od osl dV kV doc pm an ct, K.lookup f = some ⟨oc, od, .func (PySem.W.fnOf "law" "law" (defArgs st) (defBody st) (defScope st) dV kV doc pm an cdv ct), osl⟩) → Cc (cxOf (L2.CX P w) P w K mg base N "law" (defScope st) f cdv A outer s H E) (fun c d _ H' => E c d H') k →
      ∃ Z, PSs (cxOf (L2.CX P w) P w K mg base N "law" (defScope st) f cdv A outer s H E) (defBody st) (tDP K mg T (b Z))) : FnOk P w K mg base (L2.CX P w) (k + 1) f fd [x] (spLawT K T) := by
  obtain ⟨oc, od, kV, doc, pm, an, cdv, ct, osl, rfl, lk, hcd⟩ := F.ex
  refine fn_of lk hcd S (fun vs H Q E h => by obtain ⟨a, ns, rfl, _⟩ := h; rfl) fun A outer s H vs Q E hr hs => ?_
  obtain ⟨Z, hp⟩ := hbody cdv A outer s H E ⟨_, _, _, _, _, _, _, _, _, lk⟩ ⟨takes_of rfl rfl rfl rfl, passes_of rfl, S.nd, rfl, hr⟩
  refine ⟨_, hp, ?_⟩
  obtain ⟨a, ns, rfl, hl, hT, sq, q⟩ := hs
  obtain ⟨m, e⟩ := h Z ns hl
  obtain ⟨m', e'⟩ := fn_true rfl e
  have sq' : SqL K (fun b => if b = a ∧ b ≠ T then H b else none) a (ns.map V.int) := by
    have key : ∀ u, H a = some u → (∀ ps, u ≠ .tbl ps) → (if a = a ∧ a ≠ T then H a else none) = some u := fun u hu hn => by
      have : a ≠ T := fun z => by rw [z, hT] at hu; exact hn _ (Option.some.inj hu).symm
      rw [if_pos ⟨rfl, this⟩]
      exact hu
    rcases sq with sq | sq
    · refine .inl ?_
      rcases sq with z | ⟨o, z⟩
      · exact .inl (key _ z fun ps y => by cases y)
      · exact .inr ⟨o, key _ z fun ps y => by cases y⟩
    · exact .inr sq
  refine ⟨fun b => if b = a ∧ b ≠ T then H b else none, [], _, [], ⟨⟨fun b u z => ?_, rfl, .nil, (fun k mo a h1 _ _ => by simp at h1), fun k mo a h1 _ => by simp at h1, fun k c ns vs a f j xs h => by simp at h⟩, start_rep (N := N) (n := n) (ι := []) (ws := [.d (.fls (ns.map .int))]) (.cons (Rep.fls sq' (ints_repL ns)) .nil) hn⟩, hT, by simp, by simp, ?_⟩
  · have z : (if b = a ∧ b ≠ T then H b else none) = some u := z
    split at z
    · exact z
    · cases z
  · rw [e']
    intro Hi' ι' v H' M rv
    cases rv
    exact q H'
end GD
/-! GE8: a list made by + that is changed later; own !=. -/
namespace GD
open PySem PySem.Spec PyProof.Rows L2
/-! ### a != b by the own __eq__ -/
def oOwnNe (tab : List (Str × Fn)) : O2 := fun x y m => noX ((oOwn tab x y m).bind fun w m => match w with
  | .d (.bl b) => .ok (.d (.bl (!b))) m
  | _ => .bad)
/-- the class has no __ne__ of its own -/
structure NeAt (K : PySem.W.Frag) (mg : Str → Option Value) (c : Str) : Prop where
  ex : ∃ C, mg c = some (.ref C) ∧ PySem.W.findIn K (.ref C) "__ne__" = some (some (.builtin "object.__ne__")) ∧ PySem.W.mroIn K C (.type "object") = some true
section
variable {M : Model} {prog : Program} {w : World} {A : Around} {E : Value → Shared → Prop} {s : Shared} {K : PySem.W.Frag} {x C : Addr} {ox : Obj} {od : Option Obj}
theorem ifBound_objNe {args : List Value} {Q : Option Value → Shared → Prop} (X : K.In s.heap) (I : PySem.W.InstAt s.heap x ox C od) (hs : PySem.W.findIn K (.ref C) "__ne__" = some (some (.builtin "object.__ne__")))
    (h : wpAny M A (call (.builtin "object.__ne__") (.ref x :: args)) (fun v => Q (some v)) E s) : wpAny M A (callSpecialIfBound? (.ref x) "__ne__" args) Q E s := by
  simp only [callSpecialIfBound?, bindSpecialIfBound?]
  refine wpAny_holding (wpAny_bind (wpAny_bind (wpAny_bind (I.type.here ((PySem.W.looks_findIn X hs).here ?_)))))
  refine wpAny_bind (wpAny_askSetting (wpAny_ite ?_))
  have fin : wpAny M A (call (.builtin "object.__ne__") ([.ref x] ++ args) >>= fun v => pure (some v)) Q E s := wpAny_bind (wpAny_mono h (fun v s' h' => wpAny_pure h') fun _ _ h' => h')
  split
  · exact wpAny_bind (wpAny_of_eq (F.cmp_object.ne.bind _) (wpAny_pure (by exact fin)))
  · exact wpAny_tryCatch (wpAny_bind (wpAny_of_eq (F.cmp_object.ne.bind _) (wpAny_pure (by exact fin))))
theorem entry_ne {y f : Addr} (X : K.In s.heap) (I : PySem.W.InstAt s.heap x ox C od) (hs : PySem.W.findIn K (.ref C) "__eq__" = some (some (.ref f))) (hf : PySem.W.isFn K (.ref f) = true) (hu : A.units < cLine) {Q : Fin → Shared → Prop}
    (hcall : wpAny (model prog w) A (call (.ref f) [.ref x, .ref y]) (fun v s' => ∃ b, v = .bool b ∧ Q (.done (.ret (.bool (!b)))) s') E s) :
    wpAny (model prog w) A (Builtin.«object.__ne__» ⟨[.ref x, .ref y], []⟩) Q E s := by
  unfold Builtin.«object.__ne__»
  repeat (first
    | with_reducible refine wpAny_cRoomFor hu ?_
    | (refine wpAny_bind (m := callSpecialIfBound? (.ref x) (Str.ofString "__eq__") [.ref y])
        (PySem.W.ifBound_K X I hs hf (wpAny_mono hcall (fun r s' hr => by
          obtain ⟨b, rfl, hq⟩ := hr
          repeat (first | exact hq | exact wpAny_pure hq | exact wpAny_truthy_bool hq | (refine wpAny_bind (m := truthy (.bool _)) (wpAny_truthy_bool ?_)) | wp_step)) fun _ _ e => e)))
    | wp_step)
theorem call_objNe {y f : Addr} {Q : Value → Shared → Prop} (X : K.In s.heap) (I : PySem.W.InstAt s.heap x ox C od) (hm : PySem.W.mroIn K C (.type "object") = some true) (hs : PySem.W.findIn K (.ref C) "__eq__" = some (some (.ref f))) (hf : PySem.W.isFn K (.ref f) = true) (hu : A.in1.units < cLine)
    (hcall : wpAny (model prog w) A.in1 (call (.ref f) [.ref x, .ref y]) (fun v s' => ∃ b, v = .bool b ∧ Q (.bool (!b)) s') E s) :
    wpAny (model prog w) A (call (.builtin "object.__ne__") [.ref x, .ref y]) Q E s :=
  wpAny_call (codeAny_call_builtin F.cmp_object.ne.plain F.cmpEntry_ne (PySem.W.check_slot F.cmpKind_ne F.cmpSplit_ne (I.type.andThen (PySem.W.looks_mroIn X hm)) (F.cmpArgs_ne _ _) (entry_ne (A := A.in1) X I hs hf hu hcall)))
theorem rc_ne {y f : Addr} {oy : Obj} {od' : Option Obj} {Q : Value → Shared → Prop} (hu : A.in1.units < cLine) (X : K.In s.heap) (I : PySem.W.InstAt s.heap x ox C od) (J : PySem.W.InstAt s.heap y oy C od') (hm : PySem.W.mroIn K C (.type "object") = some true) (hn : PySem.W.findIn K (.ref C) "__ne__" = some (some (.builtin "object.__ne__"))) (hs : PySem.W.findIn K (.ref C) "__eq__" = some (some (.ref f))) (hf : PySem.W.isFn K (.ref f) = true)
    (hcall : wpAny (model prog w) A.in1 (call (.ref f) [.ref x, .ref y]) (fun v s' => ∃ b, v = .bool b ∧ Q (.bool (!b)) s') E s) : wpAny (model prog w) A (richCompare .NotEq (.ref x) (.ref y)) Q E s := by
  have hu0 : A.units < cLine := Nat.lt_of_le_of_lt (Nat.le_succ _) hu
  have one : wpAny (model prog w) A (tryCompare (.ref x) "__ne__" (.ref y)) (fun r s' => ∃ v, r = some v ∧ Q v s') E s := by
    unfold tryCompare
    refine wpAny_bind (ifBound_objNe X I hn (call_objNe X I hm hs hf hu (wpAny_mono hcall (fun v s' hv => ?_) fun _ _ e => e)))
    obtain ⟨b, rfl, hq⟩ := hv
    exact ⟨b, rfl, wpAny_pure ⟨_, rfl, hq⟩⟩
  simp only [richCompare, cmpInfo_NotEq, oneThing_ref]
  refine wpAny_holding (wpAny_bind (wpAny_cRoomFor hu0 ?_))
  refine wpAny_bind (I.type.here (wpAny_bind (J.type.here ?_)))
  rw [show (Value.ref C != Value.ref C) = false from by simp]
  simp only [Bool.false_eq_true, if_false]
  refine wpAny_bind (wpAny_pure ?_)
  simp only [Bool.false_eq_true, if_false]
  refine wpAny_bind (wpAny_mono one (fun r s' z => ?_) fun _ _ e => e)
  obtain ⟨v, rfl, hq⟩ := z
  exact wpAny_pure hq
end
section
variable {X : Cx} {Wx : WX} {kk j : Nat}
theorem op_ownNe {tab : List (Str × Fn)} (c : Cc X Wx kk) (T : AllT (fun c g => OwnOk X.prog X.w X.K X.mg X.base c "__eq__" j g) tab) (T2 : AllT (fun c _ => NeAt X.K X.mg c) tab) (hj : j + 1 ≤ kk) : OpR X (compareOp .NotEq) (rW2 X.K X.mg (oOwnNe tab)) := by
  intro pins s σ H x y v u Q I rx ry hq
  obtain ⟨Hi, ι, m, wa, wb, M, ra, rb, g⟩ := hq
  show wpAny (model X.prog X.w) X.A (richCompare .NotEq v u) (EP X pins σ Q) X.xe s
  have g' := good_unX (τ := σ) g
  unfold oOwn at g'
  cases h1 : insOf wa m with
  | none => rw [h1] at g'; exact g'.elim
  | some p1 =>
  cases h2 : insOf wb m with
  | none => rw [h1, h2] at g'; exact g'.elim
  | some p2 =>
  obtain ⟨c1, ns1, ds1⟩ := p1
  obtain ⟨c2, ns2, ds2⟩ := p2
  rw [h1, h2] at g'
  dsimp only at g'
  split at g'
  case isFalse => exact g'.elim
  rename_i hc
  subst hc
  split at g'
  case h_2 => exact g'.elim
  rename_i gm hl
  obtain ⟨b1, C1, dx1, vs1, e1, hg1, ha1, _, _⟩ := insOf_rep M ra h1
  obtain ⟨b2, C2, dx2, vs2, e2, hg2, ha2, _, _⟩ := insOf_rep M rb h2
  obtain ⟨C, f, hg, hsf, hfi, hisf, _, F⟩ := (T.get hl).ex
  obtain ⟨C', hg', hn, hm⟩ := (T2.get hl).ex
  rw [hg] at hg1 hg2 hg'
  cases hg1
  cases hg2
  cases hg'
  subst e1 e2
  obtain ⟨ox, od, J1, _⟩ := inst_at I ha1
  obtain ⟨ox', od', J2, _⟩ := inst_at I ha2
  obtain rfl : v = .ref b1 := rx
  obtain rfl : u = .ref b2 := ry
  refine rc_ne (c.room.mono hj).in1.units0 I.kIn J1 J2 hm hn hfi hisf ?_
  refine wpAny_mono (run_noX F (c.room.mono hj).in1 I.env0.in1 I (us := [.ref b1, .ref b2]) (vs := [.ref b1, .ref b2]) (Q := fun y H' => ∃ Hi' ι' m' w', Mok X.K X.mg Hi' ι' m' H' ∧ RepW X.K X.mg Hi' ι' y w' ∧ Good X.K X.mg (RepW X.K X.mg) (fun _ _ _ _ => False) σ Hi' ι' H' (match w' with
    | .d (.bl b) => .ok (.d (.bl (!b))) m'
    | _ => .bad) Q) (.cons rfl (.cons rfl .nil)) ⟨Hi, ι, [wa, wb], m, M, .cons ra (.cons rb .nil), good_bind g' fun y m1 Hi1 ι1 v1 H1 st M1 rv g1 => ⟨Hi1, ι1, m1, y, M1, rv, g1⟩⟩) (fun y s' z => ?_) fun _ _ z => z
  obtain ⟨v, H', I', rv, Hi', ι', m', w', M', rw', g'⟩ := z
  split at g'
  case h_2 => exact g'.elim
  rename_i b
  cases rw'
  obtain rfl := rv
  exact ⟨b, rfl, .bl (!b), H', I', rfl, g'.here (rep := RepW X.K X.mg) M' (.bl _)⟩
/-! ### a, b, c = x, y, z -/
def sPar3 (i j l : Nat) (a : EvL) : Ex := fun ρ m => (a ρ m).lift ρ fun ws m => match ws with
  | [x, y, z] => .nx (((ρ.set i (some x)).set j (some y)).set l (some z)) m
  | _ => .bad
/-! ### C.f, f an int of the class C -/
end
end GD
/-! GF0: the facts of the text, told by one run of the top. -/
namespace GD
open PySem PySem.Spec PyProof.Rows L2
open He (ga ma eqO eqO_ok ba)
section
variable {fa : List Fg} {fn : List DefG} {ts : List TabG} {w : World} {K : PySem.W.Frag} {h : Heap} {mg : Str → Option Value}
theorem SaysG.fact (c : SaysG fa fn ts w K) (i : Nat) {f : Fg} (h : fa[i]? = some f := by rfl) : f.ok K = true := by
  have c1 : ((fa.all fun f => f.ok K) && ((fn.all fun d => d.a.ok K) && ts.all fun t => !(ga K t.1 == sysModules))) = true := congrArg (fun z : AlG => z.1) c
  exact List.all_eq_true.mp (ba c1).1 f (List.mem_of_getElem? h)
theorem SaysG.fun_ (c : SaysG fa fn ts w K) (i : Nat) {d : DefG} (h : fn[i]? = some d := by rfl) (hd : d.dfl = [] := by rfl) : ∃ fd, Fun K d.name d.qual d.st (d.pl.at_ K) fd := by
  have c1 : ((fa.all fun f => f.ok K) && ((fn.all fun d => d.a.ok K) && ts.all fun t => !(ga K t.1 == sysModules))) = true := congrArg (fun z : AlG => z.1) c
  have e : (fn.map fun d => He5.fnA K (d.pl.at_ K)) = fn.map fun d => d.a.val := congrArg (fun z : AlG => z.2.1) c
  have e2 : (fn.map fun d => He5.fnA K (d.pl.at_ K))[i]? = (fn.map fun d => d.a.val)[i]? := by rw [e]
  rw [List.getElem?_map, List.getElem?_map, h] at e2
  obtain ⟨fd, F⟩ := He5.DefA.funD (d := d.a) (Option.some.inj e2) (List.all_eq_true.mp (ba (ba c1).2).1 d (List.mem_of_getElem? h))
  have F : L2.FunD K d.name d.qual (defArgs d.st) (defBody d.st) (defScope d.st) (d.dfl.map (He.Dv.v K)) [] (d.pl.at_ K) fd := F
  rw [hd] at F
  exact ⟨fd, He5.fun_of F⟩
theorem SaysG.funD (c : SaysG fa fn ts w K) (i : Nat) {d : DefG} (h : fn[i]? = some d := by rfl) : ∃ fd, L2.FunD K d.name d.qual (defArgs d.st) (defBody d.st) (defScope d.st) (d.dfl.map (He.Dv.v K)) [] (d.pl.at_ K) fd := by
  have c1 : ((fa.all fun f => f.ok K) && ((fn.all fun d => d.a.ok K) && ts.all fun t => !(ga K t.1 == sysModules))) = true := congrArg (fun z : AlG => z.1) c
  have e : (fn.map fun d => He5.fnA K (d.pl.at_ K)) = fn.map fun d => d.a.val := congrArg (fun z : AlG => z.2.1) c
  have e2 : (fn.map fun d => He5.fnA K (d.pl.at_ K))[i]? = (fn.map fun d => d.a.val)[i]? := by rw [e]
  rw [List.getElem?_map, List.getElem?_map, h] at e2
  obtain ⟨fd, F⟩ := He5.DefA.funD (d := d.a) (Option.some.inj e2) (List.all_eq_true.mp (ba (ba c1).2).1 d (List.mem_of_getElem? h))
  exact ⟨fd, F⟩
theorem SaysG.tab (X : K.In h) (G : h.Ns mainGlobals mg) (c : SaysG fa fn ts w K) (i j : Nat) {x : Str} {kvs : List (Str × Str)} (h : ts[i]? = some (x, kvs) := by rfl) (hj : fa[j]? = some (.glo x) := by rfl) : DictTab K mg w x kvs := by
  have c1 : ((fa.all fun f => f.ok K) && ((fn.all fun d => d.a.ok K) && ts.all fun t => !(ga K t.1 == sysModules))) = true := congrArg (fun z : AlG => z.1) c
  have e : (ts.map fun t => dicS K t.1) = ts.map fun t => some (t.2.map fun kv => some (kv.1, PyData.keyHash w.params kv.1, kv.2)) := congrArg (fun z : AlG => z.2.2) c
  have e2 : (ts.map fun t => dicS K t.1)[i]? = (ts.map fun t => some (t.2.map fun kv => some (kv.1, PyData.keyHash w.params kv.1, kv.2)))[i]? := by rw [e]
  rw [List.getElem?_map, List.getElem?_map, h] at e2
  have e3 : dicS K x = some (kvs.map fun kv => some (kv.1, PyData.keyHash w.params kv.1, kv.2)) := Option.some.inj e2
  have hs : (ga K x == sysModules) = false := by
    have z := List.all_eq_true.mp (ba (ba c1).2).2 (x, kvs) (List.mem_of_getElem? h)
    simpa using z
  have hg := He.glo_ok X G (show (He.Fa.glo x).ok K = true from c.fact j hj)
  unfold dicS at e3
  split at e3
  · rename_i tt es n sl hl
    split at e3
    case isFalse => cases e3
    rename_i hb
    obtain ⟨b1, b2⟩ := ba hb
    rw [beq_iff_eq] at b1 b2
    have b3 : sl = #[] := Array.eq_empty_of_size_eq_zero b2
    rw [b1, b3] at hl
    have e4 : (es.toList.map fun e => match e.key, e.val with
      | .str k _, .str v _ => some (k, e.hash, v)
      | _, _ => none) = kvs.map fun kv => some (kv.1, PyData.keyHash w.params kv.1, kv.2) := Option.some.inj e3
    refine tab_mk (l := es.toList) hg (by rw [Array.toArray_toList]; exact hl) hs (by have := congrArg List.length e4; simpa using this) fun i e kv h1 h2 => ?_
    have q : (es.toList.map fun e => match e.key, e.val with
      | .str k _, .str v _ => some (k, e.hash, v)
      | _, _ => none)[i]? = (kvs.map fun kv => some (kv.1, PyData.keyHash w.params kv.1, kv.2))[i]? := by rw [e4]
    rw [List.getElem?_map, List.getElem?_map, h1, h2] at q
    have q2 := Option.some.inj q
    dsimp only at q2
    split at q2
    · rename_i k t v t' ek ev
      simp only [Option.some.injEq, Prod.mk.injEq] at q2
      obtain ⟨r1, r2, r3⟩ := q2
      exact ⟨⟨t, by rw [ek, r1]⟩, r2, ⟨t', by rw [ev, r3]⟩⟩
    · cases q2
  · cases e3
/-! ### to the facts that the walk asks -/
theorem fld_of (X : K.In h) (G : h.Ns mainGlobals mg) {c f : Str} (h1 : (Fg.glo c).ok K = true) (h2 : (Fg.cls c).ok K = true) (h3 : (Fg.noat c f).ok K = true) : FldOk K mg c f := ⟨_, He.glo_ok X G h1, He.cls_ok h2, He.noat_ok h3⟩
theorem con_of (X : K.In h) (G : h.Ns mainGlobals mg) {c f : Str} {i : Int} (h1 : (Fg.glo c).ok K = true) (h2 : (Fg.cls c).ok K = true) (h3 : (Fg.con c f i).ok K = true) (hc : PySem.W.copiedNames.contains f = false := by decide +kernel) : ConOk K mg c f (.int i) := by
  obtain ⟨u, hu⟩ := He.conB_ok h3 hc
  exact ⟨_, .int i, u, He.glo_ok X G h1, He.cls_ok h2, hu, fun _ => .int i⟩
theorem isiG_of (X : K.In h) (G : h.Ns mainGlobals mg) {c : Str} (h1 : (Fg.glo c).ok K = true) (h2 : (Fg.cls c).ok K = true) (z : (Fg.isi c).ok K = true) : IsiOk K mg c := by
  obtain ⟨z, y⟩ := ba z
  obtain ⟨y1, y2⟩ := ba y
  obtain ⟨k1, k2⟩ := ba y1
  obtain ⟨k3, k4⟩ := ba y2
  obtain ⟨a1, z⟩ := ba z
  obtain ⟨a2, z⟩ := ba z
  obtain ⟨a3, z⟩ := ba z
  obtain ⟨a4, a5⟩ := ba z
  exact ⟨_, He.glo_ok X G h1, ⟨He.cls_ok h2, eqO_ok a1, eqO_ok a2, of_decide_eq_true a3, of_decide_eq_true a4, of_decide_eq_true a5⟩, ⟨of_decide_eq_true k1, of_decide_eq_true k2, of_decide_eq_true k3, of_decide_eq_true k4⟩⟩
theorem cls_of (X : K.In h) (G : h.Ns mainGlobals mg) {c : Str} (z : (Fg.glo c).ok K = true) : ClsAt K mg c := ⟨_, He.glo_ok X G z⟩
theorem met_of (X : K.In h) (G : h.Ns mainGlobals mg) {c m x qual : Str} {st : Stmt} (h1 : (Fg.glo c).ok K = true) (h2 : (Fg.cls c).ok K = true) (h3 : (Fg.met c m).ok K = true) (F : ∃ fd, Fun K x qual st ((Pl.m c m).at_ K) fd) : MethAt K mg c m x qual st := by
  obtain ⟨fd, F⟩ := F
  exact ⟨_, _, fd, He.glo_ok X G h1, He.cls_ok h2, He.meth_ok h3, F⟩
theorem own_of (X : K.In h) (G : h.Ns mainGlobals mg) {c m x qual : Str} {st : Stmt} (h1 : (Fg.glo c).ok K = true) (h2 : (Fg.met c m).ok K = true) (h3 : (Fg.sf c).ok K = true) (h4 : (Fg.fni c m).ok K = true) (F : ∃ fd, Fun K x qual st ((Pl.m c m).at_ K) fd) : OwnAt K mg c m x qual st := by
  obtain ⟨fd, F⟩ := F
  have q := He.meth_ok (show (He.Fa.meth c m).ok K = true from h2)
  exact ⟨_, _, fd, He.glo_ok X G h1, h3, q.at_, q.fn, h4, F⟩
theorem new_of (X : K.In h) (G : h.Ns mainGlobals mg) {c x qual : Str} {st : Stmt} (h1 : (Fg.glo c).ok K = true) (h2 : (Fg.new c).ok K = true) (F : ∃ fd, Fun K x qual st ((Pl.m c "__init__").at_ K) fd) : NewAt K mg c x qual st := by
  obtain ⟨fd, F⟩ := F
  exact ⟨_, _, fd, He.glo_ok X G h1, He.mkr_ok h2, F⟩
theorem prp_of (X : K.In h) (G : h.Ns mainGlobals mg) {c m x qual : Str} {st : Stmt} (h1 : (Fg.glo c).ok K = true) (h2 : (Fg.cls c).ok K = true) (z : (Fg.prp c m).ok K = true) (F : ∃ fd, Fun K x qual st ((Pl.p c m).at_ K) fd) : PropAt K mg c m x qual st := by
  obtain ⟨h3, z⟩ := ba z
  obtain ⟨h4, z⟩ := ba z
  obtain ⟨h5, h6⟩ := ba z
  obtain ⟨fd, F⟩ := F
  refine ⟨_, _, _, fd, He.glo_ok X G h1, He.cls_ok h2, ⟨eqO_ok h3, eqO_ok h4, of_decide_eq_true h5, ?_⟩, F⟩
  show ∃ rest, PySem.W.recIn K (ma K (ga K c) m) "property" = some (.ref (He5.wf K (ga K c) "property" m) :: rest)
  unfold He5.wf
  split at h6
  · rename_i f r e
    exact ⟨r, by rw [e]⟩
  · cases h6
theorem cme_of (X : K.In h) (G : h.Ns mainGlobals mg) {c m x qual : Str} {st : Stmt} (h1 : (Fg.glo c).ok K = true) (z : (Fg.crd c).ok K = true) (y : (Fg.cme c m).ok K = true) (F : ∃ fd, Fun K x qual st ((Pl.c c m).at_ K) fd) : CMethAt K mg c m x qual st := by
  obtain ⟨h2, h3⟩ := ba z
  obtain ⟨h4, h5⟩ := ba y
  obtain ⟨fd, F⟩ := F
  exact ⟨_, _, _, _, fd, He.glo_ok X G h1, ⟨h2, eqO_ok h3⟩, He5.cmet_of h4 h5, F⟩
theorem sme_of (X : K.In h) (G : h.Ns mainGlobals mg) {c m x qual : Str} {st : Stmt} (h1 : (Fg.glo c).ok K = true) (z : (Fg.crd c).ok K = true) (h4 : (Fg.sme c m).ok K = true) (F : ∃ fd, Fun K x qual st ((Pl.s c m).at_ K) fd) : SMethAt K mg c m x qual st := by
  obtain ⟨h2, h3⟩ := ba z
  obtain ⟨fd, F⟩ := F
  obtain ⟨q1, rest, q2⟩ := He5.wrapB_ok h4
  exact ⟨_, _, _, _, rest, fd, He.glo_ok X G h1, ⟨h2, eqO_ok h3⟩, q1, q2, F⟩
theorem ne_of (X : K.In h) (G : h.Ns mainGlobals mg) {c : Str} (h1 : (Fg.glo c).ok K = true) (z : (Fg.nb c).ok K = true) : NeAt K mg c := by
  obtain ⟨h2, h3⟩ := ba z
  exact ⟨_, He.glo_ok X G h1, eqO_ok h2, of_decide_eq_true h3⟩
theorem top_of (X : K.In h) (G : h.Ns mainGlobals mg) {x : Str} {st : Stmt} (z : (Fg.glo x).ok K = true) (F : ∃ fd, Fun K x x st ((Pl.g x).at_ K) fd) : TopDef K mg x st := by
  obtain ⟨fd, F⟩ := F
  exact ⟨_, fd, F, He.glo_ok X G z⟩
end
end GD
/-! GF1: the end of a law over the facts that the top's run tells. -/
namespace GD
open PySem PySem.Spec PyProof.Rows L2
section
variable {K : PySem.W.Frag} {h : Heap} {mg : Str → Option Value} {x : Str}
theorem glo_of (X : K.In h) (G : h.Ns mainGlobals mg) (z : (Fg.glo x).ok K = true) : mg x = some (.ref (He.ga K x)) := He.glo_ok X G z
theorem free_of (X : K.In h) (G : h.Ns mainGlobals mg) (z : (Fg.free x).ok K = true) : mg x = none := He.free_ok X G z
theorem int_of (X : K.In h) (G : h.Ns mainGlobals mg) {i : Int} (z : (Fg.int x i).ok K = true) : ∃ t, mg x = some (.int i t) := He.int_ok X G z
end
theorem fun_binds1 {K : PySem.W.Frag} {x qual p : Str} {st : Stmt} {f : Addr} {fd : FuncData} (F : Fun K x qual st f fd)
    (h : ∀ (kV doc pm : Value) (an : Option Addr) (cdv ct v : Value), bindArgs (PySem.W.fnOf x qual (defArgs st) (defBody st) (defScope st) .none kV doc pm an cdv ct) ⟨[v], []⟩ = pure [(p, v)]) (s : Shared) (v : Value) : BindsTo s fd ⟨[v], []⟩ [(p, v)] := by
  obtain ⟨oc, od, kV, doc, pm, an, cdv, ct, osl, rfl, lk, hcd⟩ := F.ex
  exact .of_eq (h kV doc pm an cdv ct v)
end GD
/-! GE9: list(range(a, b)) with bounds of any size. -/
/-! GEA: divmod, // and % by any divisor, any. -/
/-! GEB: a, b, .. = x, y, .. for any names. -/
namespace GD
open PySem PySem.Spec PyProof.Rows L2
section
variable {X : Cx} {Wx : WX}
def setAll (ρ : Env) : List Nat → List W → Env
  | i :: js, w :: ws => setAll (ρ.set i (some w)) js ws
  | _, _ => ρ
def sParG (js : List Nat) (a : EvL) : Ex := fun ρ m => (a ρ m).lift ρ fun ws m => if ws.length = js.length then .nx (setAll ρ js ws) m else .bad
end
end GD
/-! GEC: defs whose last parameter is keyword-only with a default (None or a number), called without it. -/
namespace GD
open PySem PySem.Spec PyProof.Rows L2
def toDd : Option Int → D
  | none => .non
  | some i => .int i
section
variable {P : Program} {w : World} {K : PySem.W.Frag} {mg : Str → Option Value} {base : Heap}
/-- f(e, ..) without the last parameter, which has a default -/
def dflFn (d : Option Int) (f : Fn) : Fn := fun ws m => f (ws ++ [.d (toDd d)]) m
end
end GD
/-! GF2: the facts of errors, of the def that tries, of tables; the end with a table. -/
namespace GD
open PySem PySem.Spec PyProof.Rows L2 LamX NdefX
open He (ga ma eqO eqO_ok ba)
/-! ### where a lambda stands in a text -/
def kidsE : Expr → List Expr
  | .BoolOp _ vs _ => vs
  | .BinOp l _ r _ => [l, r]
  | .UnaryOp _ e _ => [e]
  | .IfExp t a b _ => [t, a, b]
  | .ListComp e gs _ _ => e :: gs.map (·.iter)
  | .Compare l _ rs _ => l :: rs
  | .Call f as _ _ => f :: as
  | .Attribute e _ _ => [e]
  | .Subscript e i _ => [e, i]
  | .List es _ => es
  | .Tuple es _ _ => es
  | _ => []
def atE (e : Expr) : List Nat → Expr
  | [] => e
  | i :: r => atE ((kidsE e).getD i e) r
def kidsS : Stmt → List Stmt
  | .For _ _ b _ _ => b
  | .While _ b _ _ => b
  | .If _ a b _ => a ++ b
  | _ => []
def exprS : Stmt → Expr
  | .Return (some e) _ => e
  | .Assign _ e _ => e
  | .For _ e _ _ _ => e
  | .While e _ _ _ => e
  | .If e _ _ _ => e
  | .Expr e _ => e
  | _ => .Name "" ⟨0, 0, 0, 0⟩
def atS (b : List Stmt) : List Nat → Stmt
  | [] => .Pass ⟨0, 0, 0, 0⟩
  | [i] => b.getD i (.Pass ⟨0, 0, 0, 0⟩)
  | i :: r => atS (kidsS (b.getD i (.Pass ⟨0, 0, 0, 0⟩))) r
/-- the lambda at a place of a def's body -/
def lamOf (q : Str) (b : List Stmt) (ps pe : List Nat) : LamF := match atE (exprS (atS b ps)) pe with
  | .Lambda as e sc _ => ⟨q, as, e, sc⟩
  | _ => ⟨q, defArgs (.Pass ⟨0, 0, 0, 0⟩), .Name "" ⟨0, 0, 0, 0⟩, defScope (.Pass ⟨0, 0, 0, 0⟩)⟩
/-! ### own errors -/
theorem oexB_ok {K : PySem.W.Frag} {C : Addr} (h : oexB K C = true) : OexC K C := by
  obtain ⟨h0, h⟩ := ba h
  obtain ⟨h1, h⟩ := ba h
  obtain ⟨h2, h⟩ := ba h
  obtain ⟨h3, h4⟩ := ba h
  refine ⟨?_, eqO_ok h1, of_decide_eq_true h2, of_decide_eq_true h3, h4⟩
  split at h0
  case h_2 => cases h0
  rename_i t dd cd sl ho
  rw [Bool.and_eq_true, beq_iff_eq] at h0
  obtain ⟨e0, h0⟩ := h0
  subst e0
  cases hm : cd.mro with
  | nil => rw [hm] at h0; cases h0
  | cons v bm =>
  cases hs : sl.toList with
  | nil => rw [hm, hs] at h0; cases v <;> cases h0
  | cons _ _ =>
  rw [hm, hs] at h0
  split at h0
  case h_2 => cases h0
  rename_i C' bm' k0 k1 k2 k3 n k5 q1 q2
  cases q1
  simp only [Bool.and_eq_true, beq_iff_eq, Bool.not_eq_true'] at h0
  obtain ⟨rfl, rfl, e3, e4, e5⟩ := h0
  obtain ⟨nm, bs, mro, ns, qn, hd, sn, sub, ab, col, del⟩ := cd
  dsimp only at hm e3 e4
  subst hm e3 e4
  have hsl : sl = #[k0, k1, k2, k3, some (.builtin "ValueError.__new__"), k5] := by
    rw [← Array.toArray_toList (xs := sl), hs, q2]
  subst hsl
  exact ⟨nm, qn, ns, bs, bm, sn, sub, ab, col, dd, k0, k1, k2, k3, k5, ho, e5⟩
/-- the words of the error c with the field f -/
structure ErrT (P : Program) (st : Stmt) (c f : Str) : Prop where
  body : ∃ msg p0 p1 p2 p3 p4 p5 p6 p7 p8 p9 p10 p11 p12 p13 p14 p15 p16 j0 j1, defBody st = errBody c f msg p0 p1 p2 p3 p4 p5 p6 p7 p8 p9 p10 p11 p12 p13 p14 p15 p16 j0 j1 ∧ (p2.endLine == p7.line) = true ∧ decide (msg.length ≤ 10000) = true
  sc : nscB ["self", f, "__class__"] ["self", f] ["__class__"] (defScope st) = true
  hd : ∃ ar, ((defArgs st).posonlyargs ++ (defArgs st).args).head? = some ar ∧ ar.arg = ("self" : Str)
  bind : ∀ (qual : Str) (cl : List (Str × Addr)) (kV doc pm : Value) (an : Option Addr) (cdv ct : Value) (us : List Value), us.length = 2 → bindArgs (PySem.W.fnX "__init__" qual (defArgs st) (defBody st) (defScope st) cl .none kV doc pm an cdv ct) ⟨us, []⟩ = pure (List.zip (["self", f] : List Str) us)
  ks : (defScope st).names.lookup ("super" : Str) = some .globalImplicit
  top : (P.main.scope.names.lookup ("super" : Str)).isSome = false
  fd : ((f == ("__debug__" : Str)) || (f == ("__classdict__" : Str))) = false
theorem err_of {P : Program} {w : World} {K : PySem.W.Frag} {mg : Str → Option Value} {base h : Heap} {c f : Str} {st : Stmt} (X : K.In h) (G : h.Ns mainGlobals mg) (B : errB K P.main.file c = true) (V : fnE K c = (ErrG.mk c st).val) (T : ErrT P st c f) (hs : mg "super" = none) (n1 : (Fg.noat c "code").ok K = true) (n2 : (Fg.noat c f).ok K = true) : ErrOk P w K mg base c (some f) := by
  obtain ⟨b0, B⟩ := ba B
  obtain ⟨b1, B⟩ := ba B
  obtain ⟨b2, B⟩ := ba B
  obtain ⟨b3, B⟩ := ba B
  obtain ⟨b4, B⟩ := ba B
  obtain ⟨b5, B⟩ := ba B
  obtain ⟨b6, B⟩ := ba B
  have O := oexB_ok b1
  unfold fnE at V
  split at B
  case h_2 => cases B
  rename_i oc od fd osl lk
  rw [lk] at V
  obtain ⟨m1, m2, m3, m4, m5, m6, m7, m8, m9, m10, m11, m12, m13, m14, m15⟩ := fd
  have V : some (m1, m2, m3, m4, m5, m6, m7.map (·.1), m15) = (ErrG.mk c st).val := V
  unfold ErrG.val at V
  simp only [Option.some.injEq, Prod.mk.injEq] at V
  obtain ⟨rfl, rfl, rfl, rfl, rfl, rfl, v7, rfl⟩ := V
  obtain ⟨B1, B⟩ := ba B
  dsimp only at B1 B
  have e8 : m8 = .none := by
    split at B1
    · rfl
    · cases B1
  subst e8
  obtain ⟨cc, rfl⟩ : ∃ cc, m7 = [(("__class__" : Str), cc)] := by
    match m7, v7 with
    | [(nm, cc)], v => exact ⟨cc, by have v : [nm] = [("__class__" : Str)] := v; cases v; rfl⟩
  obtain ⟨cda, rfl⟩ : ∃ cda, m13 = .ref cda := by
    cases m13 with
    | ref a => exact ⟨a, rfl⟩
    | _ => cases B
  have B : (PySem.W.codeIn K (.ref cda) (c ++ ".__init__") && ((match K.lookup cda with
          | some ⟨_, _, .fields vs, _⟩ => (match (vs[2]? : Option Value) with
            | some (.str fl _) => P.main.file == fl
            | _ => false)
          | _ => false) && (match K.lookup cc with
            | some ⟨_, _, .cell (some (.ref C')), _⟩ => C' == ga K c
            | _ => false))) = true := B
  obtain ⟨B2, B⟩ := ba B
  obtain ⟨B3, B4⟩ := ba B
  obtain ⟨msg, p0, p1, p2, p3, p4, p5, p6, p7, p8, p9, p10, p11, p12, p13, p14, p15, p16, j0, j1, hb, hpos, hmsg⟩ := T.body
  have S := nscope_by T.sc
  have cell : ∃ cl cld csl, K.lookup cc = some (⟨cl, cld, .cell (some (.ref (ga K c))), csl⟩ : Obj) := by
    split at B4
    · rename_i q1 q2 C' q3 q4
      rw [beq_iff_eq] at B4
      exact ⟨_, _, _, by rw [q4, B4]⟩
    · cases B4
  have code : ∃ ccl cdd vs ccs file tf, K.lookup cda = some (⟨ccl, cdd, .fields vs, ccs⟩ : Obj) ∧ vs[2]? = some (.str file tf) ∧ ((P.main.file : Str) == file) = true := by
    split at B3
    · rename_i q1 q2 vs q3 q4
      split at B3
      · rename_i fl t q5
        exact ⟨_, _, _, _, _, _, q4, q5, B3⟩
      · cases B3
    · cases B3
  obtain ⟨ar, a1, a2⟩ := T.hd
  have SF : SupF P K mg (ga K c) (ma K (ga K c) "__init__") cda cc (defScope st) "self" := ⟨⟨_, _, _, _, ar, lk, a1, a2⟩, code, cell, hs, T.top, T.ks, S.frk _ (by simp), S.par _ (by simp), S.kind, eqO_ok b4, of_decide_eq_true b5, eqO_ok b6⟩
  have hf := T.fd
  rw [Bool.or_eq_false_iff] at hf
  exact ⟨_, _, _, ["self", f], He.glo_ok X G b0, O, eqO_ok b2, of_decide_eq_true b3, Binds.all fun us hu => T.bind _ _ _ _ _ _ _ _ us hu,
    err_init (w := w) (base := base) O SF lk B2 S hb hpos (of_decide_eq_true hmsg) (He.noat_ok n1) (He.noat_ok n2) hf.1 hf.2⟩
/-! ### the def that tries -/
theorem tryc_of {K : PySem.W.Frag} {h : Heap} {mg : Str → Option Value} {c b1 b2 : Str} {ats : List Str} (X : K.In h) (G : h.Ns mainGlobals mg) (g0 : (Fg.glo c).ok K = true) (g1 : (Fg.glo b1).ok K = true) (g2 : (Fg.glo b2).ok K = true) (hx : (Fg.xf c ats).ok K = true) (h1 : (Fg.exm c b1 true).ok K = true) : TryC K mg b1 b2 ats c := by
  obtain ⟨x1, x2⟩ := ba hx
  exact ⟨_, _, _, He.glo_ok X G g0, He.glo_ok X G g1, He.glo_ok X G g2, ⟨xfB_ok x1, fun n hn => eqO_ok (List.all_eq_true.mp x2 n hn)⟩, .inl (of_decide_eq_true h1)⟩
/-! ### the run of the top, with errors and tables -/
section
variable {file : Str} {fa : List Fg} {fn : List DefG} {ts : List TabG} {es : List ErrG} {tf : List He.Defn} {w : World} {h : Heap} {K : PySem.W.Frag}
theorem SaysH.err (c : SaysH file fa fn ts es tf w h K) (i : Nat) {e : ErrG} (he : es[i]? = some e := by rfl) : errB K file e.c = true ∧ fnE K e.c = e.val := by
  refine ⟨List.all_eq_true.mp c.e2 e (List.mem_of_getElem? he), ?_⟩
  have z : (es.map fun e => fnE K e.c)[i]? = (es.map ErrG.val)[i]? := by rw [c.e1]
  rw [List.getElem?_map, List.getElem?_map, he] at z
  exact Option.some.inj z
end
theorem walk_t {l : PySem.W.OpenLaw} {n k deep : Nat} {file : Str} {fa : List Fg} {fn : List DefG} {ts : List TabG} {es : List ErrG} {tf : List He.Defn} {q : Program} {loose : List Str} {XP : (Str → Option Value) → Heap → Prop} {d : DefRec} {x : Str}
    (hn : l.most = some n) (hn2 : n ≤ 63) (hdf : d.params.defaults = []) (hr : Room k callerA) (hd : d.name = ("law" : Str)) (htf : (("law" : Str), none) ∈ tf)
    (F : ∀ (w : World) (mg : Str → Option Value) (f : Addr) (h : Heap) (K : PySem.W.Frag), K.In h → h.Ns mainGlobals mg → mg ("law" : Str) = some (.ref f) → SaysH file fa fn ts es tf w h K →
      ∃ fd : FuncData, (∀ (s : Shared) (v : Value), BindsTo s fd ⟨[v], []⟩ [(x, v)]) ∧ ∀ base : Heap, K.In base → base.Ns mainGlobals mg → (∀ p ∈ tf, TabB base mg (He.cT K p).1 (He.cT K p).2) → FnOk l.prog w K mg base (L2.CX l.prog w) k f fd [x] (spLawT K (He.cT K (("law" : Str), none)).2)) :
    PySem.W.WalkO q loose XP (hookH file deep fa fn ts es tf).says l.row.toRowW d [] (fun f vs => PySem.call f vs) := by
  refine walk_ofTsE (x := x) (CX := fun w => L2.CX l.prog w) hn (Nat.le_trans hn2 (by decide)) hdf hr (fun w mg f h YY G hmg => ?_) fun w H s e s' h => by
    obtain ⟨_, _, _, _, _, _, _, _, _, _, _, _, z⟩ := h
    exact z
  obtain ⟨K, KX, c⟩ := YY
  rw [hd] at hmg
  obtain ⟨fd, hb, hF⟩ := F w mg f h K KX G hmg c
  have mem : ∀ {p : Addr × Addr}, p ∈ tf.map (He.cT K) → ∃ q ∈ tf, He.cT K q = p := fun hp => List.mem_map.mp hp
  refine ⟨K, KX, fd, tf.map (He.cT K), spLawT K (He.cT K (("law" : Str), none)).2, fun p hp => ?_, fun p hp => ?_, fun p hp => ?_, hb, fun H a ns hl _ hH hS => ?_, fun base kb gb tb => hF base kb gb fun p hp => tb _ (List.mem_map.mpr ⟨p, hp, rfl⟩)⟩
  · obtain ⟨q, hq, rfl⟩ := mem hp
    exact c.empty q hq
  · obtain ⟨q, hq, rfl⟩ := mem hp
    exact c.out q hq
  · obtain ⟨q, hq, rfl⟩ := mem hp
    exact PySem.W.codeHd_of_K KX (c.hd q hq)
  · exact ⟨a, ns, rfl, Nat.le_trans hl hn2, hH _ (List.mem_map.mpr ⟨_, htf, rfl⟩), hS, fun _ => rfl⟩
/-- the frame of the law makes lambdas -/
theorem lamC_law {P : Program} {w : World} {K : PySem.W.Frag} {mg : Str → Option Value} {base : Heap} {N : List Str} {st : Stmt} {f : Addr} {cdv : Value} {A : Around} {outer : List PySem.Env} {s : Shared} {H : Hp} {E : XK} {F : Nat → LamF} {h : Heap} (X : K.In h) (G : h.Ns mainGlobals mg) (gl : (Fg.glo "law").ok K = true) (hmg : mg "law" = some (.ref f))
    (lk : ∃ oc od osl dV kV doc pm an ct, K.lookup f = some ⟨oc, od, .func (PySem.W.fnOf "law" "law" (defArgs st) (defBody st) (defScope st) dV kV doc pm an cdv ct), osl⟩) (hc : ∃ c, cdv = .ref c) (TB : TabB base mg (He.cT K (("law" : Str), none)).1 (He.cT K (("law" : Str), none)).2) :
    LamC (cxOf (L2.CX P w) P w K mg base N "law" (defScope st) f cdv A outer s H E) ⟨(cxOf (L2.CX P w) P w K mg base N "law" (defScope st) f cdv A outer s H E).env.cells, F⟩ (He.cT K (("law" : Str), none)).2 := by
  obtain ⟨oc, od, osl, dV, kV, doc, pm, an, ct, lk⟩ := lk
  obtain ⟨c, rfl⟩ := hc
  have e := hmg.symm.trans (He.glo_ok X G gl)
  have e2 : f = ga K "law" := by
    injection (Option.some.inj e)
  have lk' : K.lookup (He.fAd K (("law" : Str), none)) = some ⟨oc, od, .func (PySem.W.fnOf "law" "law" (defArgs st) (defBody st) (defScope st) dV kV doc pm an (.ref c) ct), osl⟩ := by
    show K.lookup (ga K "law") = _
    rw [← e2]
    exact lk
  refine ⟨rfl, c, rfl, ?_⟩
  have e3 : (He.cT K (("law" : Str), none)).1 = c := He.codeOf_eq lk' rfl
  rw [e3] at TB
  exact TB
end GD
/-! FM: forms, in plain Lean: two tables and a rul behind them; products. -/
namespace FM
/-- the goal's end (true: top), its depth, whether the card is turned -/
abbrev En := Bool × Int × Bool
abbrev goal (e : En) : Bool × Int := (e.1, e.2.1)
def rul (t : Bool) (s : Int) (e : Bool) (d : Int) : En := if t then (!e, if e then d - s else d + s, true) else (e, if e then d + s else d - s, false)
def tab (A B : List En) (e : Bool) : List En := if e then A else B
def look (t : Bool) (s : Int) (A B : List En) (e : Bool) (d : Nat) : En := ((tab A B e)[d]?).getD (rul t s e d)
def cnts (t : Bool) (s : Int) (a b : Nat) : Int × Int := if t then ((b : Int) + s, (a : Int) - s) else ((a : Int) + s, (b : Int) - s)
def wanted (x y : Int) : List (Bool × Int) := ((List.range x.toNat).map fun d : Nat => (true, (d : Int))) ++ ((List.range y.toNat).map fun d : Nat => (false, (d : Int)))
/-- the tables are those of a form -/
structure Parts (t : Bool) (s : Int) (A B : List En) : Prop where
  p1 : 0 ≤ (cnts t s A.length B.length).1
  p2 : 0 ≤ (cnts t s A.length B.length).2
  perm : ((A ++ B).map goal).Perm (wanted (cnts t s A.length B.length).1 (cnts t s A.length B.length).2)
/-- a map of end places onto end places, one to one -/
structure Bij (f : Bool → Nat → En) : Prop where
  pos : ∀ e d, 0 ≤ (f e d).2.1
  inj : ∀ e d e' d', goal (f e d) = goal (f e' d') → e = e' ∧ d = d'
  sur : ∀ (g : Bool) (n : Nat), ∃ e d, goal (f e d) = (g, (n : Int))
theorem mem_wanted {x y : Int} {g : Bool} {n : Int} : (g, n) ∈ wanted x y ↔ 0 ≤ n ∧ n < (if g then x else y) := by
  unfold wanted
  simp only [List.mem_append, List.mem_map, List.mem_range, Prod.mk.injEq]
  cases g with
  | true =>
    simp only [if_true]
    constructor
    · rintro (⟨d, h, _, rfl⟩ | ⟨d, _, h, _⟩)
      · omega
      · cases h
    · intro h
      exact .inl ⟨n.toNat, by omega, by simp, by omega⟩
  | false =>
    simp only [Bool.false_eq_true, if_false]
    constructor
    · rintro (⟨d, _, h, _⟩ | ⟨d, h, _, rfl⟩)
      · cases h
      · omega
    · intro h
      exact .inr ⟨n.toNat, by omega, by simp, by omega⟩
theorem nodup_wanted (x y : Int) : (wanted x y).Nodup := by
  unfold wanted
  rw [List.nodup_append]
  refine ⟨?_, ?_, ?_⟩
  · rw [List.Nodup, List.pairwise_map]
    exact (List.nodup_range).imp fun h z => h (by have z' := congrArg Prod.snd z; dsimp only at z'; omega)
  · rw [List.Nodup, List.pairwise_map]
    exact (List.nodup_range).imp fun h z => h (by have z' := congrArg Prod.snd z; dsimp only at z'; omega)
  · intro a ha b hb z
    obtain ⟨_, _, rfl⟩ := List.mem_map.mp ha
    obtain ⟨_, _, rfl⟩ := List.mem_map.mp hb
    cases z
section
variable {t : Bool} {s : Int} {A B : List En}
theorem look_in {e : Bool} {d : Nat} (h : d < (tab A B e).length) : look t s A B e d = (tab A B e)[d] := by
  unfold look
  rw [List.getElem?_eq_getElem h]
  rfl
theorem look_out {e : Bool} {d : Nat} (h : (tab A B e).length ≤ d) : look t s A B e d = rul t s e d := by
  unfold look
  rw [List.getElem?_eq_none h]
  rfl
/-- where the rul leads, behind tables of a and b -/
theorem rule_goal (t : Bool) (s : Int) (e : Bool) (d : Int) : goal (rul t s e d) = (if t then !e else e, if t then (if e then d - s else d + s) else (if e then d + s else d - s)) := by
  unfold rul
  cases t <;> cases e <;> rfl
theorem rule_inj {e e' : Bool} {d d' : Int} (h : goal (rul t s e d) = goal (rul t s e' d')) : e = e' ∧ d = d' := by
  rw [rule_goal, rule_goal, Prod.mk.injEq] at h
  obtain ⟨h1, h2⟩ := h
  cases t <;> cases e <;> cases e' <;> simp at h1 h2 ⊢ <;> omega
theorem rule_far {e : Bool} {d : Nat} (h : (tab A B e).length ≤ d) : ¬ ((goal (rul t s e d)).2 < if (goal (rul t s e d)).1 then (cnts t s A.length B.length).1 else (cnts t s A.length B.length).2) := by
  rw [rule_goal]
  unfold cnts tab at *
  cases t <;> cases e <;> simp at h ⊢ <;> omega
/-- a goal behind the wanted ones is the rul's -/
theorem rule_hit (p1 : 0 ≤ (cnts t s A.length B.length).1) (p2 : 0 ≤ (cnts t s A.length B.length).2) {g : Bool} {n : Nat} (h : ¬ ((n : Int) < if g then (cnts t s A.length B.length).1 else (cnts t s A.length B.length).2)) : ∃ e d, (tab A B e).length ≤ d ∧ goal (rul t s e (d : Nat)) = (g, (n : Int)) := by
  unfold cnts at *
  cases t with
  | false =>
    cases g with
    | true => refine ⟨true, ((n : Int) - s).toNat, ?_, ?_⟩ <;> simp [rul, tab] at * <;> omega
    | false => refine ⟨false, ((n : Int) + s).toNat, ?_, ?_⟩ <;> simp [rul, tab] at * <;> omega
  | true =>
    cases g with
    | true => refine ⟨false, ((n : Int) - s).toNat, ?_, ?_⟩ <;> simp [rul, tab] at * <;> omega
    | false => refine ⟨true, ((n : Int) + s).toNat, ?_, ?_⟩ <;> simp [rul, tab] at * <;> omega
theorem rule_pos (p1 : 0 ≤ (cnts t s A.length B.length).1) (p2 : 0 ≤ (cnts t s A.length B.length).2) {e : Bool} {d : Nat} (h : (tab A B e).length ≤ d) : 0 ≤ (rul t s e d).2.1 := by
  unfold cnts rul tab at *
  cases t <;> cases e <;> simp at * <;> omega
/-- the place in the joined table -/
def ix (A : List En) (e : Bool) (d : Nat) : Nat := if e then d else A.length + d
theorem look_ix {e : Bool} {d : Nat} (h : d < (tab A B e).length) : ix A e d < (A ++ B).length ∧ (A ++ B)[ix A e d]? = some (look t s A B e d) := by
  rw [look_in h]
  unfold ix tab at *
  cases e with
  | true =>
    simp at h ⊢
    exact ⟨by omega, by rw [List.getElem?_append_left h, List.getElem?_eq_getElem h]⟩
  | false =>
    simp at h ⊢
    exact ⟨h, by rw [List.getElem?_append_right (by omega), Nat.add_sub_cancel_left, List.getElem?_eq_getElem h]⟩
theorem ix_back {i : Nat} (h : i < (A ++ B).length) : ∃ e d, d < (tab A B e).length ∧ ix A e d = i := by
  by_cases hi : i < A.length
  · exact ⟨true, i, hi, rfl⟩
  · refine ⟨false, i - A.length, ?_, ?_⟩
    · simp [tab] at *; omega
    · unfold ix; simp; omega
theorem ix_inj {e e' : Bool} {d d' : Nat} (h : d < (tab A B e).length) (h' : d' < (tab A B e').length) (q : ix A e d = ix A e' d') : e = e' ∧ d = d' := by
  unfold ix tab at *
  cases e <;> cases e' <;> simp at * <;> omega
theorem Parts.bij (h : Parts t s A B) : Bij (look t s A B) := by
  have hn : ((A ++ B).map goal).Nodup := h.perm.nodup_iff.mpr (nodup_wanted _ _)
  have tin : ∀ {e : Bool} {d : Nat}, d < (tab A B e).length → goal (look t s A B e d) ∈ wanted (cnts t s A.length B.length).1 (cnts t s A.length B.length).2 := fun {e d} hd => by
    obtain ⟨_, q⟩ := look_ix (t := t) (s := s) hd
    exact h.perm.mem_iff.mp (List.mem_map.mpr ⟨_, List.mem_of_getElem? q, rfl⟩)
  refine ⟨fun e d => ?_, fun e d e' d' q => ?_, fun g n => ?_⟩
  · by_cases hd : d < (tab A B e).length
    · have z := tin hd
      exact (mem_wanted.mp z).1
    · rw [look_out (by omega)]
      exact rule_pos h.p1 h.p2 (by omega)
  · by_cases hd : d < (tab A B e).length
    · by_cases hd' : d' < (tab A B e').length
      · obtain ⟨l1, q1⟩ := look_ix (t := t) (s := s) hd
        obtain ⟨l2, q2⟩ := look_ix (t := t) (s := s) hd'
        refine ix_inj hd hd' ?_
        have a1 : ((A ++ B).map goal)[ix A e d]? = some (goal (look t s A B e d)) := by rw [List.getElem?_map, q1]; rfl
        have a2 : ((A ++ B).map goal)[ix A e' d']? = some (goal (look t s A B e' d')) := by rw [List.getElem?_map, q2]; rfl
        rw [← q] at a2
        exact (List.getElem?_inj (by rw [List.length_map]; exact l1) hn).mp (a1.trans a2.symm)
      · have z := tin hd
        rw [q, look_out (by omega)] at z
        exact absurd (mem_wanted.mp (show ((goal (rul t s e' d')).1, (goal (rul t s e' d')).2) ∈ _ from z)).2 (rule_far (by omega))
    · by_cases hd' : d' < (tab A B e').length
      · have z := tin hd'
        rw [← q, look_out (by omega)] at z
        exact absurd (mem_wanted.mp (show ((goal (rul t s e d)).1, (goal (rul t s e d)).2) ∈ _ from z)).2 (rule_far (by omega))
      · rw [look_out (by omega), look_out (by omega)] at q
        obtain ⟨h1, h2⟩ := rule_inj q
        exact ⟨h1, by omega⟩
  · by_cases hw : (n : Int) < if g then (cnts t s A.length B.length).1 else (cnts t s A.length B.length).2
    · have z : (g, (n : Int)) ∈ (A ++ B).map goal := h.perm.mem_iff.mpr (mem_wanted.mpr ⟨by omega, hw⟩)
      obtain ⟨x, hx, e1⟩ := List.mem_map.mp z
      obtain ⟨i, hi, e2⟩ := List.mem_iff_getElem.mp hx
      obtain ⟨e, d, hd, e3⟩ := ix_back hi
      obtain ⟨_, q⟩ := look_ix (t := t) (s := s) hd
      refine ⟨e, d, ?_⟩
      rw [e3, List.getElem?_eq_getElem hi, e2] at q
      rw [← Option.some.inj q]
      exact e1
    · obtain ⟨e, d, h1, h2⟩ := rule_hit h.p1 h.p2 hw
      exact ⟨e, d, by rw [look_out h1]; exact h2⟩
theorem Bij.parts (h : Bij (look t s A B)) : Parts t s A B := by
  have p1 : 0 ≤ (cnts t s A.length B.length).1 := by
    have z1 := h.pos true A.length
    have z2 := h.pos false B.length
    rw [look_out (by simp [tab])] at z1 z2
    unfold rul cnts at *
    cases t <;> simp at * <;> omega
  have p2 : 0 ≤ (cnts t s A.length B.length).2 := by
    have z1 := h.pos true A.length
    have z2 := h.pos false B.length
    rw [look_out (by simp [tab])] at z1 z2
    unfold rul cnts at *
    cases t <;> simp at * <;> omega
  refine ⟨p1, p2, (List.perm_ext_iff_of_nodup ?_ (nodup_wanted _ _)).mpr fun ⟨g, n⟩ => ⟨fun hm => ?_, fun hm => ?_⟩⟩
  · rw [List.Nodup, List.pairwise_iff_getElem]
    intro i j hi hj hij z
    rw [List.length_map] at hi hj
    obtain ⟨e, d, hd, rfl⟩ := ix_back hi
    obtain ⟨e', d', hd', rfl⟩ := ix_back hj
    obtain ⟨_, q1⟩ := look_ix (t := t) (s := s) hd
    obtain ⟨_, q2⟩ := look_ix (t := t) (s := s) hd'
    rw [List.getElem?_eq_getElem hi] at q1
    rw [List.getElem?_eq_getElem hj] at q2
    rw [List.getElem_map, List.getElem_map, Option.some.inj q1, Option.some.inj q2] at z
    obtain ⟨rfl, rfl⟩ := h.inj e d e' d' z
    omega
  · obtain ⟨x, hx, e1⟩ := List.mem_map.mp hm
    obtain ⟨i, hi, e2⟩ := List.mem_iff_getElem.mp hx
    obtain ⟨e, d, hd, e3⟩ := ix_back hi
    obtain ⟨_, q⟩ := look_ix (t := t) (s := s) hd
    rw [e3, List.getElem?_eq_getElem hi, e2] at q
    have q := Option.some.inj q
    rw [q] at e1
    have hn : 0 ≤ n := by
      have := h.pos e d
      have e4 : (look t s A B e d).2.1 = n := congrArg Prod.snd e1
      omega
    refine mem_wanted.mpr ⟨hn, ?_⟩
    refine Decidable.byContradiction fun hw => ?_
    obtain ⟨n', rfl⟩ := Int.eq_ofNat_of_zero_le hn
    obtain ⟨e', d', h1, h2⟩ := rule_hit p1 p2 hw
    have z : goal (look t s A B e d) = goal (look t s A B e' d') := by rw [e1, look_out h1, h2]
    obtain ⟨rfl, rfl⟩ := h.inj _ _ _ _ z
    omega
  · obtain ⟨hn, hw⟩ := mem_wanted.mp hm
    obtain ⟨n', rfl⟩ := Int.eq_ofNat_of_zero_le hn
    obtain ⟨e, d, q⟩ := h.sur g n'
    by_cases hd : d < (tab A B e).length
    · obtain ⟨_, q1⟩ := look_ix (t := t) (s := s) hd
      exact List.mem_map.mpr ⟨_, List.mem_of_getElem? q1, q⟩
    · rw [look_out (by omega)] at q
      have z := rule_far (t := t) (s := s) (A := A) (B := B) (e := e) (d := d) (by omega)
      rw [q] at z
      exact absurd hw z
end
/-! ### tables without what the rul tells -/
def trimN (t : Bool) (s : Int) (e : Bool) (T : List En) : Nat → Nat
  | 0 => 0
  | n + 1 => if T[n]? = some (rul t s e (n : Nat)) then trimN t s e T n else n + 1
def trim (t : Bool) (s : Int) (e : Bool) (T : List En) : List En := T.take (trimN t s e T T.length)
theorem trimN_le (t : Bool) (s : Int) (e : Bool) (T : List En) : ∀ n, trimN t s e T n ≤ n
  | 0 => Nat.le_refl _
  | n + 1 => by
    unfold trimN
    split
    · exact Nat.le_succ_of_le (trimN_le t s e T n)
    · exact Nat.le_refl _
theorem trimN_rule (t : Bool) (s : Int) (e : Bool) (T : List En) : ∀ n k, trimN t s e T n ≤ k → k < n → T[k]? = some (rul t s e (k : Nat))
  | 0, k, _, h => by omega
  | n + 1, k, h1, h2 => by
    unfold trimN at h1
    split at h1
    · rename_i q
      by_cases hk : k = n
      · rw [hk]; exact q
      · exact trimN_rule t s e T n k h1 (by omega)
    · omega
theorem trimN_last (t : Bool) (s : Int) (e : Bool) (T : List En) : ∀ n k, trimN t s e T n = k + 1 → T[k]? ≠ some (rul t s e (k : Nat))
  | 0, k, h => by cases h
  | n + 1, k, h => by
    unfold trimN at h
    split at h
    · exact trimN_last t s e T n k h
    · rename_i q
      have : n = k := by omega
      rw [← this]
      exact q
theorem trim_len (t : Bool) (s : Int) (e : Bool) (T : List En) : (trim t s e T).length = trimN t s e T T.length := by
  unfold trim
  rw [List.length_take]
  have := trimN_le t s e T T.length
  omega
theorem trim_get (t : Bool) (s : Int) (e : Bool) (T : List En) (d : Nat) : ((trim t s e T)[d]?).getD (rul t s e d) = (T[d]?).getD (rul t s e d) := by
  by_cases h : d < trimN t s e T T.length
  · unfold trim
    rw [List.getElem?_take_of_lt h]
  · have h1 : (trim t s e T)[d]? = none := List.getElem?_eq_none (by rw [trim_len]; omega)
    rw [h1]
    by_cases h2 : d < T.length
    · rw [trimN_rule t s e T T.length d (by omega) h2]
      rfl
    · rw [List.getElem?_eq_none (by omega)]
theorem look_trim (t : Bool) (s : Int) (A B : List En) : look t s (trim t s true A) (trim t s false B) = look t s A B := by
  funext e d
  unfold look tab
  cases e with
  | true => exact trim_get t s true A d
  | false => exact trim_get t s false B d
/-- a table is told by what it tells -/
theorem trim_ext {t : Bool} {s : Int} {e : Bool} {T T' : List En} (h : ∀ d : Nat, (T[d]?).getD (rul t s e d) = (T'[d]?).getD (rul t s e d)) : trim t s e T = trim t s e T' := by
  have hle : ∀ {U V : List En}, (∀ d : Nat, (U[d]?).getD (rul t s e d) = (V[d]?).getD (rul t s e d)) → trimN t s e U U.length ≤ trimN t s e V V.length := by
    intro U V h
    refine Decidable.byContradiction fun hn => ?_
    obtain ⟨k, hk⟩ : ∃ k, trimN t s e U U.length = k + 1 := ⟨trimN t s e U U.length - 1, by omega⟩
    have h1 := trimN_last t s e U U.length k hk
    have hl := trimN_le t s e U U.length
    have h2 : k < U.length := by omega
    have h3 := h k
    have h4 : (trim t s e V)[k]? = none := List.getElem?_eq_none (by rw [trim_len]; omega)
    rw [← trim_get t s e V k, h4, List.getElem?_eq_getElem h2] at h3
    rw [List.getElem?_eq_getElem h2] at h1
    exact h1 (by rw [show U[k] = rul t s e (k : Nat) from h3])
  have e1 : trimN t s e T T.length = trimN t s e T' T'.length := Nat.le_antisymm (hle h) (hle fun d => (h d).symm)
  refine List.ext_getElem? fun d => ?_
  by_cases hd : d < trimN t s e T T.length
  · have l1 : d < (trim t s e T).length := by rw [trim_len]; exact hd
    have l2 : d < (trim t s e T').length := by rw [trim_len, ← e1]; exact hd
    have z := h d
    rw [← trim_get t s e T d, ← trim_get t s e T' d, List.getElem?_eq_getElem l1, List.getElem?_eq_getElem l2] at z
    rw [List.getElem?_eq_getElem l1, List.getElem?_eq_getElem l2]
    exact congrArg some z
  · rw [List.getElem?_eq_none (by rw [trim_len]; omega), List.getElem?_eq_none (by rw [trim_len, ← e1]; omega)]
theorem trim_trim (t : Bool) (s : Int) (e : Bool) (T : List En) : trim t s e (trim t s e T) = trim t s e T := trim_ext fun d => trim_get t s e T d
/-! ### products -/
def comp (f g : Bool → Nat → En) (e : Bool) (d : Nat) : En := ((g (f e d).1 (f e d).2.1.toNat).1, (g (f e d).1 (f e d).2.1.toNat).2.1, !decide ((f e d).2.2 = (g (f e d).1 (f e d).2.1.toNat).2.2))
theorem Bij.comp {f g : Bool → Nat → En} (hf : Bij f) (hg : Bij g) : Bij (comp f g) := by
  refine ⟨fun e d => hg.pos _ _, fun e d e' d' q => ?_, fun g' n => ?_⟩
  · obtain ⟨h1, h2⟩ := hg.inj (f e d).1 (f e d).2.1.toNat (f e' d').1 (f e' d').2.1.toNat q
    refine hf.inj e d e' d' (Prod.ext h1 ?_)
    have a := hf.pos e d
    have b := hf.pos e' d'
    show (f e d).2.1 = (f e' d').2.1
    omega
  · obtain ⟨e1, d1, q1⟩ := hg.sur g' n
    obtain ⟨e, d, q⟩ := hf.sur e1 d1
    refine ⟨e, d, ?_⟩
    have a : (f e d).1 = e1 := congrArg Prod.fst q
    have b : (f e d).2.1 = (d1 : Int) := congrArg Prod.snd q
    show goal (g (f e d).1 (f e d).2.1.toNat) = _
    rw [a, b]
    exact q1
/-- the product's tables, the rul behind them -/
def mulT (t1 t2 : Bool) : Bool := !decide (t1 = t2)
def mulS (t2 : Bool) (s1 s2 : Int) : Int := s2 + if t2 then -s1 else s1
/-- how far the product's tables reach -/
def far (t1 : Bool) (s1 : Int) (A1 B1 A2 B2 : List En) : Int × Int :=
  (max (A1.length : Int) (if t1 then (B2.length : Int) + s1 else (A2.length : Int) - s1), max (B1.length : Int) (if t1 then (A2.length : Int) - s1 else (B2.length : Int) + s1))
theorem comp_rule {t1 t2 : Bool} {s1 s2 : Int} {A1 B1 A2 B2 : List En} (h1 : Bij (look t1 s1 A1 B1)) {e : Bool} {d : Nat} (hd : (if e then (far t1 s1 A1 B1 A2 B2).1 else (far t1 s1 A1 B1 A2 B2).2) ≤ (d : Int)) :
    comp (look t1 s1 A1 B1) (look t2 s2 A2 B2) e d = rul (mulT t1 t2) (mulS t2 s1 s2) e d := by
  have l1 : (tab A1 B1 e).length ≤ d := by
    unfold far tab at *
    cases e <;> simp at * <;> omega
  have e1 := look_out (t := t1) (s := s1) l1
  have hp := h1.pos e d
  rw [e1] at hp
  unfold comp
  rw [e1]
  have l2 : (tab A2 B2 (rul t1 s1 e d).1).length ≤ (rul t1 s1 e d).2.1.toNat := by
    unfold rul tab far at *
    cases t1 <;> cases e <;> simp at * <;> omega
  rw [look_out l2]
  have hc : (((rul t1 s1 e d).2.1.toNat : Nat) : Int) = (rul t1 s1 e d).2.1 := by omega
  rw [hc]
  unfold rul mulT mulS
  cases t1 <;> cases t2 <;> cases e <;> simp <;> omega
def mulTab (f g : Bool → Nat → En) (e : Bool) (n : Int) : List En := (List.range n.toNat).map fun d => comp f g e d
theorem look_mul {t1 t2 : Bool} {s1 s2 : Int} {A1 B1 A2 B2 : List En} (h1 : Bij (look t1 s1 A1 B1)) : look (mulT t1 t2) (mulS t2 s1 s2) (mulTab (look t1 s1 A1 B1) (look t2 s2 A2 B2) true (far t1 s1 A1 B1 A2 B2).1) (mulTab (look t1 s1 A1 B1) (look t2 s2 A2 B2) false (far t1 s1 A1 B1 A2 B2).2) = comp (look t1 s1 A1 B1) (look t2 s2 A2 B2) := by
  funext e d
  have key : ∀ n : Int, (n ≤ (d : Int) → comp (look t1 s1 A1 B1) (look t2 s2 A2 B2) e d = rul (mulT t1 t2) (mulS t2 s1 s2) e d) → ((mulTab (look t1 s1 A1 B1) (look t2 s2 A2 B2) e n)[d]?).getD (rul (mulT t1 t2) (mulS t2 s1 s2) e d) = comp (look t1 s1 A1 B1) (look t2 s2 A2 B2) e d := by
    intro n hn
    unfold mulTab
    by_cases hd : d < n.toNat
    · rw [List.getElem?_map, List.getElem?_range hd]
      rfl
    · rw [List.getElem?_eq_none (by simp; omega), hn (by omega)]
      rfl
  unfold look tab
  cases e with
  | true => exact key _ fun h => comp_rule h1 (by simpa using h)
  | false => exact key _ fun h => comp_rule h1 (by simpa using h)
end FM
/-! GDS: how mirrors are reckoned. -/
namespace GD
open PySem PySem.Spec PyProof.Rows L2
section
variable {i j : Int} {x y : Str} {a b : Bool} {xs ys : List D} {k : Nat} {m : Mem} {ρ : Env} {d e : D}
@[simp] theorem oAdd_ii : oAdd (.d (.int i)) (.d (.int j)) m = .ok (.d (.int (i + j))) m := Eq.trans rfl rfl
@[simp] theorem oAdd_tt : oAdd (.d (.tup xs)) (.d (.tup ys)) m = if xs.length + ys.length ≤ 100000 then .ok (.d (.tup (xs ++ ys))) m else .bad := Eq.trans rfl rfl
@[simp] theorem oAdd_ss : oAdd (.d (.str x)) (.d (.str y)) m = if x.length + y.length ≤ 100000 then .ok (.d (.str (x ++ y))) m else .bad := Eq.trans rfl rfl
@[simp] theorem oAdd_ll : oAdd (.d (.lst xs)) (.d (.lst ys)) m = if xs.length + ys.length ≤ 100000 then .ok (.d (.lst (xs ++ ys))) m else .bad := Eq.trans rfl rfl
@[simp] theorem oSub_ii : oSub (.d (.int i)) (.d (.int j)) m = .ok (.d (.int (i - j))) m := Eq.trans rfl rfl
@[simp] theorem oMul_ii : oMul (.d (.int i)) (.d (.int j)) m = if small i && small j then .ok (.d (.int (i * j))) m else .bad := Eq.trans rfl rfl
@[simp] theorem oDiv_ii : oDiv (.d (.int i)) (.d (.int j)) m = if decide (0 < j) && small j then .ok (.d (.int (i / j))) m else .bad := Eq.trans rfl rfl
@[simp] theorem oMod_ii : oMod (.d (.int i)) (.d (.int j)) m = if 0 < j then .ok (.d (.int (i % j))) m else .bad := Eq.trans rfl rfl
theorem oPow_ii : oPow (.d (.int i)) (.d (.int j)) m = if (decide (0 ≤ j) && decide (j ≤ 1000)) && small i then .ok (.d (.int (i ^ j.toNat))) m else .bad := rfl
@[simp] theorem oNeg_i : oNeg (.d (.int i)) m = .ok (.d (.int (-i))) m := Eq.trans rfl rfl
@[simp] theorem oLt_ii : oLt (.d (.int i)) (.d (.int j)) m = .ok (.d (.bl (decide (i < j)))) m := Eq.trans rfl rfl
@[simp] theorem oLe_ii : oLe (.d (.int i)) (.d (.int j)) m = .ok (.d (.bl (decide (i ≤ j)))) m := Eq.trans rfl rfl
@[simp] theorem oGt_ii : oGt (.d (.int i)) (.d (.int j)) m = .ok (.d (.bl (decide (j < i)))) m := Eq.trans rfl rfl
@[simp] theorem oGe_ii : oGe (.d (.int i)) (.d (.int j)) m = .ok (.d (.bl (decide (j ≤ i)))) m := Eq.trans rfl rfl
@[simp] theorem oEq_ii : oEq (.d (.int i)) (.d (.int j)) m = .ok (.d (.bl (decide (i = j)))) m := Eq.trans rfl rfl
@[simp] theorem oEq_ss : oEq (.d (.str x)) (.d (.str y)) m = .ok (.d (.bl (decide (x = y)))) m := Eq.trans rfl rfl
@[simp] theorem oEq_bb : oEq (.d (.bl a)) (.d (.bl b)) m = .ok (.d (.bl (decide (a = b)))) m := Eq.trans rfl rfl
@[simp] theorem oNe_ii : oNe (.d (.int i)) (.d (.int j)) m = .ok (.d (.bl (!decide (i = j)))) m := Eq.trans rfl rfl
@[simp] theorem oNe_ss : oNe (.d (.str x)) (.d (.str y)) m = .ok (.d (.bl (!decide (x = y)))) m := Eq.trans rfl rfl
@[simp] theorem oNe_bb : oNe (.d (.bl a)) (.d (.bl b)) m = .ok (.d (.bl (!decide (a = b)))) m := Eq.trans rfl rfl
@[simp] theorem oIs_nn : oIs (.d .non) (.d .non) m = .ok (.d (.bl true)) m := Eq.trans rfl rfl
@[simp] theorem oIs_in : oIs (.d (.int i)) (.d .non) m = .ok (.d (.bl false)) m := Eq.trans rfl rfl
@[simp] theorem oIs_sn : oIs (.d (.str x)) (.d .non) m = .ok (.d (.bl false)) m := Eq.trans rfl rfl
@[simp] theorem oIs_bn : oIs (.d (.bl a)) (.d .non) m = .ok (.d (.bl false)) m := Eq.trans rfl rfl
@[simp] theorem oIs_tn : oIs (.d (.tup xs)) (.d .non) m = .ok (.d (.bl false)) m := Eq.trans rfl rfl
@[simp] theorem oIs_ln : oIs (.d (.lst xs)) (.d .non) m = .ok (.d (.bl false)) m := Eq.trans rfl rfl
@[simp] theorem oIs_bb : oIs (.d (.bl a)) (.d (.bl b)) m = .ok (.d (.bl (decide (a = b)))) m := Eq.trans rfl rfl
/-- the item at a place -/
def itm (xs : List D) (i : Int) (m : Mem) : R W := match atI xs i with
  | some x => .ok (.d x) m
  | none => .bad
@[simp] theorem oIx_t : oIx (.d (.tup xs)) (.d (.int i)) m = itm xs i m := Eq.trans rfl rfl
@[simp] theorem oIx_l : oIx (.d (.lst xs)) (.d (.int i)) m = itm xs i m := Eq.trans rfl rfl
@[simp] theorem oIx_m : oIx (.m k) (.d (.int i)) m = match m[k]? with
    | some (.lst xs) => itm xs i m
    | some (.own _ _ xs) => itm xs i m
    | _ => .bad := by
  have e : oIx (.m k) (.d (.int i)) m = match lstOf (.m k) m with
    | some xs => itm xs i m
    | none => .bad := Eq.trans rfl rfl
  rw [e]
  cases h : m[k]? with
  | none => simp [lstOf, h]
  | some mo => cases mo <;> simp [lstOf, h]
theorem atI_nat {α : Type} (xs : List α) (n : Nat) : atI xs (n : Int) = xs[n]? := by
  unfold atI ixN
  by_cases h : n < xs.length
  · rw [if_pos (by omega), if_pos (by omega)]
    simp
  · rw [if_pos (by omega), if_neg (by omega)]
    simp; omega
@[simp] theorem itm_nat {n : Nat} : itm xs (n : Int) m = match xs[n]? with
    | some x => .ok (.d x) m
    | none => .bad := by unfold itm; rw [atI_nat]
@[simp] theorem itm_0 : itm (d :: xs) 0 m = .ok (.d d) m := itm_nat (n := 0)
@[simp] theorem itm_1 {d0 : D} : itm (d0 :: d :: xs) 1 m = .ok (.d d) m := itm_nat (n := 1)
@[simp] theorem itm_2 {d0 d1 : D} : itm (d0 :: d1 :: d :: xs) 2 m = .ok (.d d) m := itm_nat (n := 2)
@[simp] theorem itm_3 {d0 d1 d2 : D} : itm (d0 :: d1 :: d2 :: d :: xs) 3 m = .ok (.d d) m := itm_nat (n := 3)
@[simp] theorem oLen_t : oLen [.d (.tup xs)] m = .ok (.d (.int xs.length)) m := Eq.trans rfl rfl
@[simp] theorem oLen_l : oLen [.d (.lst xs)] m = .ok (.d (.int xs.length)) m := Eq.trans rfl rfl
@[simp] theorem oLen_s : oLen [.d (.str x)] m = if x.length ≤ 100000 then .ok (.d (.int x.length)) m else .bad := Eq.trans rfl rfl
@[simp] theorem oInt_i : oInt [.d (.int i)] m = .ok (.d (.int i)) m := Eq.trans rfl rfl
@[simp] theorem oAbs_i : oAbs [.d (.int i)] m = .ok (.d (.int (if i < 0 then -i else i))) m := Eq.trans rfl rfl
@[simp] theorem oMax_ii : oMax [.d (.int i), .d (.int j)] m = .ok (.d (.int (if j > i then j else i))) m := Eq.trans rfl rfl
@[simp] theorem oMin_ii : oMin [.d (.int i), .d (.int j)] m = .ok (.d (.int (if j < i then j else i))) m := Eq.trans rfl rfl
end
/-! ### the rules of reckoning -/
section
variable {ρ ρ1 ρ2 : Env} {m m1 m2 m3 : Mem} {w w1 w2 : W} {ws ws1 : List W} {a b : Ev} {la lb : EvL} {t u : EvT} {r : R W} {rb : R Bool} {q : RS} {p s : Ex} {x y : Bool}
theorem ev_var {n : Nat} (h : ρ[n]? = some (some w)) : fVar n ρ m = .ok w m := by unfold fVar; rw [h]
theorem ev_c {d : D} : fC d ρ m = .ok (.d d) m := rfl
theorem ev_nil : fNil ρ m = .ok [] m := rfl
theorem ev_cons (h1 : a ρ m = .ok w m1) (h2 : la ρ m1 = .ok ws m2) : fCons a la ρ m = .ok (w :: ws) m2 := by unfold fCons; rw [h1, R.bind_ok, h2]; rfl
theorem ev_op {o : O2} (h1 : a ρ m = .ok w1 m1) (h2 : b ρ m1 = .ok w2 m2) (h3 : o w1 w2 m2 = r) : fOp o a b ρ m = r := by unfold fOp; rw [h1, R.bind_ok, h2]; exact h3
theorem ev_un {o : O1} (h1 : a ρ m = .ok w1 m1) (h3 : o w1 m1 = r) : fUn o a ρ m = r := by unfold fUn; rw [h1]; exact h3
theorem ev_tup {xs : List D} (h1 : la ρ m = .ok ws m1) (h2 : dats ws = some xs) (h3 : xs.length ≤ 100000 := by decide) : fTup la ρ m = .ok (.d (.tup xs)) m1 := by unfold fTup; rw [h1, R.bind_ok, h2]; exact if_pos h3
theorem ev_lst {xs : List D} (h1 : la ρ m = .ok ws m1) (h2 : dats ws = some xs) (h3 : xs.length ≤ 100000 := by decide) : fLst la ρ m = .ok (.d (.lst xs)) m1 := by unfold fLst; rw [h1, R.bind_ok, h2]; exact if_pos h3
theorem ev_lstM {xs : List D} (h1 : la ρ m = .ok ws m1) (h2 : dats ws = some xs) (h3 : xs.length ≤ 100000 := by decide) : fLstM la ρ m = .ok (.m m1.length) (m1 ++ [.lst xs]) := by unfold fLstM; rw [h1, R.bind_ok, h2]; exact if_pos h3
theorem ev_cb {o : ON} (h1 : la ρ m = .ok ws m1) (h2 : o ws m1 = r) : fCB o la ρ m = r := by unfold fCB; rw [h1]; exact h2
theorem ev_call {f : Fn} (h1 : la ρ m = .ok ws m1) (h2 : f ws m1 = r) : fCall f la ρ m = r := by unfold fCall; rw [h1]; exact h2
theorem ev_callK {f : Fn} {g : List W → List W → List W} (h1 : la ρ m = .ok ws m1) (h0 : lb ρ m1 = .ok ws1 m2) (h2 : f (g ws ws1) m2 = r) : fCallK f g la lb ρ m = r := by unfold fCallK; rw [h1, R.bind_ok, h0]; exact h2
theorem ev_bm {ty : W → Mem → Bool} {op : OM} (h1 : a ρ m = .ok w m1) (h2 : ty w m1 = true) (h3 : la ρ m1 = .ok ws m2) (h4 : op w ws m2 = r) : fBM ty op a la ρ m = r := by unfold fBM; rw [h1, R.bind_ok, if_pos h2, h3]; exact h4
theorem ev_ifT (h1 : t ρ m = .ok true m1) (h2 : a ρ m1 = r) : fIf t a b ρ m = r := by unfold fIf; rw [h1]; exact h2
theorem ev_ifF (h1 : t ρ m = .ok false m1) (h2 : b ρ m1 = r) : fIf t a b ρ m = r := by unfold fIf; rw [h1]; exact h2
theorem ev_if (h1 : t ρ m = .ok x m1) (h2 : (if x then a ρ m1 else b ρ m1) = r) : fIf t a b ρ m = r := by unfold fIf; rw [h1]; exact h2
theorem ev_andT (h1 : a ρ m = .ok (.d (.bl true)) m1) (h2 : b ρ m1 = r) : fAnd a b ρ m = r := by unfold fAnd; rw [h1]; exact h2
/-- tests -/
theorem et_bool (h1 : a ρ m = .ok (.d (.bl x)) m1) : gBool a ρ m = .ok x m1 := by unfold gBool; rw [h1]; rfl
theorem et_test (h1 : a ρ m = .ok w m1) (h2 : truth w m1 = some x) : gTest a ρ m = .ok x m1 := by unfold gTest; rw [h1, R.bind_ok, h2]
theorem et_andT (h1 : t ρ m = .ok true m1) (h2 : u ρ m1 = rb) : gAnd t u ρ m = rb := by unfold gAnd; rw [h1, R.bind_ok]; exact h2
theorem et_andF (h1 : t ρ m = .ok false m1) : gAnd t u ρ m = .ok false m1 := by unfold gAnd; rw [h1, R.bind_ok]; rfl
theorem et_orT (h1 : t ρ m = .ok true m1) : gOr t u ρ m = .ok true m1 := by unfold gOr; rw [h1, R.bind_ok]; rfl
theorem et_orF (h1 : t ρ m = .ok false m1) (h2 : u ρ m1 = rb) : gOr t u ρ m = rb := by unfold gOr; rw [h1, R.bind_ok]; exact h2
theorem et_not (h1 : t ρ m = .ok x m1) : gNot t ρ m = .ok (!x) m1 := by unfold gNot; rw [h1]; rfl
/-- statements -/
theorem es_seq (h1 : p ρ m = .nx ρ1 m1) (h2 : s ρ1 m1 = q) : sSeq p s ρ m = q := by unfold sSeq; rw [h1]; exact h2
theorem es_seqR (h1 : p ρ m = .rt w m1) : sSeq p s ρ m = .rt w m1 := by unfold sSeq; rw [h1]
theorem es_seqX {c : Str} {ns : List Str} {vs : List D} (h1 : p ρ m = .xc c ns vs ρ1 m1) : sSeq p s ρ m = .xc c ns vs ρ1 m1 := by unfold sSeq; rw [h1]
theorem es_ifT (h1 : t ρ m = .ok true m1) (h2 : p ρ m1 = q) : sIf t p s ρ m = q := by unfold sIf; rw [h1]; exact h2
theorem es_ifF (h1 : t ρ m = .ok false m1) (h2 : s ρ m1 = q) : sIf t p s ρ m = q := by unfold sIf; rw [h1]; exact h2
theorem es_next : sNext ρ m = .nx ρ m := rfl
theorem es_drop (h1 : a ρ m = .ok w m1) : sDrop a ρ m = .nx ρ m1 := by unfold sDrop; rw [h1]; rfl
theorem es_ret (h1 : a ρ m = .ok w m1) : sRet a ρ m = .rt w m1 := by unfold sRet; rw [h1]; rfl
theorem es_retX {c : Str} {ns : List Str} {vs : List D} (h1 : a ρ m = .exc c ns vs m1) : sRet a ρ m = .xc c ns vs ρ m1 := by unfold sRet; rw [h1]; rfl
theorem es_set {n : Nat} (h1 : a ρ m = .ok w m1) : sAsg a (tgName n) ρ m = .nx (ρ.set n (some w)) m1 := by unfold sAsg; rw [h1]; rfl
theorem es_asg {g : Tg} (h1 : a ρ m = .ok w m1) (h2 : g w ρ m1 = .ok ρ2 m2) : sAsg a g ρ m = .nx ρ2 m2 := by unfold sAsg; rw [h1, R.lift_ok, h2]; rfl
theorem es_par {i j : Nat} (h1 : la ρ m = .ok [w1, w2] m1) : sPar i j la ρ m = .nx ((ρ.set i (some w1)).set j (some w2)) m1 := by unfold sPar; rw [h1]; rfl
theorem es_for {g : Tg} {it : EvL} (h1 : it ρ m = .ok ws m1) (h2 : loop g p ws ρ m1 = q) : sFor it g p ρ m = q := by unfold sFor; rw [h1]; exact h2
theorem tg_un2t {g : TgL} {n : Nat} {xs : List D} {rr : R Env} (h : xs.length = n) (h2 : g (xs.map .d) ρ m = rr) : tgUn n g (.d (.tup xs)) ρ m = rr := by unfold tgUn; dsimp only; rw [if_pos h]; exact h2
theorem loop_nil {g : Tg} : loop g p [] ρ m = .nx ρ m := rfl
theorem loop_cons {g : Tg} (h1 : g w ρ m = .ok ρ1 m1) (h2 : p ρ1 m1 = .nx ρ2 m2) (h3 : loop g p ws ρ2 m2 = q) : loop g p (w :: ws) ρ m = q := by unfold loop; rw [h1]; simp only [noX, R.lift_ok]; rw [h2]; exact h3
theorem fn_ret {mu : Bool} {np N : Nat} (hl : ws.length = np) (h : p (ws.map some ++ List.replicate (N - ws.length) none) m = .rt w m1) : fnOf mu np N p ws m = leave mu m.length w m1 := by unfold fnOf; rw [if_pos hl, h]
theorem leave_d {mu : Bool} {n : Nat} {x : D} : leave mu n (.d x) m = .ok (.d x) (m.take n) := rfl
theorem lc_eq {it : EvL} {g : Tg} {vs : List Nat} {xs : List D} (h1 : it ρ m = .ok ws m1) (h2 : lcs g t a (wipeE ρ vs) ws [] m1 = .ok xs m2) : fLc it g t a vs ρ m = .ok (.d (.lst xs)) m2 := by unfold fLc; rw [h1, R.bind_ok, h2]; rfl
theorem lcs_take {g : Tg} {acc : List D} {d : D} {rr : R (List D)} (h1 : g w ρ m = .ok ρ1 m1) (h2 : t ρ1 m1 = .ok true m2) (h3 : a ρ1 m2 = .ok (.d d) m3) (hl : acc.length < 100000) (h4 : lcs g t a ρ ws (acc ++ [d]) m3 = rr) : lcs g t a ρ (w :: ws) acc m = rr := by
  unfold lcs; rw [h1, R.bind_ok, h2, R.bind_ok, if_pos rfl, h3, R.bind_ok]; dsimp only; rw [if_pos hl]; exact h4
theorem lcs_skip {g : Tg} {acc : List D} {rr : R (List D)} (h1 : g w ρ m = .ok ρ1 m1) (h2 : t ρ1 m1 = .ok false m2) (h4 : lcs g t a ρ ws acc m2 = rr) : lcs g t a ρ (w :: ws) acc m = rr := by
  unfold lcs; rw [h1, R.bind_ok, h2, R.bind_ok, if_neg (by decide)]; exact h4
/-- a comprehension that changes nothing: map and filter -/
theorem lcs_pure {g : Tg} (P : W → Bool) (f : W → D) (hg : ∀ w ∈ ws, ∃ ρ1, g w ρ m = .ok ρ1 m ∧ t ρ1 m = .ok (P w) m ∧ (P w = true → a ρ1 m = .ok (.d (f w)) m)) : ∀ (acc : List D), acc.length + ws.length ≤ 100000 → lcs g t a ρ ws acc m = .ok (acc ++ (ws.filter P).map f) m := by
  induction ws with
  | nil => intro acc _; simp [lcs]
  | cons w ws ih =>
    intro acc hl
    obtain ⟨ρ1, h1, h2, h3⟩ := hg w List.mem_cons_self
    have ih' := ih fun w' hw => hg w' (List.mem_cons_of_mem _ hw)
    rw [List.length_cons] at hl
    cases hp : P w with
    | true =>
      rw [hp] at h2
      rw [lcs_take h1 h2 (h3 hp) (by omega) (ih' _ (by simp; omega)), List.filter_cons_of_pos hp]
      simp
    | false =>
      rw [hp] at h2
      rw [lcs_skip h1 h2 (ih' _ (by omega)), List.filter_cons_of_neg (by simp [hp])]
end
/-! numbers that are not too great -/
theorem small_of {i : Int} (h : i.natAbs < 10 ^ 200) : small i = true := by
  unfold small BIG
  exact decide_eq_true (Nat.lt_trans h (by decide +kernel))
section
variable {i j : Int} {m : Mem}
theorem mul_ok (h1 : small i = true) (h2 : small j = true) : oMul (.d (.int i)) (.d (.int j)) m = .ok (.d (.int (i * j))) m := by rw [oMul_ii, h1, h2]; rfl
theorem div_ok (h1 : 0 < j) (h2 : small j = true) : oDiv (.d (.int i)) (.d (.int j)) m = .ok (.d (.int (i / j))) m := by rw [oDiv_ii, decide_eq_true h1, h2]; rfl
theorem mod_ok (h1 : 0 < j) : oMod (.d (.int i)) (.d (.int j)) m = .ok (.d (.int (i % j))) m := by rw [oMod_ii, if_pos h1]
theorem powW_ok (h1 : 0 ≤ j) (h2 : j ≤ 1000) (h3 : small i = true) : oPow (.d (.int i)) (.d (.int j)) m = .ok (.d (.int (i ^ j.toNat))) m := by
  rw [oPow_ii, if_pos]
  rw [Bool.and_eq_true, Bool.and_eq_true]
  exact ⟨⟨decide_eq_true h1, decide_eq_true h2⟩, h3⟩
theorem pow_ok (h1 : 0 ≤ j ∧ j ≤ 1000 ∧ i.natAbs < 1000) : oPow (.d (.int i)) (.d (.int j)) m = .ok (.d (.int (i ^ j.toNat))) m := powW_ok h1.1 h1.2.1 (small_of (Nat.lt_of_lt_of_le h1.2.2 (by decide)))
theorem ixm_ok {k : Nat} {xs : List D} {x : D} (h1 : m[k]? = some (.lst xs)) (h2 : atI xs i = some x) : oIx (.m k) (.d (.int i)) m = .ok (.d x) m := by rw [oIx_m, h1]; dsimp only; unfold itm; rw [h2]
theorem ixt_ok {xs : List D} {x : D} (h2 : atI xs i = some x) : oIx (.d (.tup xs)) (.d (.int i)) m = .ok (.d x) m := by rw [oIx_t]; unfold itm; rw [h2]
theorem ixl_ok {xs : List D} {x : D} (h2 : atI xs i = some x) : oIx (.d (.lst xs)) (.d (.int i)) m = .ok (.d x) m := by rw [oIx_l]; unfold itm; rw [h2]
theorem tgSub_ok {fo fi : Ev} {ρ : Env} {m1 m2 : Mem} {k n : Nat} {xs : List D} {x : D} (h1 : fo ρ m = .ok (.m k) m1) (h2 : fi ρ m1 = .ok (.d (.int i)) m2) (h3 : m2[k]? = some (.lst xs)) (h4 : ixN xs.length i = some n) : tgSub fo fi (.d x) ρ m = .ok ρ (m2.set k (.lst (xs.set n x))) := by
  unfold tgSub; rw [h1, R.bind_ok, h2, R.bind_ok]; dsimp only; rw [h3]; dsimp only; rw [h4]
end
end GD
/-! GS: rules by which simp reckons mirrors. -/
namespace GD
open PySem PySem.Spec PyProof.Rows L2
section
variable {i j k n np N : Nat} {ρ : Env} {m : Mem} {a b o : Ev} {la lb : EvL} {t u : EvT} {d : D} {w x y : W} {ws : List W} {g : Tg} {gl : TgL} {p q s : Ex} {mu : Bool} {f : Fn}
@[simp] theorem e_var : fVar i ρ m = match ρ[i]? with
  | some (some w) => .ok w m
  | _ => .bad := Eq.trans rfl rfl
@[simp] theorem e_c : fC d ρ m = .ok (.d d) m := Eq.trans rfl rfl
@[simp] theorem e_nil : fNil ρ m = .ok [] m := Eq.trans rfl rfl
@[simp] theorem e_cons : fCons a la ρ m = (a ρ m).bind fun x m => (la ρ m).bind fun xs m => .ok (x :: xs) m := Eq.trans rfl rfl
@[simp] theorem e_tup : fTup la ρ m = (la ρ m).bind fun ws m => match dats ws with
  | some xs => if xs.length ≤ 100000 then .ok (.d (.tup xs)) m else .bad
  | none => .bad := Eq.trans rfl rfl
@[simp] theorem e_lst : fLst la ρ m = (la ρ m).bind fun ws m => match dats ws with
  | some xs => if xs.length ≤ 100000 then .ok (.d (.lst xs)) m else .bad
  | none => .bad := Eq.trans rfl rfl
@[simp] theorem e_lstM : fLstM la ρ m = (la ρ m).bind fun ws m => match dats ws with
  | some xs => if xs.length ≤ 100000 then .ok (.m m.length) (m ++ [.lst xs]) else .bad
  | none => .bad := Eq.trans rfl rfl
@[simp] theorem e_op {oo : O2} : fOp oo a b ρ m = (a ρ m).bind fun x m => (b ρ m).bind fun y m => oo x y m := Eq.trans rfl rfl
@[simp] theorem e_un {oo : O1} : fUn oo a ρ m = (a ρ m).bind fun x m => oo x m := Eq.trans rfl rfl
@[simp] theorem e_cb {oo : ON} : fCB oo la ρ m = (la ρ m).bind fun ws m => oo ws m := Eq.trans rfl rfl
@[simp] theorem e_call : fCall f la ρ m = (la ρ m).bind fun ws m => f ws m := Eq.trans rfl rfl
@[simp] theorem e_callK {g : List W → List W → List W} : fCallK f g la lb ρ m = (la ρ m).bind fun ws m => (lb ρ m).bind fun zs m => f (g ws zs) m := Eq.trans rfl rfl
@[simp] theorem e_if : fIf t a b ρ m = (t ρ m).bind fun x m => if x then a ρ m else b ρ m := Eq.trans rfl rfl
@[simp] theorem e_and : fAnd a b ρ m = (a ρ m).bind fun x m => match x with
  | .d (.bl true) => b ρ m
  | .d (.bl false) => .ok (.d (.bl false)) m
  | _ => .bad := Eq.trans rfl rfl
@[simp] theorem e_or : fOr a b ρ m = (a ρ m).bind fun x m => match x with
  | .d (.bl true) => .ok (.d (.bl true)) m
  | .d (.bl false) => b ρ m
  | _ => .bad := Eq.trans rfl rfl
@[simp] theorem e_not : fNot a ρ m = (a ρ m).bind fun x m => match x with
  | .d (.bl b) => .ok (.d (.bl (!b))) m
  | _ => .bad := Eq.trans rfl rfl
@[simp] theorem e_test : gTest a ρ m = (a ρ m).bind fun x m => match truth x m with
  | some b => .ok b m
  | none => .bad := Eq.trans rfl rfl
@[simp] theorem e_bool : gBool a ρ m = (a ρ m).bind fun x m => match x with
  | .d (.bl b) => .ok b m
  | _ => .bad := Eq.trans rfl rfl
@[simp] theorem e_gand : gAnd t u ρ m = (t ρ m).bind fun x m => if x then u ρ m else .ok false m := Eq.trans rfl rfl
@[simp] theorem e_gor : gOr t u ρ m = (t ρ m).bind fun x m => if x then .ok true m else u ρ m := Eq.trans rfl rfl
@[simp] theorem e_gnot : gNot t ρ m = (t ρ m).bind fun x m => .ok (!x) m := Eq.trans rfl rfl
@[simp] theorem e_yes : gYes ρ m = .ok true m := Eq.trans rfl rfl
def RS.seq (r : RS) (b : Ex) : RS := match r with
  | .nx ρ m => b ρ m
  | r => r
@[simp] theorem e_seq : sSeq p q ρ m = (p ρ m).seq q := Eq.trans rfl rfl
@[simp] theorem seq_nx : (RS.nx ρ m).seq q = q ρ m := Eq.trans rfl rfl
@[simp] theorem seq_rt : (RS.rt w m).seq q = .rt w m := Eq.trans rfl rfl
@[simp] theorem seq_xc {c ns vs} : (RS.xc c ns vs ρ m).seq q = .xc c ns vs ρ m := Eq.trans rfl rfl
@[simp] theorem seq_bad : RS.bad.seq q = .bad := Eq.trans rfl rfl
@[simp] theorem seq_ite {c : Prop} [Decidable c] {r r' : RS} : (if c then r else r').seq q = if c then r.seq q else r'.seq q := by split <;> rfl
@[simp] theorem bind_ite {α β : Type} {c : Prop} [Decidable c] {r r' : R α} {k : α → Mem → R β} : (if c then r else r').bind k = if c then r.bind k else r'.bind k := by split <;> rfl
@[simp] theorem lift_ite {α : Type} {c : Prop} [Decidable c] {r r' : R α} {k : α → Mem → RS} : (if c then r else r').lift ρ k = if c then r.lift ρ k else r'.lift ρ k := by split <;> rfl
@[simp] theorem e_sif : sIf t p q ρ m = (t ρ m).lift ρ fun x m => if x then p ρ m else q ρ m := Eq.trans rfl rfl
@[simp] theorem e_drop : sDrop a ρ m = (a ρ m).lift ρ fun _ m => .nx ρ m := Eq.trans rfl rfl
@[simp] theorem e_ret : sRet a ρ m = (a ρ m).lift ρ fun w m => .rt w m := Eq.trans rfl rfl
@[simp] theorem e_next : sNext ρ m = .nx ρ m := Eq.trans rfl rfl
@[simp] theorem e_asg : sAsg a g ρ m = (a ρ m).lift ρ fun w m => (noX (g w ρ m)).lift ρ fun ρ m => .nx ρ m := Eq.trans rfl rfl
@[simp] theorem e_par : sPar i j la ρ m = (la ρ m).lift ρ fun ws m => match ws with
  | [x, y] => .nx ((ρ.set i (some x)).set j (some y)) m
  | _ => .bad := Eq.trans rfl rfl
@[simp] theorem e_aug {oo : O2} : sAug i oo a ρ m = match ρ[i]? with
  | some (some w) => (a ρ m).lift ρ fun y m => (noX (oo w y m)).lift ρ fun z m => .nx (ρ.set i (some z)) m
  | _ => .bad := Eq.trans rfl rfl
@[simp] theorem e_for {it : EvL} : sFor it g p ρ m = (it ρ m).lift ρ fun ws m => loop g p ws ρ m := Eq.trans rfl rfl
@[simp] theorem e_while {fu : Env → Mem → Nat} : sWhile fu t p ρ m = whl t p (fu ρ m) ρ m := Eq.trans rfl rfl
@[simp] theorem e_tgn : tgName i w ρ m = .ok (ρ.set i (some w)) m := Eq.trans rfl rfl
@[simp] theorem e_tgnil : tgNil [] ρ m = .ok ρ m := Eq.trans rfl rfl
@[simp] theorem e_tgcons : tgCons g gl (w :: ws) ρ m = (g w ρ m).bind fun ρ m => gl ws ρ m := Eq.trans rfl rfl
@[simp] theorem e_tgtup {xs : List D} : tgTup n gl (.d (.tup xs)) ρ m = if xs.length = n then gl (xs.map .d) ρ m else .bad := Eq.trans rfl rfl
@[simp] theorem noX_ok {α : Type} {x : α} : noX (R.ok x m) = .ok x m := Eq.trans rfl rfl
@[simp] theorem noX_bad {α : Type} : noX (R.bad : R α) = .bad := Eq.trans rfl rfl
theorem e_fn : fnOf mu np N p ws m = if ws.length = np then (match p (ws.map some ++ List.replicate (N - ws.length) none) m with
  | .nx _ m' => leave mu m.length (.d .non) m'
  | .rt w m' => leave mu m.length w m'
  | .xc c ns vs _ m' => .exc c ns vs (m'.take m.length)
  | _ => .bad) else .bad := rfl
theorem e_fnr (p : Ex) (h : p (ws.map some ++ List.replicate (N - ws.length) none) m = .rt (.d d) m) (hl : ws.length = np) : fnOf mu np N p ws m = .ok (.d d) m := by
  rw [e_fn, if_pos hl, h]
  show R.ok (W.d d) (m.take m.length) = _
  rw [List.take_length]
@[simp] theorem dats_nil : dats [] = some [] := Eq.trans rfl rfl
@[simp] theorem dats_cons : dats (.d d :: ws) = (dats ws).map (d :: ·) := Eq.trans rfl rfl
@[simp] theorem e_iseq : iSeq a ρ m = (a ρ m).bind fun w m => match w with
  | .d (.lst xs) => .ok (xs.map .d) m
  | .d (.fls xs) => .ok (xs.map .d) m
  | .d (.tup xs) => .ok (xs.map .d) m
  | _ => .bad := Eq.trans rfl rfl
@[simp] theorem e_tgun {xs : List D} : tgUn n gl (.d (.tup xs)) ρ m = if xs.length = n then gl (xs.map .d) ρ m else .bad := Eq.trans rfl rfl
@[simp] theorem e_tgunl {xs : List D} : tgUn n gl (.d (.lst xs)) ρ m = if xs.length = n then gl (xs.map .d) ρ m else .bad := Eq.trans rfl rfl
@[simp] theorem oIsNot_bb {a b : Bool} : oIsNot (.d (.bl a)) (.d (.bl b)) m = .ok (.d (.bl (!decide (a = b)))) m := Eq.trans rfl rfl
@[simp] theorem oIsNot_nn : oIsNot (.d .non) (.d .non) m = .ok (.d (.bl false)) m := Eq.trans rfl rfl
@[simp] theorem e_meth {tab : List (Str × Fn)} {nm : Str} : fMeth tab nm o la ρ m = (o ρ m).bind fun w m => match insOf w m with
  | some (c, ns, _) => (match tab.lookup c with
    | some g => if nm ∈ ns then .bad else (la ρ m).bind fun ws m => g (w :: ws) m
    | none => .bad)
  | none => .bad := Eq.trans rfl rfl
end
end GD
namespace GD
open PySem PySem.Spec PyProof.Rows L2
def b__law_bag : Ex :=
    (sSeq (sAsg (fC (.int 3817)) (tgName 1))
    (sSeq (sFor (iSeq (fSl false (fVar 0) pNone (pSome (fC (.int 63))))) (tgName 2)
    (sAsg (fOp oMod (fCB oInt (fCons (fOp oAdd (fOp oAdd (fOp oMul (fVar 1) (fC (.int 44021))) (fOp oMod (fCB oInt (fCons (fVar 2) fNil)) (fC (.int 2147483579)))) (fC (.int 19))) fNil)) (fC (.int 2147483647))) (tgName 1)))
    (sRet (fLstM (fCons (fCB (oList false) (fCons (fSl false (fVar 0) pNone (pSome (fC (.int 63)))) fNil)) (fCons (fC (.int 0)) (fCons (fC (.int 0)) (fCons (fVar 1) fNil))))))))
def m__law_bag : Fn := fnOf true 1 3 b__law_bag
def b__law_pull : Ex :=
    (sSeq (sIf (gAnd (gBool (fOp oEq (fOp oIx (fVar 0) (fC (.int 2))) (fC (.int 0)))) (gBool (fOp oLt (fOp oIx (fVar 0) (fC (.int 1))) (fCB oLen (fCons (fOp oIx (fVar 0) (fC (.int 0))) fNil)))))
    (sSeq (sAsg (fOp oIx (fOp oIx (fVar 0) (fC (.int 0))) (fOp oIx (fVar 0) (fC (.int 1)))) (tgName 2))
    (sSeq (sAsg (fOp oAdd (fOp oIx (fVar 0) (fC (.int 1))) (fC (.int 1))) (tgSub (fVar 0) (fC (.int 1))))
    (sIf (gBool (fOp oGe (fVar 2) (fOp oPow (fC (.int 10)) (fC (.int 18)))))
    (sAsg (fVar 2) (tgSub (fVar 0) (fC (.int 2))))
    (sAsg (fOp oMod (fCB oInt (fCons (fOp oAdd (fOp oAdd (fOp oMul (fOp oIx (fVar 0) (fC (.int 3))) (fC (.int 40692))) (fOp oMul (fOp oMod (fCB oInt (fCons (fVar 2) fNil)) (fC (.int 2147483579))) (fC (.int 69621)))) (fC (.int 11))) fNil)) (fC (.int 2147483647))) (tgSub (fVar 0) (fC (.int 3)))))))
    sNext)
    (sSeq (sIf (gBool (fOp oGt (fOp oIx (fVar 0) (fC (.int 2))) (fC (.int 0))))
    (sSeq (sAsg (fOp oMod (fCB oInt (fCons (fOp oIx (fVar 0) (fC (.int 2))) fNil)) (fVar 1)) (tgName 3))
    (sSeq (sAsg (fOp oDiv (fOp oIx (fVar 0) (fC (.int 2))) (fVar 1)) (tgSub (fVar 0) (fC (.int 2))))
    (sRet (fVar 3))))
    sNext)
    (sSeq (sAsg (fOp oIx (fVar 0) (fC (.int 3))) (tgName 4))
    (sSeq (sAsg (fOp oMod (fCB oInt (fCons (fOp oAdd (fOp oAdd (fOp oMul (fVar 4) (fVar 4)) (fOp oMul (fVar 4) (fC (.int 48271)))) (fC (.int 1013904223))) fNil)) (fC (.int 2147483647))) (tgSub (fVar 0) (fC (.int 3))))
    (sRet (fOp oMod (fCB oInt (fCons (fOp oAdd (fOp oDiv (fOp oIx (fVar 0) (fC (.int 3))) (fC (.int 97))) (fOp oMul (fOp oMod (fCB oInt (fCons (fOp oIx (fVar 0) (fC (.int 3))) fNil)) (fC (.int 8191))) (fC (.int 67)))) fNil)) (fVar 1)))))))
def m__law_pull : Fn := fnOf false 2 5 b__law_pull
local macro_rules | `(tactic| walk_at "ev") => `(tactic| (repeat (first
  | with_reducible exact ev_c | with_reducible exact ev_nil | with_reducible exact es_next | ((with_reducible apply ev_var); exact rfl)
  | with_reducible apply ev_cons | with_reducible apply ev_op | with_reducible apply ev_un | with_reducible apply ev_cb | with_reducible apply ev_call | with_reducible apply ev_callK
  | with_reducible apply et_bool | with_reducible apply et_not
  | with_reducible apply es_seq | with_reducible apply es_drop | with_reducible apply es_ret | with_reducible apply es_set | with_reducible apply es_par
  | with_reducible exact oAdd_ii | with_reducible exact oSub_ii | with_reducible exact oLt_ii | with_reducible exact oLe_ii | with_reducible exact oGt_ii | with_reducible exact oGe_ii | with_reducible exact oEq_ii | with_reducible exact oNe_ii | with_reducible exact oInt_i | with_reducible exact oLen_l | with_reducible exact oNeg_i | with_reducible exact oAbs_i | with_reducible exact oMax_ii | with_reducible exact oMin_ii
  | ((with_reducible apply mod_ok); first | decide | with_reducible assumption) | ((with_reducible apply mul_ok) <;> with_reducible assumption) | ((with_reducible apply div_ok) <;> with_reducible assumption)
  | ((with_reducible apply ixm_ok); exact rfl; exact rfl) | ((with_reducible apply ixt_ok); exact rfl) | ((with_reducible apply ixl_ok); exact rfl) | ((with_reducible apply pow_ok); decide)
  | ((with_reducible apply ev_tup); rotate_left; exact rfl; decide) | ((with_reducible apply ev_lst); rotate_left; exact rfl; decide))))
/-- the bag -/
structure Bag where
  cells : List Int
  i : Nat
  rest : Nat
  seed : Nat
  hs : seed < 2147483647
def Bag.mo (b : Bag) : MO := .lst [.lst (b.cells.map .int), .int b.i, .int b.rest, .int b.seed]
/-- the first part of a pull: a cell is taken -/
def Bag.take (b : Bag) : Bag := if b.rest = 0 then (match b.cells[b.i]? with
  | some c => if 10 ^ 18 ≤ c then { b with i := b.i + 1, rest := c.toNat } else { b with i := b.i + 1, seed := (b.seed * 40692 + (c % 2147483579).toNat * 69621 + 11) % 2147483647, hs := Nat.mod_lt _ (by decide) }
  | none => b) else b
def Bag.turn (b : Bag) : Bag := { b with seed := (b.seed * b.seed + b.seed * 48271 + 1013904223) % 2147483647, hs := Nat.mod_lt _ (by decide) }
def Bag.val (b : Bag) (k : Nat) : Nat := if 0 < b.take.rest then b.take.rest % k else (b.take.turn.seed / 97 + b.take.turn.seed % 8191 * 67) % k
def Bag.nxt (b : Bag) (k : Nat) : Bag := if 0 < b.take.rest then { b.take with rest := b.take.rest / k } else b.take.turn
theorem Bag.val_lt (b : Bag) {k : Nat} (h : 0 < k) : b.val k < k := by
  unfold Bag.val
  split <;> exact Nat.mod_lt _ h
theorem small_nat {n : Nat} (h : n < 10 ^ 200) : small (n : Int) = true := small_of (by simpa using h)
theorem bag_set1 {ρ : Env} {b : Bag} {rest : Mem} {x : Nat} (h : ρ[0]? = some (some (.m 0))) : tgSub (fVar 0) (fC (.int 1)) (.d (.int (x : Int))) ρ (b.mo :: rest) = .ok ρ (({ b with i := x } : Bag).mo :: rest) :=
  tgSub_ok (xs := [.lst (b.cells.map .int), .int b.i, .int b.rest, .int b.seed]) (n := 1) (ev_var h) ev_c rfl rfl
theorem bag_set2 {ρ : Env} {b : Bag} {rest : Mem} {x : Nat} (h : ρ[0]? = some (some (.m 0))) : tgSub (fVar 0) (fC (.int 2)) (.d (.int (x : Int))) ρ (b.mo :: rest) = .ok ρ (({ b with rest := x } : Bag).mo :: rest) :=
  tgSub_ok (xs := [.lst (b.cells.map .int), .int b.i, .int b.rest, .int b.seed]) (n := 2) (ev_var h) ev_c rfl rfl
theorem bag_set3 {ρ : Env} {b : Bag} {rest : Mem} {x : Nat} (hx : x < 2147483647) (h : ρ[0]? = some (some (.m 0))) : tgSub (fVar 0) (fC (.int 3)) (.d (.int (x : Int))) ρ (b.mo :: rest) = .ok ρ (({ b with seed := x, hs := hx } : Bag).mo :: rest) :=
  tgSub_ok (xs := [.lst (b.cells.map .int), .int b.i, .int b.rest, .int b.seed]) (n := 3) (ev_var h) ev_c rfl rfl
/-- the second part -/
theorem pull2 (b : Bag) (rest : Mem) (k : Nat) (hk : 0 < k) (hs : k < 10 ^ 200) (o : Option W) {p : Ex}
    (hp : p = (sSeq (sIf (gBool (fOp oGt (fOp oIx (fVar 0) (fC (.int 2))) (fC (.int 0))))
    (sSeq (sAsg (fOp oMod (fCB oInt (fCons (fOp oIx (fVar 0) (fC (.int 2))) fNil)) (fVar 1)) (tgName 3))
    (sSeq (sAsg (fOp oDiv (fOp oIx (fVar 0) (fC (.int 2))) (fVar 1)) (tgSub (fVar 0) (fC (.int 2))))
    (sRet (fVar 3))))
    sNext)
    (sSeq (sAsg (fOp oIx (fVar 0) (fC (.int 3))) (tgName 4))
    (sSeq (sAsg (fOp oMod (fCB oInt (fCons (fOp oAdd (fOp oAdd (fOp oMul (fVar 4) (fVar 4)) (fOp oMul (fVar 4) (fC (.int 48271)))) (fC (.int 1013904223))) fNil)) (fC (.int 2147483647))) (tgSub (fVar 0) (fC (.int 3))))
    (sRet (fOp oMod (fCB oInt (fCons (fOp oAdd (fOp oDiv (fOp oIx (fVar 0) (fC (.int 3))) (fC (.int 97))) (fOp oMul (fOp oMod (fCB oInt (fCons (fOp oIx (fVar 0) (fC (.int 3))) fNil)) (fC (.int 8191))) (fC (.int 67)))) fNil)) (fVar 1))))))) :
    p [some (.m 0), some (.d (.int k)), o, none, none] (b.mo :: rest) = .rt (.d (.int ((if 0 < b.rest then b.rest % k else (b.turn.seed / 97 + b.turn.seed % 8191 * 67) % k : Nat) : Int))) ((if 0 < b.rest then { b with rest := b.rest / k } else b.turn : Bag).mo :: rest) := by
  subst hp
  have s3 : small 48271 = true := small_of (by decide)
  have s4 : small 97 = true := small_of (by decide)
  have s5 : small 67 = true := small_of (by decide)
  have sk : small (k : Int) = true := small_nat hs
  have hk' : (0 : Int) < (k : Int) := by omega
  by_cases h0 : 0 < b.rest
  · rw [if_pos h0, if_pos h0]
    refine' es_seqR (es_ifT (m1 := b.mo :: rest) ?_ ?_)
    · refine et_bool ?_
      refine ev_op (w1 := .d (.int b.rest)) (m1 := b.mo :: rest) ?_ ev_c (by rw [oGt_ii, decide_eq_true (by omega)])
      walk_at "ev"
    · walk_at "ev"
      · refine' es_asg (w := .d (.int ((b.rest / k : Nat) : Int))) (ev_op (w1 := .d (.int b.rest)) (m1 := b.mo :: rest) ?_ (ev_var rfl) (div_ok hk' sk)) (bag_set2 rfl)
        walk_at "ev"
      · exact es_ret (ev_var (w := .d (.int ((b.rest % k : Nat) : Int))) rfl)
  · rw [if_neg h0, if_neg h0]
    have h00 : b.rest = 0 := by omega
    have ss : small (b.seed : Int) = true := small_nat (Nat.lt_trans b.hs (by decide))
    have ss2 : small ((b.turn.seed % 8191 : Nat) : Int) = true := small_nat (Nat.lt_of_lt_of_le (Nat.mod_lt _ (by decide)) (by decide))
    refine' es_seq (es_ifF (m1 := b.mo :: rest) ?_ es_next) ?_
    · refine et_bool ?_
      refine ev_op (w1 := .d (.int b.rest)) (m1 := b.mo :: rest) ?_ ev_c (by rw [oGt_ii, decide_eq_false (by omega)])
      walk_at "ev"
    · refine es_seq (es_set (w := .d (.int b.seed)) (m1 := b.mo :: rest) ?_) ?_
      · walk_at "ev"
      refine es_seq (ρ1 := [some (.m 0), some (.d (.int k)), o, none, some (.d (.int b.seed))]) (m1 := b.turn.mo :: rest) (es_asg (w := .d (.int (b.turn.seed : Int))) (m1 := b.mo :: rest) ?_ (bag_set3 b.turn.hs rfl)) ?_
      · have e : (b.turn.seed : Int) = ((b.seed : Int) * b.seed + b.seed * 48271 + 1013904223) % 2147483647 := by
          show (((b.seed * b.seed + b.seed * 48271 + 1013904223) % 2147483647 : Nat) : Int) = _
          simp only [Int.natCast_emod, Int.natCast_add, Int.natCast_mul, Int.cast_ofNat_Int]
        rw [e]
        walk_at "ev"
      · refine es_ret ?_
        refine ev_op (w1 := .d (.int ((b.turn.seed / 97 + b.turn.seed % 8191 * 67 : Nat) : Int))) (m1 := b.turn.mo :: rest) ?_ (ev_var rfl) ?_
        · refine ev_cb (ev_cons (w := .d (.int ((b.turn.seed / 97 + b.turn.seed % 8191 * 67 : Nat) : Int))) (m1 := b.turn.mo :: rest) ?_ ev_nil) oInt_i
          refine ev_op (w1 := .d (.int ((b.turn.seed / 97 : Nat) : Int))) (m1 := b.turn.mo :: rest) ?_ (ev_op (w1 := .d (.int ((b.turn.seed % 8191 : Nat) : Int))) (m1 := b.turn.mo :: rest) ?_ ev_c (mul_ok ss2 s5)) ?_
          · refine ev_op (w1 := .d (.int b.turn.seed)) (m1 := b.turn.mo :: rest) ?_ ev_c (div_ok (by decide) s4)
            walk_at "ev"
          · refine ev_op (w1 := .d (.int b.turn.seed)) (m1 := b.turn.mo :: rest) ?_ ev_c (mod_ok (by decide))
            walk_at "ev"
          · rw [oAdd_ii]
            simp only [Int.natCast_add, Int.natCast_mul, Int.cast_ofNat_Int]
        · rw [mod_ok hk', ← Int.natCast_emod]
theorem pull_eq (b : Bag) (rest : Mem) (k : Nat) (hk : 0 < k) (hs : k < 10 ^ 200) : m__law_pull [.m 0, .d (.int k)] (b.mo :: rest) = .ok (.d (.int (b.val k))) ((b.nxt k).mo :: rest) := by
  have fin : ∀ (b' : Bag), b.take = b' → b__law_pull [some (.m 0), some (.d (.int k)), none, none, none] (b.mo :: rest) = .rt (.d (.int ((if 0 < b'.rest then b'.rest % k else (b'.turn.seed / 97 + b'.turn.seed % 8191 * 67) % k : Nat) : Int))) ((if 0 < b'.rest then { b' with rest := b'.rest / k } else b'.turn : Bag).mo :: rest) →
      m__law_pull [.m 0, .d (.int k)] (b.mo :: rest) = .ok (.d (.int (b.val k))) ((b.nxt k).mo :: rest) := by
    intro b' h3 h2
    have z := fn_ret (mu := false) (np := 2) (N := 5) (ws := [.m 0, .d (.int k)]) rfl h2
    show fnOf false 2 5 b__law_pull _ _ = _
    rw [z]
    unfold Bag.val Bag.nxt
    rw [h3]
    show R.ok _ (((if 0 < b'.rest then { b' with rest := b'.rest / k } else b'.turn : Bag).mo :: rest).take (rest.length + 1)) = _
    simp
  have hk' : (0 : Int) < (k : Int) := by omega
  obtain ⟨cells, i, r, seed, hseed⟩ := b
  by_cases h0 : r = 0
  · subst h0
    cases hc : cells[i]? with
    | none =>
      have hi : ¬ (i : Int) < (cells.length : Int) := by
        have := List.getElem?_eq_none_iff.mp hc
        omega
      have ht : (Bag.mk cells i 0 seed hseed).take = Bag.mk cells i 0 seed hseed := by simp [Bag.take, hc]
      refine fin ⟨cells, i, 0, seed, hseed⟩ ht ?_
      unfold b__law_pull
      refine es_seq (ρ1 := [some (.m 0), some (.d (.int k)), none, none, none]) (m1 := (Bag.mk cells i 0 seed hseed).mo :: rest) (es_ifF (m1 := (Bag.mk cells i 0 seed hseed).mo :: rest) (et_andT (m1 := (Bag.mk cells i 0 seed hseed).mo :: rest) ?_ ?_) es_next) ?_
      · refine et_bool (ev_op (w1 := .d (.int (0 : Nat))) (m1 := (Bag.mk cells i 0 seed hseed).mo :: rest) ?_ ev_c (by rw [oEq_ii]; rfl))
        walk_at "ev"
      · refine et_bool ?_
        refine ev_op (w1 := .d (.int i)) (m1 := (Bag.mk cells i 0 seed hseed).mo :: rest) ?_ (ev_cb (ev_cons (w := .d (.lst (cells.map .int))) (m1 := (Bag.mk cells i 0 seed hseed).mo :: rest) ?_ ev_nil) oLen_l) ?_
        · walk_at "ev"
        · walk_at "ev"
        · rw [oLt_ii, List.length_map, decide_eq_false hi]
      · exact pull2 ⟨cells, i, 0, seed, hseed⟩ rest k hk hs none rfl
    | some c =>
      have hl : i < cells.length := (List.getElem?_eq_some_iff.mp hc).1
      have hi : (i : Int) < (cells.length : Int) := by omega
      have hat : atI (cells.map D.int) (i : Int) = some (.int c) := by rw [GD.atI_nat, List.getElem?_map, hc]; rfl
      have hd : (Bag.mk cells (i + 1) 0 seed hseed).mo = (Bag.mk cells (i + 1) 0 seed hseed).mo := rfl
      have test : gAnd (gBool (fOp oEq (fOp oIx (fVar 0) (fC (.int 2))) (fC (.int 0)))) (gBool (fOp oLt (fOp oIx (fVar 0) (fC (.int 1))) (fCB oLen (fCons (fOp oIx (fVar 0) (fC (.int 0))) fNil)))) [some (.m 0), some (.d (.int k)), none, none, none] ((Bag.mk cells i 0 seed hseed).mo :: rest) = .ok true ((Bag.mk cells i 0 seed hseed).mo :: rest) := by
        refine et_andT (m1 := (Bag.mk cells i 0 seed hseed).mo :: rest) ?_ ?_
        · refine et_bool (ev_op (w1 := .d (.int (0 : Nat))) (m1 := (Bag.mk cells i 0 seed hseed).mo :: rest) ?_ ev_c (by rw [oEq_ii]; rfl))
          walk_at "ev"
        · refine et_bool ?_
          refine ev_op (w1 := .d (.int i)) (m1 := (Bag.mk cells i 0 seed hseed).mo :: rest) ?_ (ev_cb (ev_cons (w := .d (.lst (cells.map .int))) (m1 := (Bag.mk cells i 0 seed hseed).mo :: rest) ?_ ev_nil) oLen_l) ?_
          · walk_at "ev"
          · walk_at "ev"
          · rw [oLt_ii, List.length_map, decide_eq_true hi]
      -- the cell is taken, the place goes on
      have first : ∀ {q : Ex} {res : RS}, q [some (.m 0), some (.d (.int k)), some (.d (.int c)), none, none] ((Bag.mk cells (i + 1) 0 seed hseed).mo :: rest) = res →
          sSeq (sAsg (fOp oIx (fOp oIx (fVar 0) (fC (.int 0))) (fOp oIx (fVar 0) (fC (.int 1)))) (tgName 2)) (sSeq (sAsg (fOp oAdd (fOp oIx (fVar 0) (fC (.int 1))) (fC (.int 1))) (tgSub (fVar 0) (fC (.int 1)))) q) [some (.m 0), some (.d (.int k)), none, none, none] ((Bag.mk cells i 0 seed hseed).mo :: rest) = res := by
        intro q res h
        refine es_seq (es_set (w := .d (.int c)) (m1 := (Bag.mk cells i 0 seed hseed).mo :: rest) ?_) ?_
        · refine ev_op (w1 := .d (.lst (cells.map .int))) (m1 := (Bag.mk cells i 0 seed hseed).mo :: rest) (w2 := .d (.int i)) (m2 := (Bag.mk cells i 0 seed hseed).mo :: rest) ?_ ?_ (ixl_ok hat)
          · walk_at "ev"
          · walk_at "ev"
        · refine es_seq (es_asg (w := .d (.int ((i + 1 : Nat) : Int))) (m1 := (Bag.mk cells i 0 seed hseed).mo :: rest) ?_ (bag_set1 rfl)) h
          refine ev_op (w1 := .d (.int i)) (m1 := (Bag.mk cells i 0 seed hseed).mo :: rest) ?_ ev_c ?_
          · walk_at "ev"
          · rw [oAdd_ii]; rfl
      have big : ∀ (b' : Bag), b'.cells = cells → fOp oGe (fVar 2) (fOp oPow (fC (.int 10)) (fC (.int 18))) [some (.m 0), some (.d (.int k)), some (.d (.int c)), none, none] (b'.mo :: rest) = .ok (.d (.bl (decide ((10 : Int) ^ 18 ≤ c)))) (b'.mo :: rest) := by
        intro b' _
        refine ev_op (w1 := .d (.int c)) (m1 := b'.mo :: rest) (ev_var rfl) (w2 := .d (.int (10 ^ 18))) (m2 := b'.mo :: rest) ?_ ?_
        · exact ev_op ev_c ev_c (pow_ok (by decide))
        · rw [oGe_ii]
      by_cases hb : (10 : Int) ^ 18 ≤ c
      · have hc0 : ((c.toNat : Nat) : Int) = c := Int.toNat_of_nonneg (Int.le_trans (by decide) hb)
        have hcp : c.toNat ≠ 0 := by
          intro z
          rw [z] at hc0
          rw [← hc0] at hb
          exact absurd hb (by decide)
        have ht : (Bag.mk cells i 0 seed hseed).take = Bag.mk cells (i + 1) c.toNat seed hseed := by
          unfold Bag.take
          rw [if_pos rfl]
          show (match cells[i]? with | some c => _ | none => _) = _
          rw [hc]
          exact if_pos hb
        refine fin ⟨cells, i + 1, c.toNat, seed, hseed⟩ ht ?_
        unfold b__law_pull
        refine es_seq (ρ1 := [some (.m 0), some (.d (.int k)), some (.d (.int c)), none, none]) (m1 := (Bag.mk cells (i + 1) c.toNat seed hseed).mo :: rest) (es_ifT test (first ?_)) ?_
        · refine es_ifT (m1 := (Bag.mk cells (i + 1) 0 seed hseed).mo :: rest) (et_bool (by rw [big ⟨cells, i + 1, 0, seed, hseed⟩ rfl, decide_eq_true hb])) ?_
          refine es_asg (w := .d (.int ((c.toNat : Nat) : Int))) (m1 := (Bag.mk cells (i + 1) 0 seed hseed).mo :: rest) ?_ (bag_set2 rfl)
          rw [hc0]
          exact ev_var rfl
        · exact pull2 ⟨cells, i + 1, c.toNat, seed, hseed⟩ rest k hk hs (some (.d (.int c))) rfl
      · have hm : (((c % 2147483579).toNat : Nat) : Int) = c % 2147483579 := Int.toNat_of_nonneg (Int.emod_nonneg _ (by decide))
        have hml : (c % 2147483579).toNat < 2147483579 := by
          have := Int.emod_lt_of_pos c (show (0 : Int) < 2147483579 by decide)
          omega
        have hs' : (seed * 40692 + (c % 2147483579).toNat * 69621 + 11) % 2147483647 < 2147483647 := Nat.mod_lt _ (by decide)
        have ht : (Bag.mk cells i 0 seed hseed).take = Bag.mk cells (i + 1) 0 ((seed * 40692 + (c % 2147483579).toNat * 69621 + 11) % 2147483647) hs' := by
          unfold Bag.take
          rw [if_pos rfl]
          show (match cells[i]? with | some c => _ | none => _) = _
          rw [hc]
          exact if_neg hb
        refine fin ⟨cells, i + 1, 0, (seed * 40692 + (c % 2147483579).toNat * 69621 + 11) % 2147483647, hs'⟩ ht ?_
        unfold b__law_pull
        refine es_seq (ρ1 := [some (.m 0), some (.d (.int k)), some (.d (.int c)), none, none]) (m1 := (Bag.mk cells (i + 1) 0 ((seed * 40692 + (c % 2147483579).toNat * 69621 + 11) % 2147483647) hs').mo :: rest) (es_ifT test (first ?_)) ?_
        · refine es_ifF (m1 := (Bag.mk cells (i + 1) 0 seed hseed).mo :: rest) (et_bool (by rw [big ⟨cells, i + 1, 0, seed, hseed⟩ rfl, decide_eq_false hb])) ?_
          refine es_asg (w := .d (.int (((seed * 40692 + (c % 2147483579).toNat * 69621 + 11) % 2147483647 : Nat) : Int))) (m1 := (Bag.mk cells (i + 1) 0 seed hseed).mo :: rest) ?_ (bag_set3 hs' rfl)
          have e : (((seed * 40692 + (c % 2147483579).toNat * 69621 + 11) % 2147483647 : Nat) : Int) = ((seed : Int) * 40692 + (c % 2147483579) * 69621 + 11) % 2147483647 := by
            simp only [Int.natCast_emod, Int.natCast_add, Int.natCast_mul, Int.cast_ofNat_Int, hm]
          rw [e]
          have s1 : small 40692 = true := small_of (by decide)
          have s2 : small 69621 = true := small_of (by decide)
          have ss : small ((Bag.mk cells (i + 1) 0 seed hseed).seed : Int) = true := small_nat (Nat.lt_trans hseed (by decide))
          have sc : small (c % 2147483579) = true := by rw [← hm]; exact small_nat (Nat.lt_trans hml (by decide))
          walk_at "ev"
        · exact pull2 ⟨cells, i + 1, 0, (seed * 40692 + (c % 2147483579).toNat * 69621 + 11) % 2147483647, hs'⟩ rest k hk hs (some (.d (.int c))) rfl
  · have ht : (Bag.mk cells i r seed hseed).take = Bag.mk cells i r seed hseed := if_neg h0
    refine fin ⟨cells, i, r, seed, hseed⟩ ht ?_
    unfold b__law_pull
    refine es_seq (ρ1 := [some (.m 0), some (.d (.int k)), none, none, none]) (m1 := (Bag.mk cells i r seed hseed).mo :: rest) (es_ifF (m1 := (Bag.mk cells i r seed hseed).mo :: rest) (et_andF ?_) es_next) ?_
    · refine et_bool (ev_op (w1 := .d (.int r)) (m1 := (Bag.mk cells i r seed hseed).mo :: rest) ?_ ev_c (by rw [oEq_ii, decide_eq_false (by omega)]))
      walk_at "ev"
    · exact pull2 ⟨cells, i, r, seed, hseed⟩ rest k hk hs none rfl
/-! ### the bag is made -/
def saltStep (s : Nat) (c : Int) : Nat := (s * 44021 + (c % 2147483579).toNat + 19) % 2147483647
theorem salt_lt : ∀ (ns : List Int) (s : Nat), s < 2147483647 → ns.foldl saltStep s < 2147483647
  | [], _, h => h
  | _ :: ns, _, _ => salt_lt ns _ (Nat.mod_lt _ (by decide))
def Bag.new (ns : List Int) : Bag := ⟨ns.take 63, 0, 0, (ns.take 63).foldl saltStep 3817, salt_lt _ _ (by decide)⟩
theorem cut63 (xs : List D) : cutD xs none (some 63) = xs.take 63 := by
  unfold cutD
  rw [HT.sIx_none]
  have e : HT.sIx xs.length xs.length (some 63) = min 63 xs.length := HT.sIx_nat xs.length xs.length 63
  rw [e, Nat.sub_zero, List.drop_zero]
  by_cases h : 63 ≤ xs.length
  · rw [Nat.min_eq_left h]
  · rw [Nat.min_eq_right (by omega), List.take_length, List.take_of_length_le (by omega)]
theorem salt_loop : ∀ (ns : List Int) (s : Nat) (o : Option W) (w : W), s < 2147483647 → ∃ o', loop (tgName 2) (sAsg (fOp oMod (fCB oInt (fCons (fOp oAdd (fOp oAdd (fOp oMul (fVar 1) (fC (.int 44021))) (fOp oMod (fCB oInt (fCons (fVar 2) fNil)) (fC (.int 2147483579)))) (fC (.int 19))) fNil)) (fC (.int 2147483647))) (tgName 1))
    ((ns.map D.int).map W.d) [some w, some (.d (.int s)), o] [] = .nx [some w, some (.d (.int ((ns.foldl saltStep s : Nat) : Int))), o'] []
  | [], s, o, w, _ => ⟨o, rfl⟩
  | n :: ns, s, o, w, h => by
    obtain ⟨o', e⟩ := salt_loop ns (saltStep s n) (some (.d (.int n))) w (Nat.mod_lt _ (by decide))
    refine ⟨o', ?_⟩
    rw [List.map_cons, List.map_cons]
    refine loop_cons (ρ1 := [some w, some (.d (.int s)), some (.d (.int n))]) (m1 := []) rfl (es_set (w := .d (.int (saltStep s n))) (m1 := []) ?_) e
    have hm : (((n % 2147483579).toNat : Nat) : Int) = n % 2147483579 := Int.toNat_of_nonneg (Int.emod_nonneg _ (by decide))
    have e2 : ((saltStep s n : Nat) : Int) = ((s : Int) * 44021 + n % 2147483579 + 19) % 2147483647 := by
      show (((s * 44021 + (n % 2147483579).toNat + 19) % 2147483647 : Nat) : Int) = _
      simp only [Int.natCast_emod, Int.natCast_add, Int.natCast_mul, Int.cast_ofNat_Int, hm]
    rw [e2]
    have s1 : small 44021 = true := small_of (by decide)
    have ss : small (s : Int) = true := small_nat (Nat.lt_trans h (by decide))
    walk_at "ev"
theorem bag_eq (ns : List Int) : m__law_bag [.d (.fls (ns.map .int))] [] = .ok (.m 0) [(Bag.new ns).mo] := by
  obtain ⟨o', e⟩ := salt_loop (ns.take 63) 3817 none (.d (.fls (ns.map .int))) (by decide)
  have es : fSl false (fVar 0) pNone (pSome (fC (.int 63))) [some (.d (.fls (ns.map .int))), some (.d (.int 3817)), none] [] = .ok (.d (.lst ((ns.take 63).map .int))) [] := by
    show R.ok (W.d (.lst (cutD (ns.map .int) none (some 63)))) [] = _
    rw [cut63, List.map_take]
  have es2 : ∀ s o, fSl false (fVar 0) pNone (pSome (fC (.int 63))) [some (.d (.fls (ns.map .int))), some (.d (.int s)), o] [] = .ok (.d (.lst ((ns.take 63).map .int))) [] := by
    intro s o
    show R.ok (W.d (.lst (cutD (ns.map .int) none (some 63)))) [] = _
    rw [cut63, List.map_take]
  have hb : b__law_bag [some (.d (.fls (ns.map .int))), none, none] [] = .rt (.m 0) [(Bag.new ns).mo] := by
    unfold b__law_bag
    refine es_seq (es_set ev_c) ?_
    refine es_seq (ρ1 := [some (.d (.fls (ns.map .int))), some (.d (.int ((ns.take 63).foldl saltStep 3817 : Nat))), o']) (m1 := []) (es_for (ws := ((ns.take 63).map D.int).map W.d) (m1 := []) ?_ e) ?_
    · unfold iSeq
      show (fSl false (fVar 0) pNone (pSome (fC (.int 63))) [some (.d (.fls (ns.map .int))), some (.d (.int 3817)), none] []).bind _ = _
      rw [es]
      rfl
    · refine es_ret ?_
      have z := ev_lstM (ρ := [some (.d (.fls (ns.map .int))), some (.d (.int ((ns.take 63).foldl saltStep 3817 : Nat))), o']) (m := []) (m1 := []) (la := fCons (fCB (oList false) (fCons (fSl false (fVar 0) pNone (pSome (fC (.int 63)))) fNil)) (fCons (fC (.int 0)) (fCons (fC (.int 0)) (fCons (fVar 1) fNil))))
        (ws := [.d (.lst ((ns.take 63).map .int)), .d (.int 0), .d (.int 0), .d (.int ((ns.take 63).foldl saltStep 3817 : Nat))]) (ev_cons (ev_cb (ev_cons (es2 _ _) ev_nil) rfl) (ev_cons ev_c (ev_cons ev_c (ev_cons (ev_var rfl) ev_nil)))) rfl (show 4 ≤ 100000 by decide)
      refine Eq.trans z ?_
      rfl
  have z := fn_ret (mu := true) (np := 1) (N := 3) (ws := [.d (.fls (ns.map .int))]) rfl hb
  show fnOf true 1 3 b__law_bag _ _ = _
  rw [z]
  rfl
end GD
namespace GD
open PySem PySem.Spec PyProof.Rows L2
noncomputable def bR__law_same (m_rec : Fn) : Ex :=
    (sSeq (sIf (gOr (gTest (fCB oIsi (fCons (fVar 1) (fCons (fC (.ty "list")) fNil)))) (gTest (fCB oIsi (fCons (fVar 1) (fCons (fC (.ty "tuple")) fNil)))))
    (sSeq (sIf (gOr (gBool (fOp oNe (fCB oIsi (fCons (fVar 0) (fCons (fC (.ty "list")) fNil))) (fCB oIsi (fCons (fVar 1) (fCons (fC (.ty "list")) fNil))))) (gBool (fOp oNe (fCB oIsi (fCons (fVar 0) (fCons (fC (.ty "tuple")) fNil))) (fCB oIsi (fCons (fVar 1) (fCons (fC (.ty "tuple")) fNil))))))
    (sRet (fC (.bl false)))
    sNext)
    (sRet (fAnd (fOp oEq (fCB oLen (fCons (fVar 0) fNil)) (fCB oLen (fCons (fVar 1) fNil))) (fCB oAll (fCons (fLc (iZip2 (fCons (fVar 0) (fCons (fVar 1) fNil))) (tgTup 2 (tgCons (tgName 2) (tgCons (tgName 3) tgNil))) gYes (fCall m_rec (fCons (fVar 2) (fCons (fVar 3) fNil))) [2, 3]) fNil)))))
    sNext)
    (sSeq (sIf (gTest (fCB oIsi (fCons (fVar 1) (fCons (fC (.ty "dict")) fNil))))
    (sRet (fAnd (fCB oIsi (fCons (fVar 0) (fCons (fC (.ty "dict")) fNil))) (fAnd (fCall m_rec (fCons (fCB oSorted (fCons (fCB (oList false) (fCons (fVar 0) fNil)) fNil)) (fCons (fCB oSorted (fCons (fCB (oList false) (fCons (fVar 1) fNil)) fNil)) fNil))) (fCB oAll (fCons (fLc (iSeq (fCB (oList false) (fCons (fVar 1) fNil))) (tgName 4) gYes (fCall m_rec (fCons (fOp oIx (fVar 0) (fVar 4)) (fCons (fOp oIx (fVar 1) (fVar 4)) fNil))) [4]) fNil)))))
    sNext)
    (sSeq (sIf (gOr (gBool (fOp oIs (fVar 1) (fC .non))) (gBool (fOp oIs (fVar 0) (fC .non))))
    (sRet (fAnd (fOp oIs (fVar 1) (fC .non)) (fOp oIs (fVar 0) (fC .non))))
    sNext)
    (sSeq (sIf (gOr (gBool (fOp oNe (fCB oIsi (fCons (fVar 0) (fCons (fC (.ty "bool")) fNil))) (fCB oIsi (fCons (fVar 1) (fCons (fC (.ty "bool")) fNil))))) (gBool (fOp oNe (fCB oIsi (fCons (fVar 0) (fCons (fC (.ty "int")) fNil))) (fCB oIsi (fCons (fVar 1) (fCons (fC (.ty "int")) fNil))))))
    (sRet (fC (.bl false)))
    sNext)
    (sRet (fAnd (fOp oEq (fCB oIsi (fCons (fVar 0) (fCons (fC (.ty "str")) fNil))) (fCB oIsi (fCons (fVar 1) (fCons (fC (.ty "str")) fNil)))) (fOp oEq (fVar 0) (fVar 1))))))))
noncomputable def m__law_same : Nat → Fn
  | 0 => fun _ _ => .bad
  | n + 1 => fnOf false 2 5 (bR__law_same (m__law_same n))
/-! ### a value is the same as itself -/
/-- plain data of at most n levels -/
def plainD : Nat → D → Bool
  | 0, _ => false
  | _ + 1, .non => true
  | _ + 1, .bl _ => true
  | _ + 1, .int _ => true
  | _ + 1, .str _ => true
  | n + 1, .tup xs => decide (xs.length ≤ 100000) && xs.all (plainD n)
  | n + 1, .lst xs => decide (xs.length ≤ 100000) && xs.all (plainD n)
  | _ + 1, _ => false
theorem isi_of {x : D} {t n : String} {m : Mem} {b : Bool} (h1 : tyName (.d x) m = some t) (h : subTy t n = some b) : oIsi [.d x, .d (.ty n)] m = .ok (.d (.bl b)) m := by
  unfold oIsi
  dsimp only
  rw [h1]
  dsimp only
  rw [h]
theorem zip_self {xs : List D} : zipD xs xs = xs.map fun x => W.d (.tup [x, x]) := by
  unfold zipD
  induction xs with
  | nil => rfl
  | cons a l ih => simp at ih ⊢; exact ih
theorem same_refl : ∀ (n : Nat) (x : D) (m : Mem), plainD n x = true → m__law_same n [.d x, .d x] m = .ok (.d (.bl true)) m
  | 0, _, _, h => by simp [plainD] at h
  | n + 1, x, m, hp => by
    have fin : bR__law_same (m__law_same n) [some (.d x), some (.d x), none, none, none] m = .rt (.d (.bl true)) m → m__law_same (n + 1) [.d x, .d x] m = .ok (.d (.bl true)) m := by
      intro h
      have z := fn_ret (mu := false) (np := 2) (N := 5) (ws := [.d x, .d x]) rfl h
      show fnOf false 2 5 (bR__law_same (m__law_same n)) _ _ = _
      rw [z, leave_d, List.take_length]
    have ck : ∀ (k : Nat) (t n : String) (b : Bool), [some (W.d x), some (.d x), none, none, none][k]? = some (some (.d x)) → tyName (.d x) m = some t → subTy t n = some b → fCB oIsi (fCons (fVar k) (fCons (fC (.ty n)) fNil)) [some (.d x), some (.d x), none, none, none] m = .ok (.d (.bl b)) m :=
      fun k t n b h1 h0 h2 => ev_cb (ev_cons (ev_var h1) (ev_cons ev_c ev_nil)) (isi_of h0 h2)
    have sc : ∀ (t : String) (bb bi bs : Bool), tyName (.d x) m = some t → subTy t "list" = some false → subTy t "tuple" = some false → subTy t "dict" = some false → subTy t "bool" = some bb → subTy t "int" = some bi → subTy t "str" = some bs →
        (∀ m, oIs (.d x) (.d .non) m = .ok (.d (.bl false)) m) → (∀ m, oEq (.d x) (.d x) m = .ok (.d (.bl true)) m) → m__law_same (n + 1) [.d x, .d x] m = .ok (.d (.bl true)) m := by
      intro t bb bi bs h0 h1 h2 h3 h4 h5 h6 h7 h8
      refine fin ?_
      unfold bR__law_same
      refine es_seq (es_ifF (et_orF (et_test (ck 1 t _ false rfl h0 h1) rfl) (et_test (ck 1 t _ false rfl h0 h2) rfl)) es_next) ?_
      refine es_seq (es_ifF (et_test (ck 1 t _ false rfl h0 h3) rfl) es_next) ?_
      refine es_seq (es_ifF (et_orF (et_bool (ev_op (ev_var rfl) ev_c (h7 _))) (et_bool (ev_op (ev_var rfl) ev_c (h7 _)))) es_next) ?_
      refine es_seq (es_ifF (et_orF (et_bool (ev_op (ck 0 t _ bb rfl h0 h4) (ck 1 t _ bb rfl h0 h4) (by rw [oNe_bb, decide_eq_true rfl]; rfl))) (et_bool (ev_op (ck 0 t _ bi rfl h0 h5) (ck 1 t _ bi rfl h0 h5) (by rw [oNe_bb, decide_eq_true rfl]; rfl)))) es_next) ?_
      exact es_ret (ev_andT (ev_op (ck 0 t _ bs rfl h0 h6) (ck 1 t _ bs rfl h0 h6) (by rw [oEq_bb, decide_eq_true rfl])) (ev_op (ev_var rfl) (ev_var rfl) (h8 _)))
    have sq : ∀ (t : String) (xs : List D) (bl bt : Bool), tyName (.d x) m = some t → subTy t "list" = some bl → subTy t "tuple" = some bt → (bl || bt) = true → (∀ m, oLen [.d x] m = .ok (.d (.int xs.length)) m) → (∀ m : Mem, iZip2 (fCons (fVar 0) (fCons (fVar 1) fNil)) [some (.d x), some (.d x), none, none, none] m = .ok (zipD xs xs) m) →
        xs.length ≤ 100000 → (∀ y ∈ xs, plainD n y = true) → m__law_same (n + 1) [.d x, .d x] m = .ok (.d (.bl true)) m := by
      intro t xs bl bt h0 h1 h2 h3 h4 h5 hl hx
      refine fin ?_
      unfold bR__law_same
      have test : gOr (gTest (fCB oIsi (fCons (fVar 1) (fCons (fC (.ty "list")) fNil)))) (gTest (fCB oIsi (fCons (fVar 1) (fCons (fC (.ty "tuple")) fNil)))) [some (.d x), some (.d x), none, none, none] m = .ok true m := by
        cases bl with
        | true => exact et_orT (et_test (ck 1 t _ true rfl h0 h1) rfl)
        | false =>
          cases bt with
          | true => exact et_orF (et_test (ck 1 t _ false rfl h0 h1) rfl) (et_test (ck 1 t _ true rfl h0 h2) rfl)
          | false => cases h3
      refine es_seqR (es_ifT test ?_)
      refine es_seq (es_ifF (et_orF (et_bool (ev_op (ck 0 t _ bl rfl h0 h1) (ck 1 t _ bl rfl h0 h1) (by rw [oNe_bb, decide_eq_true rfl]; rfl))) (et_bool (ev_op (ck 0 t _ bt rfl h0 h2) (ck 1 t _ bt rfl h0 h2) (by rw [oNe_bb, decide_eq_true rfl]; rfl)))) es_next) ?_
      have hc := lcs_pure (ws := zipD xs xs) (g := tgTup 2 (tgCons (tgName 2) (tgCons (tgName 3) tgNil))) (t := gYes) (a := fCall (m__law_same n) (fCons (fVar 2) (fCons (fVar 3) fNil))) (ρ := [some (.d x), some (.d x), none, none, none]) (m := m) (fun _ => true) (fun _ => .bl true) (fun w hw => by
        rw [zip_self] at hw
        obtain ⟨y, hy, rfl⟩ := List.mem_map.mp hw
        refine ⟨[some (.d x), some (.d x), some (.d y), some (.d y), none], rfl, rfl, fun _ => ?_⟩
        exact ev_call (ev_cons (ev_var rfl) (ev_cons (ev_var rfl) ev_nil)) (same_refl n y m (hx y hy))) [] (by rw [zipD_len]; simp; omega)
      have hall : oAll [.d (.lst ([] ++ ((zipD xs xs).filter fun _ => true).map fun _ => D.bl true))] m = .ok (.d (.bl true)) m := by
        have hb : ∀ l : List W, boolsD (l.map fun _ => D.bl true) = some (l.map fun _ => true) := by
          intro l
          induction l with
          | nil => rfl
          | cons a l ih => simp [boolsD, ih]
        unfold oAll lstOf
        dsimp only
        rw [List.nil_append, hb]
        simp
      have eqL : ∀ i : Int, oEq (.d (.int i)) (.d (.int i)) m = .ok (.d (.bl true)) m := fun i => by rw [oEq_ii, decide_eq_true rfl]
      exact es_ret (ev_andT (ev_op (ev_cb (ev_cons (ev_var rfl) ev_nil) (h4 _)) (ev_cb (ev_cons (ev_var rfl) ev_nil) (h4 _)) (eqL _)) (ev_cb (ev_cons (lc_eq (h5 m) hc) ev_nil) hall))
    cases x with
    | non =>
      refine fin ?_
      unfold bR__law_same
      refine es_seq (es_ifF (et_orF (et_test (ck 1 "NoneType" _ false rfl rfl (by decide)) rfl) (et_test (ck 1 "NoneType" _ false rfl rfl (by decide)) rfl)) es_next) ?_
      refine es_seq (es_ifF (et_test (ck 1 "NoneType" _ false rfl rfl (by decide)) rfl) es_next) ?_
      exact es_seqR (es_ifT (et_orT (et_bool (ev_op (ev_var rfl) ev_c oIs_nn))) (es_ret (ev_andT (ev_op (ev_var rfl) ev_c oIs_nn) (ev_op (ev_var rfl) ev_c oIs_nn))))
    | bl b => exact sc "bool" true true false rfl (by decide) (by decide) (by decide) (by decide) (by decide) (by decide) (fun _ => rfl) (fun _ => by rw [oEq_bb, decide_eq_true rfl])
    | int b => exact sc "int" false true false rfl (by decide) (by decide) (by decide) (by decide) (by decide) (by decide) (fun _ => rfl) (fun _ => by rw [oEq_ii, decide_eq_true rfl])
    | str b => exact sc "str" false false true rfl (by decide) (by decide) (by decide) (by decide) (by decide) (by decide) (fun _ => rfl) (fun _ => by rw [oEq_ss, decide_eq_true rfl])
    | tup xs =>
      unfold plainD at hp
      rw [Bool.and_eq_true] at hp
      exact sq "tuple" xs false true rfl (by decide) (by decide) rfl (fun _ => rfl) (fun _ => rfl) (of_decide_eq_true hp.1) (List.all_eq_true.mp hp.2)
    | lst xs =>
      unfold plainD at hp
      rw [Bool.and_eq_true] at hp
      exact sq "list" xs true false rfl (by decide) (by decide) rfl (fun _ => rfl) (fun _ => rfl) (of_decide_eq_true hp.1) (List.all_eq_true.mp hp.2)
    | fls xs => simp [plainD] at hp
    | obj c ns vs => simp [plainD] at hp
    | gl x => simp [plainD] at hp
    | ty x => simp [plainD] at hp
    | lam i z => simp [plainD] at hp
    | xin z ns vs => simp [plainD] at hp
    | own j => simp [plainD] at hp
end GD
/-! LE: equality of plain data. -/
namespace GD
open PySem PySem.Spec PyProof.Rows L2
/-- plain data of a depth less than n -/
def eqP : Nat → D → Bool
  | 0, _ => false
  | _ + 1, .non => true
  | _ + 1, .bl _ => true
  | _ + 1, .int _ => true
  | _ + 1, .str x => PyData.strOk x
  | n + 1, .tup xs => xs.all (eqP n)
  | n + 1, .lst xs => xs.all (eqP n)
  | _ + 1, _ => false
def eqvW (x y : D) : Bool := match x.py, y.py with
  | some p, some q => PyData.eqv p q
  | _, _ => false
theorem py_L {f : D → Prop} {n : Nat} (ih : ∀ x, eqP n x = true → ∃ p, D.py x = some p ∧ p.canLay0 = true ∧ p.depth ≤ n) : ∀ xs : List D, xs.all (eqP n) = true → ∃ ps, D.pyL xs = some ps ∧ PyData.canLayAll0 ps = true ∧ PyData.depthAll ps ≤ n
  | [], _ => ⟨[], rfl, rfl, by rw [PyData.depthAll]; omega⟩
  | x :: xs, h => by
    rw [List.all_cons, Bool.and_eq_true] at h
    obtain ⟨p, h1, h2, h3⟩ := ih x h.1
    obtain ⟨ps, g1, g2, g3⟩ := py_L (f := f) ih xs h.2
    refine ⟨p :: ps, by rw [D.pyL, h1, g1], by rw [PyData.canLayAll0, h2, g2]; rfl, by rw [PyData.depthAll]; omega⟩
theorem py_P : ∀ (n : Nat) (x : D), eqP n x = true → ∃ p, D.py x = some p ∧ p.canLay0 = true ∧ p.depth ≤ n
  | 0, _, h => by simp [eqP] at h
  | n + 1, .non, _ => ⟨.none, rfl, rfl, by rw [PyData.depth]; omega⟩
  | n + 1, .bl b, _ => ⟨.bool b, rfl, rfl, by rw [PyData.depth]; omega⟩
  | n + 1, .int b, _ => ⟨.int b, rfl, rfl, by rw [PyData.depth]; omega⟩
  | n + 1, .str b, h => ⟨.str b, rfl, h, by rw [PyData.depth]; omega⟩
  | n + 1, .tup xs, h => by
    obtain ⟨ps, g1, g2, g3⟩ := py_L (f := fun _ => True) (py_P n) xs h
    exact ⟨.tuple ps, by rw [D.py, g1]; rfl, g2, by rw [PyData.depth]; omega⟩
  | n + 1, .lst xs, h => by
    obtain ⟨ps, g1, g2, g3⟩ := py_L (f := fun _ => True) (py_P n) xs h
    exact ⟨.list ps, by rw [D.py, g1]; rfl, g2, by rw [PyData.depth]; omega⟩
  | n + 1, .fls _, h | n + 1, .obj _ _ _, h | n + 1, .gl _, h | n + 1, .ty _, h => by simp [eqP] at h
theorem eqD_P {n : Nat} {x y : D} (hx : eqP n x = true) (hy : eqP n y = true) (hn : n ≤ 64) : eqD x y = some (eqvW x y) := by
  obtain ⟨p, h1, h2, h3⟩ := py_P n x hx
  obtain ⟨q, g1, g2, g3⟩ := py_P n y hy
  have s1 : SeqAt.shaped p = true := by unfold SeqAt.shaped; rw [h2, decide_eq_true (by omega)]; rfl
  have s2 : SeqAt.shaped q = true := by unfold SeqAt.shaped; rw [g2, decide_eq_true (by omega)]; rfl
  unfold eqD eqvW
  split
  · simp [D.py, PyData.eqv]; first | rfl | (rw [Bool.eq_iff_iff]; simp)
  · simp [D.py, PyData.eqv]; first | rfl | (rw [Bool.eq_iff_iff]; simp)
  · simp [D.py, PyData.eqv]; first | rfl | (rw [Bool.eq_iff_iff]; simp)
  · rfl
  · rfl
  · rfl
  · rfl
  · rfl
  · rfl
  · rfl
  · rw [h1, g1]
    dsimp only
    rw [s1, s2]
    rfl
theorem oEq_P {n : Nat} {x y : D} {m : Mem} (hx : eqP n x = true) (hy : eqP n y = true) (hn : n ≤ 64) : oEq (.d x) (.d y) m = .ok (.d (.bl (eqvW x y))) m := by
  unfold oEq
  dsimp only [datOf]
  rw [eqD_P hx hy hn]
theorem oNe_P {n : Nat} {x y : D} {m : Mem} (hx : eqP n x = true) (hy : eqP n y = true) (hn : n ≤ 64) : oNe (.d x) (.d y) m = .ok (.d (.bl (!eqvW x y))) m := by
  unfold oNe
  dsimp only [datOf]
  rw [eqD_P hx hy hn]
theorem eqvAll_refl {n : Nat} (ih : ∀ x p, eqP n x = true → D.py x = some p → PyData.eqv p p = true) : ∀ (xs : List D) (ps : List PyData), xs.all (eqP n) = true → D.pyL xs = some ps → PyData.eqvAll ps ps = true
  | [], _, _, e => by cases e; rfl
  | x :: xs, ps, h, e => by
    rw [List.all_cons, Bool.and_eq_true] at h
    rw [D.pyL] at e
    split at e
    · rename_i a b e1 e2
      cases e
      rw [PyData.eqvAll, ih x a h.1 e1, eqvAll_refl ih xs b h.2 e2]
      rfl
    · cases e
theorem eqv_refl : ∀ (n : Nat) (x : D) (p : PyData), eqP n x = true → D.py x = some p → PyData.eqv p p = true
  | 0, _, _, h, _ => by simp [eqP] at h
  | n + 1, .non, _, _, e => by cases e; rfl
  | n + 1, .bl b, _, _, e => by cases e; simp [PyData.eqv]
  | n + 1, .int b, _, _, e => by cases e; simp [PyData.eqv]
  | n + 1, .str b, _, _, e => by cases e; simp [PyData.eqv]
  | n + 1, .tup xs, _, h, e => by
    rw [D.py, Option.map_eq_some_iff] at e
    obtain ⟨ps, e1, rfl⟩ := e
    rw [PyData.eqv]
    exact eqvAll_refl (eqv_refl n) xs ps h e1
  | n + 1, .lst xs, _, h, e => by
    rw [D.py, Option.map_eq_some_iff] at e
    obtain ⟨ps, e1, rfl⟩ := e
    rw [PyData.eqv]
    exact eqvAll_refl (eqv_refl n) xs ps h e1
  | n + 1, .fls _, _, h, _ | n + 1, .obj _ _ _, _, h, _ | n + 1, .gl _, _, h, _ | n + 1, .ty _, _, h, _ => by simp [eqP] at h
theorem eqvW_refl {n : Nat} {x : D} (h : eqP n x = true) : eqvW x x = true := by
  obtain ⟨p, h1, _, _⟩ := py_P n x h
  unfold eqvW
  rw [h1]
  exact eqv_refl n x p h h1
@[simp] theorem eqvW_ii {i j : Int} : eqvW (.int i) (.int j) = (i == j) := by simp [eqvW, D.py, PyData.eqv]
@[simp] theorem eqvW_ss {i j : Str} : eqvW (.str i) (.str j) = (i == j) := by simp [eqvW, D.py, PyData.eqv]
@[simp] theorem eqvW_bb {i j : Bool} : eqvW (.bl i) (.bl j) = (i == j) := by simp [eqvW, D.py, PyData.eqv]
@[simp] theorem eqvW_nn : eqvW .non .non = true := rfl
@[simp] theorem eqvW_is {i : Int} {j : Str} : eqvW (.int i) (.str j) = false := rfl
@[simp] theorem eqvW_si {i : Int} {j : Str} : eqvW (.str j) (.int i) = false := rfl
@[simp] theorem eqvW_tn : eqvW (.tup []) (.tup []) = true := rfl
@[simp] theorem eqvW_ln : eqvW (.lst []) (.lst []) = true := rfl
theorem eqvW_tc {x y : D} {xs ys : List D} : eqvW (.tup (x :: xs)) (.tup (y :: ys)) = (eqvW x y && eqvW (.tup xs) (.tup ys)) := by
  unfold eqvW
  simp only [D.py, D.pyL]
  cases h1 : D.py x <;> cases h2 : D.py y <;> cases h3 : D.pyL xs <;> cases h4 : D.pyL ys <;> simp [PyData.eqv, PyData.eqvAll]
theorem eqvW_tcn {x : D} {xs : List D} : eqvW (.tup (x :: xs)) (.tup []) = false := by
  unfold eqvW
  simp only [D.py, D.pyL]
  cases h1 : D.py x <;> cases h3 : D.pyL xs <;> simp [PyData.eqv, PyData.eqvAll]
end GD
namespace GD
open PySem PySem.Spec PyProof.Rows L2
def b_placed : Ex :=
    (sSeq (sAsg (fVar 0) (tgUn 2 (tgCons (tgName 2) (tgCons (tgName 3) tgNil))))
    (sRet (fIf (gBool (fOp oEq (fVar 2) (fC (.str "top")))) (fVar 3) (fOp oSub (fOp oSub (fVar 1) (fC (.int 1))) (fVar 3)))))
def m_placed : Fn := fnOf false 2 4 b_placed
def b_is_item : Ex :=
    (sSeq (sIf (gBool (fOp oEq (fVar 0) (fC (.str "p"))))
    (sRet (fAnd (fCB oIsi (fCons (fVar 1) (fCons (fC (.ty "tuple")) fNil))) (fAnd (fOp oEq (fCB oLen (fCons (fVar 1) fNil)) (fC (.int 2))) (fAnd (fOp (oInT false "ENDS" [("top", "t"), ("bottom", "b")]) (fOp oIx (fVar 1) (fC (.int 0))) (fC (.gl "ENDS"))) (fChain oLe oLe (fC (.int 0)) (fOp oIx (fVar 1) (fC (.int 1))) (fC (.int (399))))))))
    sNext)
    (sSeq (sIf (gBool (fOp oEq (fVar 0) (fC (.str "e"))))
    (sRet (fOp (oInT false "ENDS" [("top", "t"), ("bottom", "b")]) (fVar 1) (fC (.gl "ENDS"))))
    sNext)
    (sRet (fAnd (fCB oIsi (fCons (fVar 1) (fCons (fC (.ty "int")) fNil))) (fChain oLe oLe (fIf (gBool (fOp oEq (fVar 0) (fC (.str "k")))) (fUn oNeg (fC (.int (400)))) (fC (.int 0))) (fVar 1) (fC (.int (400))))))))
def m_is_item : Fn := fnOf false 2 2 b_is_item
def b_is_move : Ex :=
    (sSeq (sIf (gOr (gBool (fOp oEq (fVar 0) (fTup fNil))) (gOr (gBool (fOp (oInT true "SHAPES" [("swap", "pp"), ("carry", "pp"), ("cut", "k"), ("turn", "eb"), ("over", ""), ("face", "p")]) (fOp oIx (fVar 0) (fC (.int 0))) (fC (.gl "SHAPES")))) (gBool (fOp oNe (fCB oLen (fCons (fVar 0) fNil)) (fOp oAdd (fCB oLen (fCons (fOp (oIxT "SHAPES" [("swap", "pp"), ("carry", "pp"), ("cut", "k"), ("turn", "eb"), ("over", ""), ("face", "p")]) (fC (.gl "SHAPES")) (fOp oIx (fVar 0) (fC (.int 0)))) fNil)) (fC (.int 1)))))))
    (sRet (fC (.bl false)))
    sNext)
    (sRet (fCB oAll (fCons (fLc (iZipA (fCons (fOp (oIxT "SHAPES" [("swap", "pp"), ("carry", "pp"), ("cut", "k"), ("turn", "eb"), ("over", ""), ("face", "p")]) (fC (.gl "SHAPES")) (fOp oIx (fVar 0) (fC (.int 0)))) (fCons (fSl false (fVar 0) (pSome (fC (.int 1))) pNone) fNil))) (tgTup 2 (tgCons (tgName 1) (tgCons (tgName 2) tgNil))) gYes (fCall m_is_item (fCons (fVar 1) (fCons (fVar 2) fNil))) [1, 2]) fNil))))
def m_is_move : Fn := fnOf false 1 3 b_is_move
def b_depth_of : Ex :=
    (sSeq (sMatch (fOp oIx (fVar 0) (fC (.int 0))) [(["swap", "carry"], (sRet (fOp oAdd (fCB oMax (fCons (fOp oIx (fOp oIx (fVar 0) (fC (.int 1))) (fC (.int 1))) (fCons (fOp oIx (fOp oIx (fVar 0) (fC (.int 2))) (fC (.int 1))) fNil))) (fC (.int 1))))),
    (["face"], (sRet (fOp oAdd (fOp oIx (fOp oIx (fVar 0) (fC (.int 1))) (fC (.int 1))) (fC (.int 1))))),
    (["cut"], (sRet (fCB oAbs (fCons (fOp oIx (fVar 0) (fC (.int 1))) fNil)))),
    (["turn"], (sRet (fOp oIx (fVar 0) (fC (.int 2)))))])
    (sRet (fC (.int 0))))
def m_depth_of : Fn := fnOf false 1 1 b_depth_of
def b_carried : Ex :=
    (sSeq (sIf (gBool (fOp oEq (fVar 2) (fVar 0)))
    (sRet (fVar 1))
    sNext)
    (sSeq (sIf (gBool (fChain oLt oLe (fVar 0) (fVar 2) (fVar 1)))
    (sRet (fOp oSub (fVar 2) (fC (.int 1))))
    sNext)
    (sRet (fIf (gBool (fChain oLe oLt (fVar 1) (fVar 2) (fVar 0))) (fOp oAdd (fVar 2) (fC (.int 1))) (fVar 2)))))
def m_carried : Fn := fnOf false 3 3 b_carried
def b_moved : Ex :=
    (sSeq (sIf (gBool (fOp oGt (fCall m_depth_of (fCons (fVar 0) fNil)) (fVar 1)))
    (sRet (fTup (fCons (fVar 2) (fCons (fC (.bl false)) fNil))))
    sNext)
    (sSeq (sMatch (fOp oIx (fVar 0) (fC (.int 0))) [(["swap"], (sSeq (sAsg (fLst (fCons (fCall m_placed (fCons (fOp oIx (fVar 0) (fC (.int 1))) (fCons (fVar 1) fNil))) (fCons (fCall m_placed (fCons (fOp oIx (fVar 0) (fC (.int 2))) (fCons (fVar 1) fNil))) fNil))) (tgName 3))
    (sRet (fIf (gBool (fOp (oIn false) (fVar 2) (fVar 3))) (fTup (fCons (fOp oIx (fVar 3) (fOp oSub (fC (.int 1)) (fBM isL oIndex (fVar 3) (fCons (fVar 2) fNil)))) (fCons (fC (.bl false)) fNil))) (fTup (fCons (fVar 2) (fCons (fC (.bl false)) fNil))))))),
    (["carry"], (sRet (fTup (fCons (fCall m_carried (fCons (fCall m_placed (fCons (fOp oIx (fVar 0) (fC (.int 1))) (fCons (fVar 1) fNil))) (fCons (fCall m_placed (fCons (fOp oIx (fVar 0) (fC (.int 2))) (fCons (fVar 1) fNil))) (fCons (fVar 2) fNil)))) (fCons (fC (.bl false)) fNil))))),
    (["cut"], (sRet (fTup (fCons (fOp oMod (fOp oSub (fVar 2) (fOp oIx (fVar 0) (fC (.int 1)))) (fVar 1)) (fCons (fC (.bl false)) fNil))))),
    (["turn"], (sSeq (sAsg (fSl false (fVar 0) (pSome (fC (.int 1))) pNone) (tgUn 2 (tgCons (tgName 4) (tgCons (tgName 5) tgNil))))
    (sSeq (sAsg (fIf (gBool (fOp oEq (fVar 4) (fC (.str "top")))) (fVar 2) (fOp oSub (fOp oSub (fVar 1) (fC (.int 1))) (fVar 2))) (tgName 6))
    (sRet (fIf (gBool (fOp oLt (fVar 6) (fVar 5))) (fTup (fCons (fCall m_placed (fCons (fTup (fCons (fVar 4) (fCons (fOp oSub (fOp oSub (fVar 5) (fC (.int 1))) (fVar 6)) fNil))) (fCons (fVar 1) fNil))) (fCons (fC (.bl true)) fNil))) (fTup (fCons (fVar 2) (fCons (fC (.bl false)) fNil)))))))),
    (["face"], (sRet (fTup (fCons (fVar 2) (fCons (fOp oEq (fVar 2) (fCall m_placed (fCons (fOp oIx (fVar 0) (fC (.int 1))) (fCons (fVar 1) fNil)))) fNil)))))])
    (sRet (fTup (fCons (fOp oSub (fOp oSub (fVar 1) (fC (.int 1))) (fVar 2)) (fCons (fC (.bl true)) fNil))))))
def m_moved : Fn := fnOf false 3 7 b_moved
def b__law_of : Ex :=
    (sRet (fOp oIx (fVar 1) (fCall m__law_pull (fCons (fVar 0) (fCons (fCB oLen (fCons (fVar 1) fNil)) fNil)))))
def m__law_of : Fn := fnOf false 2 2 b__law_of
/-! ### moves -/
def endS (t : Bool) : Str := if t then "top" else "bottom"
def eD (t : Bool) (d : Nat) : D := .tup [.str (endS t), .int d]
inductive Mv where
  | swap (t1 : Bool) (d1 : Nat) (t2 : Bool) (d2 : Nat)
  | carry (t1 : Bool) (d1 : Nat) (t2 : Bool) (d2 : Nat)
  | cut (k : Int)
  | turn (t : Bool) (n : Nat)
  | over
  | face (t : Bool) (d : Nat)
def Mv.D : Mv → D
  | .swap t1 d1 t2 d2 => .tup [.str "swap", eD t1 d1, eD t2 d2]
  | .carry t1 d1 t2 d2 => .tup [.str "carry", eD t1 d1, eD t2 d2]
  | .cut k => .tup [.str "cut", .int k]
  | .turn t n => .tup [.str "turn", .str (endS t), .int n]
  | .over => .tup [.str "over"]
  | .face t d => .tup [.str "face", eD t d]
def Mv.reach : Mv → Nat
  | .swap _ d1 _ d2 => max d1 d2 + 1
  | .carry _ d1 _ d2 => max d1 d2 + 1
  | .cut k => k.natAbs
  | .turn _ n => n
  | .over => 0
  | .face _ d => d + 1
def Mv.ok : Mv → Prop
  | .swap _ d1 _ d2 => d1 ≤ 399 ∧ d2 ≤ 399
  | .carry _ d1 _ d2 => d1 ≤ 399 ∧ d2 ≤ 399
  | .cut k => k.natAbs ≤ 400
  | .turn _ n => n ≤ 400
  | .over => True
  | .face _ d => d ≤ 399
def pl (t : Bool) (d n : Int) : Int := if t then d else n - 1 - d
def carr (s g p : Int) : Int := if p = s then g else if s < p ∧ p ≤ g then p - 1 else if g ≤ p ∧ p < s then p + 1 else p
def Mv.go (mv : Mv) (n p : Int) : Int × Bool := match mv with
  | .swap t1 d1 t2 d2 => if p = pl t1 d1 n then (pl t2 d2 n, false) else if p = pl t2 d2 n then (pl t1 d1 n, false) else (p, false)
  | .carry t1 d1 t2 d2 => (carr (pl t1 d1 n) (pl t2 d2 n) p, false)
  | .cut k => ((p - k) % n, false)
  | .turn t m => if pl t p n < m then (pl t (m - 1 - pl t p n) n, true) else (p, false)
  | .face t d => (p, decide (p = pl t d n))
  | .over => (n - 1 - p, true)
def Mv.img (mv : Mv) (n p : Int) : Int × Bool := if n < (mv.reach : Int) then (p, false) else mv.go n p
def gD (r : Int × Bool) : D := .tup [.int r.1, .bl r.2]
theorem fn_m {mu : Bool} {np N : Nat} {b : Ex} {ws : List W} {m : Mem} {x : D} (hl : ws.length = np) (h : b (ws.map some ++ List.replicate (N - ws.length) none) m = .rt (.d x) m) : fnOf mu np N b ws m = .ok (.d x) m := by
  rw [fn_ret hl h, leave_d, List.take_length]
theorem ev_chain {o o' : O2} {a b c : Ev} {ρ : Env} {m m1 m2 m3 m4 : Mem} {x y w : W} {r : R W} (h1 : a ρ m = .ok x m1) (h2 : b ρ m1 = .ok y m2) (h3 : o x y m2 = .ok (.d (.bl true)) m3) (h4 : c ρ m3 = .ok w m4) (h5 : o' y w m4 = r) : fChain o o' a b c ρ m = r := by
  unfold fChain
  rw [h1, R.bind_ok, h2, R.bind_ok, h3, R.bind_ok]
  dsimp only
  rw [h4]
  exact h5
theorem ev_chainF {o o' : O2} {a b c : Ev} {ρ : Env} {m m1 m2 m3 : Mem} {x y : W} (h1 : a ρ m = .ok x m1) (h2 : b ρ m1 = .ok y m2) (h3 : o x y m2 = .ok (.d (.bl false)) m3) : fChain o o' a b c ρ m = .ok (.d (.bl false)) m3 := by
  unfold fChain
  rw [h1, R.bind_ok, h2, R.bind_ok, h3, R.bind_ok]
/-- a chain of numbers -/
theorem ev_ch {o o' : O2} {a b c : Ev} {ρ : Env} {m : Mem} {i j k : Int} {p q : Bool} (h1 : a ρ m = .ok (.d (.int i)) m) (h2 : b ρ m = .ok (.d (.int j)) m) (h4 : c ρ m = .ok (.d (.int k)) m) (h3 : o (.d (.int i)) (.d (.int j)) m = .ok (.d (.bl p)) m) (h5 : o' (.d (.int j)) (.d (.int k)) m = .ok (.d (.bl q)) m) : fChain o o' a b c ρ m = .ok (.d (.bl (p && q))) m := by
  cases p with
  | true => exact ev_chain h1 h2 h3 h4 h5
  | false => exact ev_chainF h1 h2 h3
theorem item_p (t : Bool) (d : Nat) (m : Mem) (hd : d ≤ 399) : m_is_item [.d (.str "p"), .d (eD t d)] m = .ok (.d (.bl true)) m := by
  refine fn_m rfl ?_
  show b_is_item [some (.d (.str "p")), some (.d (eD t d))] m = _
  have h : ∀ (ρ : Env), ρ[1]? = some (some (.d (eD t d))) → fChain oLe oLe (fC (.int 0)) (fOp oIx (fVar 1) (fC (.int 1))) (fC (.int (399))) ρ m = .ok (.d (.bl true)) m := fun ρ hρ => by
    rw [ev_ch ev_c (ev_op (ev_var hρ) ev_c (ixt_ok (x := .int d) rfl)) ev_c oLe_ii oLe_ii, decide_eq_true (by omega), decide_eq_true (by omega)]
    rfl
  unfold b_is_item
  cases t with
  | true => exact es_seqR (es_ifT (et_bool rfl) (es_ret (ev_andT rfl (ev_andT rfl (ev_andT rfl (h _ rfl))))))
  | false => exact es_seqR (es_ifT (et_bool rfl) (es_ret (ev_andT rfl (ev_andT rfl (ev_andT rfl (h _ rfl))))))
theorem item_e (t : Bool) (m : Mem) : m_is_item [.d (.str "e"), .d (.str (endS t))] m = .ok (.d (.bl true)) m := by
  refine fn_m rfl ?_
  cases t <;> rfl
theorem item_b (n : Nat) (m : Mem) (hn : n ≤ 400) : m_is_item [.d (.str "b"), .d (.int n)] m = .ok (.d (.bl true)) m := by
  refine fn_m rfl ?_
  show b_is_item [some (.d (.str "b")), some (.d (.int n))] m = _
  unfold b_is_item
  refine es_seq (es_ifF (et_bool rfl) es_next) (es_seq (es_ifF (et_bool rfl) es_next) (es_ret (ev_andT rfl ?_)))
  rw [ev_ch (i := 0) (ev_ifF (et_bool rfl) ev_c) (ev_var rfl) ev_c oLe_ii oLe_ii, decide_eq_true (by omega), decide_eq_true (by omega)]
  rfl
theorem item_k (k : Int) (m : Mem) (hk : k.natAbs ≤ 400) : m_is_item [.d (.str "k"), .d (.int k)] m = .ok (.d (.bl true)) m := by
  refine fn_m rfl ?_
  show b_is_item [some (.d (.str "k")), some (.d (.int k))] m = _
  unfold b_is_item
  refine es_seq (es_ifF (et_bool rfl) es_next) (es_seq (es_ifF (et_bool rfl) es_next) (es_ret (ev_andT rfl ?_)))
  rw [ev_ch (i := -400) (ev_ifT (et_bool rfl) rfl) (ev_var rfl) ev_c oLe_ii oLe_ii, decide_eq_true (by omega), decide_eq_true (by omega)]
  rfl
def SHP : Dtab := [("swap", "pp"), ("carry", "pp"), ("cut", "k"), ("turn", "eb"), ("over", ""), ("face", "p")]
theorem oAll_1 (l : List Bool) (m : Mem) : oAll [.d (.lst (l.map .bl))] m = .ok (.d (.bl (l.all id))) m := by
  have e : boolsD (l.map .bl) = some l := by
    induction l with
    | nil => rfl
    | cons a l ih => simp [boolsD, ih]
  unfold oAll lstOf
  dsimp only
  rw [e]
theorem so_swap : PyData.strOk "swap" = true := by decide +kernel
theorem so_carry : PyData.strOk "carry" = true := by decide +kernel
theorem so_cut : PyData.strOk "cut" = true := by decide +kernel
theorem so_turn : PyData.strOk "turn" = true := by decide +kernel
theorem so_over : PyData.strOk "over" = true := by decide +kernel
theorem so_face : PyData.strOk "face" = true := by decide +kernel
theorem so_end (t : Bool) : PyData.strOk (endS t) = true := by cases t <;> decide +kernel
theorem Mv.eqP (mv : Mv) : GD.eqP 5 mv.D = true := by
  cases mv <;> simp [Mv.D, eD, GD.eqP, so_swap, so_carry, so_cut, so_turn, so_over, so_face, so_end]
theorem Mv.cons (mv : Mv) : ∃ y ys, mv.D = .tup (y :: ys) := by cases mv <;> exact ⟨_, _, rfl⟩
/-- the items of a move, all good -/
theorem move_ok {ps : List (D × D)} {m : Mem} (mv : Mv) (hz : ∀ ρ : Env, ρ[0]? = some (some (.d mv.D)) → iZipA (fCons (fOp (oIxT "SHAPES" SHP) (fC (.gl "SHAPES")) (fOp oIx (fVar 0) (fC (.int 0)))) (fCons (fSl false (fVar 0) (pSome (fC (.int 1))) pNone) fNil)) ρ m = .ok (ps.map fun p => W.d (.tup [p.1, p.2])) m)
    (hl : ps.length ≤ 2) (hi : ∀ p ∈ ps, m_is_item [.d p.1, .d p.2] m = .ok (.d (.bl true)) m) (ht : gOr (gBool (fOp (oInT true "SHAPES" SHP) (fOp oIx (fVar 0) (fC (.int 0))) (fC (.gl "SHAPES")))) (gBool (fOp oNe (fCB oLen (fCons (fVar 0) fNil)) (fOp oAdd (fCB oLen (fCons (fOp (oIxT "SHAPES" SHP) (fC (.gl "SHAPES")) (fOp oIx (fVar 0) (fC (.int 0)))) fNil)) (fC (.int 1))))) [some (.d mv.D), none, none] m = .ok false m) : m_is_move [.d mv.D] m = .ok (.d (.bl true)) m := by
  refine fn_m rfl ?_
  show b_is_move [some (.d mv.D), none, none] m = _
  unfold b_is_move
  have h0 : gBool (fOp oEq (fVar 0) (fTup fNil)) [some (.d mv.D), none, none] m = .ok false m := by
    refine et_bool (ev_op (ev_var rfl) (ev_tup ev_nil rfl (by decide)) ?_)
    rw [oEq_P (n := 5) mv.eqP rfl (by decide)]
    obtain ⟨y, ys, e⟩ := mv.cons
    rw [e, eqvW_tcn]
  refine es_seq (es_ifF (et_orF h0 ht) es_next) (es_ret (ev_cb (ev_cons (lc_eq (hz _ rfl) (lcs_pure (fun _ => true) (fun _ => .bl true) (fun w hw => ?_) [] (by rw [List.length_map]; show 0 + _ ≤ _; omega))) ev_nil) ?_))
  · obtain ⟨p, hp, rfl⟩ := List.mem_map.mp hw
    exact ⟨_, rfl, rfl, fun _ => ev_call (ev_cons (ev_var rfl) (ev_cons (ev_var rfl) ev_nil)) (hi p hp)⟩
  · have e : ((List.filter (fun _ => true) (ps.map fun p => W.d (.tup [p.1, p.2]))).map fun _ => D.bl true) = (ps.map fun _ => true).map .bl := by
      rw [List.filter_eq_self.mpr fun _ _ => rfl, List.map_map, List.map_map]
      rfl
    rw [List.nil_append, e, oAll_1]
    congr 3
    rw [List.all_map, List.all_eq_true]
    intro p _
    rfl
theorem is_move_eq (mv : Mv) (m : Mem) (h : mv.ok) : m_is_move [.d mv.D] m = .ok (.d (.bl true)) m := by
  cases mv with
  | swap t1 d1 t2 d2 =>
    refine move_ok (ps := [(.str "p", eD t1 d1), (.str "p", eD t2 d2)]) _ (fun ρ hρ => ?_) (by simp) (fun p hp => ?_) rfl
    · unfold iZipA
      rw [ev_cons (ev_op ev_c (ev_op (ev_var hρ) ev_c (ixt_ok rfl)) rfl) (ev_cons (w := .d (.tup [eD t1 d1, eD t2 d2])) (by unfold fSl; rw [ev_var hρ, R.bind_ok]; rfl) ev_nil)]
      rfl
    · simp only [List.mem_cons, List.not_mem_nil, or_false] at hp
      rcases hp with rfl | rfl
      · exact item_p t1 d1 m h.1
      · exact item_p t2 d2 m h.2
  | carry t1 d1 t2 d2 =>
    refine move_ok (ps := [(.str "p", eD t1 d1), (.str "p", eD t2 d2)]) _ (fun ρ hρ => ?_) (by simp) (fun p hp => ?_) rfl
    · unfold iZipA
      rw [ev_cons (ev_op ev_c (ev_op (ev_var hρ) ev_c (ixt_ok rfl)) rfl) (ev_cons (w := .d (.tup [eD t1 d1, eD t2 d2])) (by unfold fSl; rw [ev_var hρ, R.bind_ok]; rfl) ev_nil)]
      rfl
    · simp only [List.mem_cons, List.not_mem_nil, or_false] at hp
      rcases hp with rfl | rfl
      · exact item_p t1 d1 m h.1
      · exact item_p t2 d2 m h.2
  | cut k =>
    refine move_ok (ps := [(.str "k", .int k)]) _ (fun ρ hρ => ?_) (by simp) (fun p hp => ?_) rfl
    · unfold iZipA
      rw [ev_cons (ev_op ev_c (ev_op (ev_var hρ) ev_c (ixt_ok rfl)) rfl) (ev_cons (w := .d (.tup [.int k])) (by unfold fSl; rw [ev_var hρ, R.bind_ok]; rfl) ev_nil)]
      rfl
    · simp only [List.mem_cons, List.not_mem_nil, or_false] at hp
      subst hp
      exact item_k k m h
  | turn t n =>
    refine move_ok (ps := [(.str "e", .str (endS t)), (.str "b", .int n)]) _ (fun ρ hρ => ?_) (by simp) (fun p hp => ?_) rfl
    · unfold iZipA
      rw [ev_cons (ev_op ev_c (ev_op (ev_var hρ) ev_c (ixt_ok rfl)) rfl) (ev_cons (w := .d (.tup [.str (endS t), .int n])) (by unfold fSl; rw [ev_var hρ, R.bind_ok]; rfl) ev_nil)]
      rfl
    · simp only [List.mem_cons, List.not_mem_nil, or_false] at hp
      rcases hp with rfl | rfl
      · exact item_e t m
      · exact item_b n m h
  | over =>
    refine move_ok (ps := []) _ (fun ρ hρ => ?_) (by simp) (fun p hp => by cases hp) rfl
    · unfold iZipA
      rw [ev_cons (ev_op ev_c (ev_op (ev_var hρ) ev_c (ixt_ok rfl)) rfl) (ev_cons (w := .d (.tup [])) (by unfold fSl; rw [ev_var hρ, R.bind_ok]; rfl) ev_nil)]
      rfl
  | face t d =>
    refine move_ok (ps := [(.str "p", eD t d)]) _ (fun ρ hρ => ?_) (by simp) (fun p hp => ?_) rfl
    · unfold iZipA
      rw [ev_cons (ev_op ev_c (ev_op (ev_var hρ) ev_c (ixt_ok rfl)) rfl) (ev_cons (w := .d (.tup [eD t d])) (by unfold fSl; rw [ev_var hρ, R.bind_ok]; rfl) ev_nil)]
      rfl
    · simp only [List.mem_cons, List.not_mem_nil, or_false] at hp
      subst hp
      exact item_p t d m h
theorem max_eq (a b : Nat) : (if (b : Int) > (a : Int) then (b : Int) else (a : Int)) = ((max a b : Nat) : Int) := by
  split <;> omega
theorem depth_of_eq (mv : Mv) (m : Mem) : m_depth_of [.d mv.D] m = .ok (.d (.int (mv.reach : Int))) m := by
  refine fn_m rfl ?_
  show b_depth_of [some (.d mv.D)] m = _
  cases mv with
  | swap t1 d1 t2 d2 =>
    have e : b_depth_of [some (.d (Mv.swap t1 d1 t2 d2).D)] m = .rt (.d (.int ((if (d2 : Int) > (d1 : Int) then (d2 : Int) else (d1 : Int)) + 1))) m := rfl
    rw [e, max_eq]
    rfl
  | carry t1 d1 t2 d2 =>
    have e : b_depth_of [some (.d (Mv.carry t1 d1 t2 d2).D)] m = .rt (.d (.int ((if (d2 : Int) > (d1 : Int) then (d2 : Int) else (d1 : Int)) + 1))) m := rfl
    rw [e, max_eq]
    rfl
  | cut k =>
    have e : b_depth_of [some (.d (Mv.cut k).D)] m = .rt (.d (.int (if k < 0 then -k else k))) m := rfl
    have e2 : (if k < 0 then -k else k) = (k.natAbs : Int) := by split <;> omega
    rw [e, e2]
    rfl
  | turn t n => rfl
  | over => rfl
  | face t d => rfl
theorem placed_eq (t : Bool) (d n : Int) (m : Mem) : m_placed [.d (.tup [.str (endS t), .int d]), .d (.int n)] m = .ok (.d (.int (pl t d n))) m := by
  refine fn_m rfl ?_
  cases t <;> rfl
theorem carried_eq (s g p : Int) (m : Mem) : m_carried [.d (.int s), .d (.int g), .d (.int p)] m = .ok (.d (.int (carr s g p))) m := by
  refine fn_m rfl ?_
  show b_carried [some (.d (.int s)), some (.d (.int g)), some (.d (.int p))] m = _
  unfold b_carried carr
  by_cases h1 : p = s
  · rw [if_pos h1]
    exact es_seqR (es_ifT (et_bool (ev_op (ev_var rfl) (ev_var rfl) (by rw [oEq_ii, decide_eq_true h1]))) (es_ret (ev_var rfl)))
  · rw [if_neg h1]
    refine es_seq (es_ifF (et_bool (ev_op (ev_var rfl) (ev_var rfl) (by rw [oEq_ii, decide_eq_false h1]))) es_next) ?_
    have c1 : gBool (fChain oLt oLe (fVar 0) (fVar 2) (fVar 1)) [some (.d (.int s)), some (.d (.int g)), some (.d (.int p))] m = .ok (decide (s < p) && decide (p ≤ g)) m := et_bool (ev_ch (ev_var rfl) (ev_var rfl) (ev_var rfl) oLt_ii oLe_ii)
    have c2 : gBool (fChain oLe oLt (fVar 1) (fVar 2) (fVar 0)) [some (.d (.int s)), some (.d (.int g)), some (.d (.int p))] m = .ok (decide (g ≤ p) && decide (p < s)) m := et_bool (ev_ch (ev_var rfl) (ev_var rfl) (ev_var rfl) oLe_ii oLt_ii)
    by_cases h2 : s < p ∧ p ≤ g
    · rw [if_pos h2]
      exact es_seqR (es_ifT (by rw [c1, decide_eq_true h2.1, decide_eq_true h2.2]; rfl) (es_ret (ev_op (ev_var rfl) ev_c oSub_ii)))
    · rw [if_neg h2]
      have e1 : (decide (s < p) && decide (p ≤ g)) = false := by
        rw [← Bool.decide_and]; exact decide_eq_false h2
      rw [e1] at c1
      refine es_seq (es_ifF c1 es_next) ?_
      by_cases h3 : g ≤ p ∧ p < s
      · rw [if_pos h3]
        exact es_ret (ev_ifT (by rw [c2, decide_eq_true h3.1, decide_eq_true h3.2]; rfl) (ev_op (ev_var rfl) ev_c oAdd_ii))
      · rw [if_neg h3]
        have e2 : (decide (g ≤ p) && decide (p < s)) = false := by
          rw [← Bool.decide_and]; exact decide_eq_false h3
        rw [e2] at c2
        exact es_ret (ev_ifF c2 (ev_var rfl))
theorem es_match {e : Ev} {cs : List (List Str × Ex)} {x : Str} {f : Ex} {ρ : Env} {m m1 : Mem} {q : RS} (h : e ρ m = .ok (.d (.str x)) m1) (hp : pickX x cs = f) (h2 : f ρ m1 = q) : sMatch e cs ρ m = q := by
  unfold sMatch
  rw [h, R.lift_ok]
  dsimp only
  rw [hp]
  exact h2
theorem oIn_ints (neg : Bool) (p a b : Int) (m : Mem) : oIn neg (.d (.int p)) (.d (.lst [.int a, .int b])) m = .ok (.d (.bl (if neg then !((a == p) || ((b == p) || false)) else ((a == p) || ((b == p) || false))))) m := by
  cases neg <;> rfl
def b_mturn : Ex := (sSeq (sAsg (fSl false (fVar 0) (pSome (fC (.int 1))) pNone) (tgUn 2 (tgCons (tgName 4) (tgCons (tgName 5) tgNil))))
    (sSeq (sAsg (fIf (gBool (fOp oEq (fVar 4) (fC (.str "top")))) (fVar 2) (fOp oSub (fOp oSub (fVar 1) (fC (.int 1))) (fVar 2))) (tgName 6))
    (sRet (fIf (gBool (fOp oLt (fVar 6) (fVar 5))) (fTup (fCons (fCall m_placed (fCons (fTup (fCons (fVar 4) (fCons (fOp oSub (fOp oSub (fVar 5) (fC (.int 1))) (fVar 6)) fNil))) (fCons (fVar 1) fNil))) (fCons (fC (.bl true)) fNil))) (fTup (fCons (fVar 2) (fCons (fC (.bl false)) fNil)))))))
theorem moved_eq (mv : Mv) (n p : Int) (m : Mem) (h0 : 0 < n) : m_moved [.d mv.D, .d (.int n), .d (.int p)] m = .ok (.d (gD (mv.img n p))) m := by
  refine fn_m rfl ?_
  show b_moved [some (.d mv.D), some (.d (.int n)), some (.d (.int p)), none, none, none, none] m = _
  have dep : ∀ (ρ : Env), ρ[0]? = some (some (.d mv.D)) → ρ[1]? = some (some (.d (.int n))) → gBool (fOp oGt (fCall m_depth_of (fCons (fVar 0) fNil)) (fVar 1)) ρ m = .ok (decide (n < (mv.reach : Int))) m := fun ρ a b => et_bool (ev_op (ev_call (ev_cons (ev_var a) ev_nil) (depth_of_eq mv m)) (ev_var b) oGt_ii)
  unfold b_moved Mv.img
  by_cases hr : n < (mv.reach : Int)
  · rw [if_pos hr]
    refine es_seqR (es_ifT (by rw [dep _ rfl rfl, decide_eq_true hr]) (es_ret (ev_tup (ev_cons (ev_var rfl) (ev_cons ev_c ev_nil)) rfl (show 2 ≤ 100000 by decide))))
  rw [if_neg hr]
  refine es_seq (ρ1 := [some (.d mv.D), some (.d (.int n)), some (.d (.int p)), none, none, none, none]) (m1 := m) (es_ifF (by rw [dep _ rfl rfl, decide_eq_false hr]) es_next) ?_
  have ret2 : ∀ {a c : Ev} {ρ : Env} {x y : D}, a ρ m = .ok (.d x) m → c ρ m = .ok (.d y) m → fTup (fCons a (fCons c fNil)) ρ m = .ok (.d (.tup [x, y])) m := fun h1 h2 => ev_tup (ev_cons h1 (ev_cons h2 ev_nil)) rfl (show 2 ≤ 100000 by decide)
  cases mv with
  | swap t1 d1 t2 d2 =>
    refine es_seqR (es_match (x := "swap") (ev_op (ev_var rfl) ev_c (ixt_ok rfl)) rfl ?_)
    obtain ⟨a, ea⟩ : ∃ a, a = pl t1 d1 n := ⟨_, rfl⟩
    obtain ⟨b, eb⟩ : ∃ b, b = pl t2 d2 n := ⟨_, rfl⟩
    refine es_seq (ρ1 := [some (.d (Mv.swap t1 d1 t2 d2).D), some (.d (.int n)), some (.d (.int p)), some (.d (.lst [.int a, .int b])), none, none, none]) (m1 := m) (es_set (ev_lst (ws := [.d (.int a), .d (.int b)]) (ev_cons (ev_call (ev_cons (ev_op (ev_var rfl) ev_c (ixt_ok (x := eD t1 d1) rfl)) (ev_cons (ev_var rfl) ev_nil)) (by rw [ea]; exact placed_eq t1 d1 n m)) (ev_cons (ev_call (ev_cons (ev_op (ev_var rfl) ev_c (ixt_ok (x := eD t2 d2) rfl)) (ev_cons (ev_var rfl) ev_nil)) (by rw [eb]; exact placed_eq t2 d2 n m)) ev_nil)) rfl (show 2 ≤ 100000 by decide))) ?_
    refine es_ret ?_
    have hin : gBool (fOp (oIn false) (fVar 2) (fVar 3)) [some (.d (Mv.swap t1 d1 t2 d2).D), some (.d (.int n)), some (.d (.int p)), some (.d (.lst [.int a, .int b])), none, none, none] m = .ok ((a == p) || ((b == p) || false)) m := et_bool (ev_op (ev_var rfl) (ev_var rfl) (oIn_ints false p a b m))
    show _ = R.ok (W.d (gD (if p = pl t1 d1 n then (pl t2 d2 n, false) else if p = pl t2 d2 n then (pl t1 d1 n, false) else (p, false)))) m
    rw [← ea, ← eb]
    have hix : oIndex (.d (.lst [.int a, .int b])) [.d (.int p)] m = match (if (a == p) = true then some 0 else if (b == p) = true then some 1 else none : Option Nat) with
        | some j => .ok (.d (.int (j : Nat))) m
        | none => .bad := by
      cases h1 : a == p <;> cases h2 : b == p <;> simp [oIndex, lstOf, datOf, D.py, D.pyL, SeqAt.shaped, PyData.canLay0, PyData.canLayAll0, PyData.depth, PyData.depthAll, PyData.eqv, List.findIdx?_cons, h1, h2]
    by_cases h1 : p = a
    · rw [if_pos h1]
      have e1 : (a == p) = true := by rw [h1]; exact beq_self_eq_true a
      rw [e1] at hin hix
      refine ev_ifT hin (ret2 (ev_op (ev_var rfl) (ev_op ev_c (ev_bm (ev_var rfl) rfl (ev_cons (ev_var rfl) ev_nil) hix) oSub_ii) (ixl_ok rfl)) ev_c)
    · have e1 : (a == p) = false := by simpa using fun q => h1 q.symm
      rw [if_neg h1]
      rw [e1] at hin hix
      by_cases h2 : p = b
      · rw [if_pos h2]
        have e2 : (b == p) = true := by rw [h2]; exact beq_self_eq_true b
        rw [e2] at hin hix
        refine ev_ifT hin (ret2 (ev_op (ev_var rfl) (ev_op ev_c (ev_bm (ev_var rfl) rfl (ev_cons (ev_var rfl) ev_nil) hix) oSub_ii) (ixl_ok rfl)) ev_c)
      · rw [if_neg h2]
        have e2 : (b == p) = false := by simpa using fun q => h2 q.symm
        rw [e2] at hin
        exact ev_ifF hin (ret2 (ev_var rfl) ev_c)
  | carry t1 d1 t2 d2 =>
    refine es_seqR (es_match (x := "carry") (ev_op (ev_var rfl) ev_c (ixt_ok rfl)) rfl ?_)
    exact es_ret (ret2 (ev_call (ev_cons (ev_call (ev_cons (ev_op (ev_var rfl) ev_c (ixt_ok (x := eD t1 d1) rfl)) (ev_cons (ev_var rfl) ev_nil)) (placed_eq t1 d1 n m)) (ev_cons (ev_call (ev_cons (ev_op (ev_var rfl) ev_c (ixt_ok (x := eD t2 d2) rfl)) (ev_cons (ev_var rfl) ev_nil)) (placed_eq t2 d2 n m)) (ev_cons (ev_var rfl) ev_nil))) (carried_eq _ _ _ m)) ev_c)
  | cut k =>
    refine es_seqR (es_match (x := "cut") (ev_op (ev_var rfl) ev_c (ixt_ok rfl)) rfl ?_)
    exact es_ret (ret2 (ev_op (ev_op (ev_var rfl) (ev_op (ev_var rfl) ev_c (ixt_ok rfl)) oSub_ii) (ev_var rfl) (mod_ok h0)) ev_c)
  | turn t k =>
    refine es_seqR (es_match (x := "turn") (f := b_mturn) (ev_op (ev_var rfl) ev_c (ixt_ok rfl)) rfl ?_)
    unfold b_mturn
    refine es_seq (ρ1 := [some (.d (Mv.turn t k).D), some (.d (.int n)), some (.d (.int p)), none, some (.d (.str (endS t))), some (.d (.int k)), none]) (m1 := m) (es_asg (w := .d (.tup [.str (endS t), .int k])) (m1 := m) rfl rfl) ?_
    refine es_seq (ρ1 := [some (.d (Mv.turn t k).D), some (.d (.int n)), some (.d (.int p)), none, some (.d (.str (endS t))), some (.d (.int k)), some (.d (.int (pl t p n)))]) (m1 := m) (es_set (by cases t <;> rfl)) ?_
    refine es_ret ?_
    have hlt : gBool (fOp oLt (fVar 6) (fVar 5)) [some (.d (Mv.turn t k).D), some (.d (.int n)), some (.d (.int p)), none, some (.d (.str (endS t))), some (.d (.int k)), some (.d (.int (pl t p n)))] m = .ok (decide (pl t p n < (k : Int))) m := et_bool (ev_op (ev_var rfl) (ev_var rfl) oLt_ii)
    show _ = R.ok (W.d (gD (if pl t p n < (k : Int) then (pl t ((k : Int) - 1 - pl t p n) n, true) else (p, false)))) m
    by_cases h1 : pl t p n < (k : Int)
    · rw [if_pos h1]
      rw [decide_eq_true h1] at hlt
      exact ev_ifT hlt (ret2 (ev_call (ev_cons (ret2 (ev_var rfl) (ev_op (ev_op (ev_var rfl) ev_c oSub_ii) (ev_var rfl) oSub_ii)) (ev_cons (ev_var rfl) ev_nil)) (placed_eq t _ n m)) ev_c)
    · rw [if_neg h1]
      rw [decide_eq_false h1] at hlt
      exact ev_ifF hlt (ret2 (ev_var rfl) ev_c)
  | over =>
    refine es_seq (ρ1 := [some (.d Mv.over.D), some (.d (.int n)), some (.d (.int p)), none, none, none, none]) (m1 := m) (es_match (x := "over") (ev_op (ev_var rfl) ev_c (ixt_ok rfl)) rfl es_next) ?_
    exact es_ret (ret2 (ev_op (ev_op (ev_var rfl) ev_c oSub_ii) (ev_var rfl) oSub_ii) ev_c)
  | face t d =>
    refine es_seqR (es_match (x := "face") (ev_op (ev_var rfl) ev_c (ixt_ok rfl)) rfl ?_)
    exact es_ret (ret2 (ev_var rfl) (ev_op (ev_var rfl) (ev_call (ev_cons (ev_op (ev_var rfl) ev_c (ixt_ok (x := eD t d) rfl)) (ev_cons (ev_var rfl) ev_nil)) (placed_eq t d n m)) oEq_ii))
/-! ### the law's words -/
theorem of_eqS (b : Bag) (rest : Mem) (xs : List D) (x : D) (h0 : 0 < xs.length) (hl : xs.length ≤ 100000) (hx : xs[b.val xs.length]? = some x) : m__law_of [.m 0, .d (.lst xs)] (b.mo :: rest) = .ok (.d x) ((b.nxt xs.length).mo :: rest) := by
  have h : b__law_of [some (.m 0), some (.d (.lst xs))] (b.mo :: rest) = .rt (.d x) ((b.nxt xs.length).mo :: rest) := by
    unfold b__law_of
    refine es_ret (ev_op (ev_var rfl) (ev_call (ev_cons (ev_var rfl) (ev_cons (ev_cb (ev_cons (ev_var rfl) ev_nil) oLen_l) ev_nil)) (pull_eq b rest xs.length h0 (Nat.lt_of_le_of_lt hl (by decide)))) (ixl_ok ?_))
    rw [atI_nat]
    exact hx
  have z := fn_ret (mu := false) (np := 2) (N := 2) (ws := [.m 0, .d (.lst xs)]) rfl h
  show fnOf false 2 2 b__law_of _ _ = _
  rw [z, leave_d]
  show R.ok _ (List.take (rest.length + 1) _) = _
  rw [List.take_succ_cons, List.take_length]
/-- a move that the law draws -/
def Mv.bnd (k : Nat) : Mv → Prop
  | .swap _ d1 _ d2 => d1 ≤ k ∧ d2 ≤ k
  | .carry _ d1 _ d2 => d1 ≤ k ∧ d2 ≤ k
  | .cut c => c.natAbs ≤ k + 1
  | .turn _ n => n ≤ k + 1
  | .over => True
  | .face _ d => d ≤ k
theorem Mv.bnd_ok {mv : Mv} {k : Nat} (h : mv.bnd k) (hk : k ≤ 399) : mv.ok := by
  cases mv with
  | swap t1 d1 t2 d2 => exact ⟨Nat.le_trans h.1 hk, Nat.le_trans h.2 hk⟩
  | carry t1 d1 t2 d2 => exact ⟨Nat.le_trans h.1 hk, Nat.le_trans h.2 hk⟩
  | cut c => exact Nat.le_trans h (by omega)
  | turn t n => exact Nat.le_trans h (by omega)
  | over => trivial
  | face t d => exact Nat.le_trans h hk
theorem Mv.bnd_reach {mv : Mv} {k : Nat} (h : mv.bnd k) : mv.reach ≤ k + 1 := by
  cases mv with
  | swap t1 d1 t2 d2 => have := h.1; have := h.2; show max d1 d2 + 1 ≤ _; omega
  | carry t1 d1 t2 d2 => have := h.1; have := h.2; show max d1 d2 + 1 ≤ _; omega
  | cut c => exact h
  | turn t n => exact h
  | over => exact Nat.zero_le _
  | face t d => have : d ≤ k := h; show d + 1 ≤ _; omega
end GD
namespace GD
open PySem PySem.Spec PyProof.Rows L2
/-! ### loops and comprehensions, by lists of anything -/
theorem lc_map {α : Type} {it : EvL} {g : Tg} {a : Ev} {vs : List Nat} {ρ : Env} {m m0 : Mem} {l : List α} (e : α → W) (f : α → D) (hi : it ρ m0 = .ok (l.map e) m) (h : ∀ x ∈ l, ∃ ρ1, g (e x) (wipeE ρ vs) m = .ok ρ1 m ∧ a ρ1 m = .ok (.d (f x)) m) (hl : l.length ≤ 100000) :
    fLc it g gYes a vs ρ m0 = .ok (.d (.lst (l.map f))) m := by
  have key : ∀ (l : List α) (acc : List D), (∀ x ∈ l, ∃ ρ1, g (e x) (wipeE ρ vs) m = .ok ρ1 m ∧ a ρ1 m = .ok (.d (f x)) m) → acc.length + l.length ≤ 100000 → lcs g gYes a (wipeE ρ vs) (l.map e) acc m = .ok (acc ++ l.map f) m := by
    intro l
    induction l with
    | nil => intro acc _ _; simp [lcs]
    | cons x l ih =>
      intro acc h hl
      obtain ⟨ρ1, h1, h2⟩ := h x (List.mem_cons_self ..)
      have hl' : acc.length < 100000 := by simp at hl; omega
      simp only [List.map_cons, lcs, h1, R.bind_ok, gYes, if_true, h2, if_pos hl']
      rw [ih (acc ++ [f x]) (fun y hy => h y (List.mem_cons_of_mem _ hy)) (by simp at hl ⊢; omega)]
      simp
  unfold fLc
  rw [hi, R.bind_ok, key l [] h (by simpa using hl)]
  simp
/-! ### words -/
def wD (mvs : List Mv) : D := .obj "Word" ["steps"] [.tup (mvs.map Mv.D)]
def reaches (mvs : List Mv) : Nat := (mvs.map Mv.reach).sum
/-- a word -/
structure Wok (mvs : List Mv) : Prop where
  ok : ∀ mv ∈ mvs, mv.ok
  len : mvs.length ≤ 40
  rch : reaches mvs ≤ 60
def sentF (n : Int) (mvs : List Mv) (r : Int × Bool) : Int × Bool := mvs.foldl (fun r mv => ((mv.img n r.1).1, !decide (r.2 = (mv.img n r.1).2))) r
@[simp] theorem fld_w (mvs : List Mv) (m : Mem) : oFld ["Word"] "steps" (.d (wD mvs)) m = .ok (.d (.tup (mvs.map Mv.D))) m := Eq.trans rfl rfl
@[simp] theorem ins_w (mvs : List Mv) (m : Mem) : insOf (.d (wD mvs)) m = some (("Word" : Str), [("steps" : Str)], [D.tup (mvs.map Mv.D)]) := Eq.trans rfl rfl
@[simp] theorem look_w {α : Type} (a : α) : List.lookup ("Word" : Str) [("Word", a)] = some a := Eq.trans rfl rfl
theorem Wok.nil : Wok [] := ⟨fun _ h => by simp at h, by simp, by simp [reaches]⟩
theorem rngL_map (n : Nat) : rngL 0 (n : Int) = (List.range n).map fun k : Nat => W.d (.int (k : Int)) := by
  unfold rngL
  simp
theorem rng_eq {la : EvL} {ρ : Env} {m m1 : Mem} (n : Nat) (hn : n < 2 ^ 60) (h : la ρ m = .ok [.d (.int (n : Int))] m1) : iRange1 la ρ m = .ok ((List.range n).map fun k : Nat => W.d (.int (k : Int))) m1 := by
  unfold iRange1
  rw [h, R.bind_ok]
  dsimp only
  rw [if_pos (by omega), rngL_map]
/-! ### a word made -/
end GD
/-! LD: where a card comes from. -/
namespace GD
open PySem PySem.Spec PyProof.Rows L2
def Mv.back (mv : Mv) (n q : Int) : Int × Bool := match mv with
  | .swap t1 d1 t2 d2 => if q = pl t2 d2 n then (pl t1 d1 n, false) else if q = pl t1 d1 n then (pl t2 d2 n, false) else (q, false)
  | .carry t1 d1 t2 d2 => (carr (pl t2 d2 n) (pl t1 d1 n) q, false)
  | .cut k => ((q + k) % n, false)
  | .turn t m => if pl t q n < m then (pl t (m - 1 - pl t q n) n, true) else (q, false)
  | .face t d => (q, decide (q = pl t d n))
  | .over => (n - 1 - q, true)
/-- the place from which the card at q comes, and whether it was turned -/
def Mv.inv (mv : Mv) (n q : Int) : Int × Bool := if n < (mv.reach : Int) then (q, false) else mv.back n q
theorem pl_rng {t : Bool} {d n : Int} (h0 : 0 ≤ d) (h1 : d < n) : 0 ≤ pl t d n ∧ pl t d n < n := by
  unfold pl
  cases t with
  | true => rw [if_pos rfl]; omega
  | false => rw [if_neg (by decide)]; omega
theorem pl_pl {t : Bool} {d n : Int} : pl t (pl t d n) n = d := by
  unfold pl
  cases t with
  | true => rw [if_pos rfl, if_pos rfl]
  | false => rw [if_neg (by decide), if_neg (by decide)]; omega
theorem carr_rng {s g p n : Int} (hs : 0 ≤ s ∧ s < n) (hg : 0 ≤ g ∧ g < n) (hp : 0 ≤ p ∧ p < n) : 0 ≤ carr s g p ∧ carr s g p < n := by
  unfold carr
  split
  · exact hg
  · split
    · omega
    · split <;> omega
theorem carr_carr {s g p : Int} : carr s g (carr g s p) = p := by
  unfold carr
  by_cases h1 : p = g
  · rw [if_pos h1, if_pos rfl, h1]
  · rw [if_neg h1]
    by_cases h2 : g < p ∧ p ≤ s
    · rw [if_pos h2]
      by_cases h3 : p - 1 = s
      · omega
      · rw [if_neg h3, if_neg (by omega), if_pos (by omega)]
        omega
    · rw [if_neg h2]
      by_cases h3 : s ≤ p ∧ p < g
      · rw [if_pos h3, if_neg (by omega), if_pos (by omega)]
        omega
      · rw [if_neg h3, if_neg (by omega), if_neg (by omega), if_neg (by omega)]
theorem mod_back {q k n : Int} (h0 : 0 ≤ q) (h1 : q < n) : ((q + k) % n - k) % n = q := by
  rw [Int.emod_sub_emod, Int.add_sub_cancel, Int.emod_eq_of_lt h0 h1]
theorem mod_forth {p k n : Int} (h0 : 0 ≤ p) (h1 : p < n) : ((p - k) % n + k) % n = p := by
  rw [Int.emod_add_emod, Int.sub_add_cancel, Int.emod_eq_of_lt h0 h1]
/-- the card at q came from there -/
theorem Mv.inv_ok (mv : Mv) {n q : Int} (h0 : 0 ≤ q) (h1 : q < n) : (0 ≤ (mv.inv n q).1 ∧ (mv.inv n q).1 < n) ∧ mv.img n (mv.inv n q).1 = (q, (mv.inv n q).2) := by
  unfold Mv.inv Mv.img
  by_cases hr : n < (mv.reach : Int)
  · rw [if_pos hr, if_pos hr]
    exact ⟨⟨h0, h1⟩, rfl⟩
  rw [if_neg hr, if_neg hr]
  generalize hb : mv.back n q = r
  cases mv with
  | swap t1 d1 t2 d2 =>
    have hm : ((max d1 d2 + 1 : Nat) : Int) ≤ n := by have : ¬ n < ((max d1 d2 + 1 : Nat) : Int) := hr; omega
    have r1 := pl_rng (t := t1) (d := d1) (n := n) (by omega) (by omega)
    have r2 := pl_rng (t := t2) (d := d2) (n := n) (by omega) (by omega)
    unfold Mv.back at hb
    unfold Mv.go
    dsimp only at hb ⊢
    by_cases e2 : q = pl t2 d2 n
    · rw [if_pos e2] at hb
      subst hb
      dsimp only
      rw [if_pos rfl, e2]
      exact ⟨r1, rfl⟩
    · rw [if_neg e2] at hb
      by_cases e1 : q = pl t1 d1 n
      · rw [if_pos e1] at hb
        subst hb
        dsimp only
        refine ⟨r2, ?_⟩
        by_cases e3 : pl t2 d2 n = pl t1 d1 n
        · exact absurd (e1.trans e3.symm) e2
        · rw [if_neg e3, if_pos rfl, e1]
      · rw [if_neg e1] at hb
        subst hb
        dsimp only
        rw [if_neg e1, if_neg e2]
        exact ⟨⟨h0, h1⟩, rfl⟩
  | carry t1 d1 t2 d2 =>
    have hm : ((max d1 d2 + 1 : Nat) : Int) ≤ n := by have : ¬ n < ((max d1 d2 + 1 : Nat) : Int) := hr; omega
    have r1 := pl_rng (t := t1) (d := d1) (n := n) (by omega) (by omega)
    have r2 := pl_rng (t := t2) (d := d2) (n := n) (by omega) (by omega)
    subst hb
    unfold Mv.back Mv.go
    dsimp only
    rw [carr_carr]
    exact ⟨carr_rng r2 r1 ⟨h0, h1⟩, rfl⟩
  | cut k =>
    subst hb
    unfold Mv.back Mv.go
    dsimp only
    rw [mod_back h0 h1]
    exact ⟨⟨Int.emod_nonneg _ (by omega), Int.emod_lt_of_pos _ (by omega)⟩, rfl⟩
  | turn t m =>
    have hm : (m : Int) ≤ n := by have : ¬ n < (m : Int) := hr; omega
    have rq := pl_rng (t := t) h0 h1
    unfold Mv.back at hb
    unfold Mv.go
    dsimp only at hb ⊢
    by_cases h : pl t q n < (m : Int)
    · rw [if_pos h] at hb
      subst hb
      dsimp only
      rw [pl_pl, if_pos (by omega)]
      refine ⟨pl_rng (by omega) (by omega), ?_⟩
      have e : (m : Int) - 1 - ((m : Int) - 1 - pl t q n) = pl t q n := by omega
      rw [e, pl_pl]
    · rw [if_neg h] at hb
      subst hb
      dsimp only
      rw [if_neg h]
      exact ⟨⟨h0, h1⟩, rfl⟩
  | over =>
    subst hb
    unfold Mv.back Mv.go
    dsimp only
    refine ⟨by omega, ?_⟩
    congr 1
    omega
  | face t d =>
    subst hb
    unfold Mv.back Mv.go
    exact ⟨⟨h0, h1⟩, rfl⟩
/-- the card at p goes there, and the card there came from p -/
theorem Mv.img_ok (mv : Mv) {n p : Int} (h0 : 0 ≤ p) (h1 : p < n) : (0 ≤ (mv.img n p).1 ∧ (mv.img n p).1 < n) ∧ mv.inv n (mv.img n p).1 = (p, (mv.img n p).2) := by
  unfold Mv.inv Mv.img
  by_cases hr : n < (mv.reach : Int)
  · rw [if_pos hr, if_pos hr]
    exact ⟨⟨h0, h1⟩, rfl⟩
  rw [if_neg hr, if_neg hr]
  generalize hb : mv.go n p = r
  cases mv with
  | swap t1 d1 t2 d2 =>
    have hm : ((max d1 d2 + 1 : Nat) : Int) ≤ n := by have : ¬ n < ((max d1 d2 + 1 : Nat) : Int) := hr; omega
    have r1 := pl_rng (t := t1) (d := d1) (n := n) (by omega) (by omega)
    have r2 := pl_rng (t := t2) (d := d2) (n := n) (by omega) (by omega)
    unfold Mv.go at hb
    unfold Mv.back
    dsimp only at hb ⊢
    by_cases e2 : p = pl t1 d1 n
    · rw [if_pos e2] at hb
      subst hb
      dsimp only
      rw [if_pos rfl, e2]
      exact ⟨r2, rfl⟩
    · rw [if_neg e2] at hb
      by_cases e1 : p = pl t2 d2 n
      · rw [if_pos e1] at hb
        subst hb
        dsimp only
        refine ⟨r1, ?_⟩
        by_cases e3 : pl t1 d1 n = pl t2 d2 n
        · exact absurd (e1.trans e3.symm) e2
        · rw [if_neg e3, if_pos rfl, e1]
      · rw [if_neg e1] at hb
        subst hb
        dsimp only
        rw [if_neg e1, if_neg e2]
        exact ⟨⟨h0, h1⟩, rfl⟩
  | carry t1 d1 t2 d2 =>
    have hm : ((max d1 d2 + 1 : Nat) : Int) ≤ n := by have : ¬ n < ((max d1 d2 + 1 : Nat) : Int) := hr; omega
    have r1 := pl_rng (t := t1) (d := d1) (n := n) (by omega) (by omega)
    have r2 := pl_rng (t := t2) (d := d2) (n := n) (by omega) (by omega)
    subst hb
    unfold Mv.back Mv.go
    dsimp only
    rw [carr_carr]
    exact ⟨carr_rng r1 r2 ⟨h0, h1⟩, rfl⟩
  | cut k =>
    subst hb
    unfold Mv.back Mv.go
    dsimp only
    rw [mod_forth h0 h1]
    exact ⟨⟨Int.emod_nonneg _ (by omega), Int.emod_lt_of_pos _ (by omega)⟩, rfl⟩
  | turn t m =>
    have hm : (m : Int) ≤ n := by have : ¬ n < (m : Int) := hr; omega
    have rq := pl_rng (t := t) h0 h1
    unfold Mv.go at hb
    unfold Mv.back
    dsimp only at hb ⊢
    by_cases h : pl t p n < (m : Int)
    · rw [if_pos h] at hb
      subst hb
      dsimp only
      rw [pl_pl, if_pos (by omega)]
      refine ⟨pl_rng (by omega) (by omega), ?_⟩
      have e : (m : Int) - 1 - ((m : Int) - 1 - pl t p n) = pl t p n := by omega
      rw [e, pl_pl]
    · rw [if_neg h] at hb
      subst hb
      dsimp only
      rw [if_neg h]
      exact ⟨⟨h0, h1⟩, rfl⟩
  | over =>
    subst hb
    unfold Mv.back Mv.go
    dsimp only
    refine ⟨by omega, ?_⟩
    congr 1
    omega
  | face t d =>
    subst hb
    unfold Mv.back Mv.go
    exact ⟨⟨h0, h1⟩, rfl⟩
end GD
namespace GD
open PySem PySem.Spec PyProof.Rows L2
/-! ### comprehensions that draw -/
/-! ### the words' plays -/
theorem sentF_append (n : Int) (a b : List Mv) (r : Int × Bool) : sentF n (a ++ b) r = sentF n b (sentF n a r) := by simp [sentF, List.foldl_append]
theorem Wok.sub {a b : List Mv} (h : Wok (a ++ b)) : Wok a ∧ Wok b := by
  have h1 := h.len
  have h2 := h.rch
  unfold reaches at h2
  simp at h1 h2
  exact ⟨⟨fun mv hm => h.ok mv (List.mem_append_left _ hm), by omega, by unfold reaches; omega⟩, ⟨fun mv hm => h.ok mv (List.mem_append_right _ hm), by omega, by unfold reaches; omega⟩⟩
/-- few small moves are a word -/
theorem Wok.of {mvs : List Mv} {k d : Nat} (hl : mvs.length ≤ k) (hb : ∀ mv ∈ mvs, mv.bnd d) (hk : k ≤ 40) (hd : d ≤ 399) (hr : k * (d + 1) ≤ 60) : Wok mvs := by
  refine ⟨fun mv hm => Mv.bnd_ok (hb mv hm) hd, by omega, ?_⟩
  have key : ∀ l : List Mv, (∀ mv ∈ l, mv.bnd d) → reaches l ≤ l.length * (d + 1) := by
    intro l
    induction l with
    | nil => intro _; simp [reaches]
    | cons mv l ih =>
      intro h
      have h1 := Mv.bnd_reach (h mv (List.mem_cons_self ..))
      have h2 := ih fun x hx => h x (List.mem_cons_of_mem _ hx)
      unfold reaches at h2 ⊢
      simp [Nat.add_mul] at h2 ⊢
      omega
  have h1 := key mvs hb
  have h2 : mvs.length * (d + 1) ≤ k * (d + 1) := Nat.mul_le_mul_right _ hl
  omega
end GD
/-! LD2: cards of a list, moved. -/
namespace GD
open PySem PySem.Spec PyProof.Rows L2
abbrev Cd := Int × Bool
/-- cs' is cs with the cards moved -/
def Deals (mv : Mv) (cs cs' : List Cd) : Prop := cs'.length = cs.length ∧ ∀ q : Nat, q < cs.length → ∃ c, cs[((mv.inv cs.length q).1).toNat]? = some c ∧ cs'[q]? = some (c.1, xor c.2 (mv.inv cs.length q).2)
def flip (cs : List Cd) : List Cd := cs.reverse.map fun c => (c.1, !c.2)
theorem flip_len (cs : List Cd) : (flip cs).length = cs.length := by unfold flip; simp
theorem flip_get {cs : List Cd} {q : Nat} (h : q < cs.length) : (flip cs)[q]? = (cs[cs.length - 1 - q]?).map fun c => (c.1, !c.2) := by
  unfold flip
  rw [List.getElem?_map, List.getElem?_reverse h]
def Mv.deal (mv : Mv) (cs : List Cd) : List Cd := if (cs.length : Int) < mv.reach then cs else match mv with
  | .over => flip cs
  | .cut k => cs.drop (k % cs.length).toNat ++ cs.take (k % cs.length).toNat
  | .turn true m => flip (cs.take m) ++ cs.drop m
  | .turn false m => cs.take (cs.length - m) ++ flip (cs.drop (cs.length - m))
  | .face t d => cs.modify (pl t d cs.length).toNat fun c => (c.1, !c.2)
  | .swap t1 d1 t2 d2 => match cs[(pl t1 d1 cs.length).toNat]?, cs[(pl t2 d2 cs.length).toNat]? with
    | some a, some b => (cs.set (pl t1 d1 cs.length).toNat b).set (pl t2 d2 cs.length).toNat a
    | _, _ => cs
  | .carry t1 d1 t2 d2 => match cs[(pl t1 d1 cs.length).toNat]? with
    | some a => (cs.eraseIdx (pl t1 d1 cs.length).toNat).take (pl t2 d2 cs.length).toNat ++ [a] ++ (cs.eraseIdx (pl t1 d1 cs.length).toNat).drop (pl t2 d2 cs.length).toNat
    | none => cs
theorem get_some {cs : List Cd} {q : Nat} (h : q < cs.length) : ∃ c, cs[q]? = some c := ⟨cs[q], List.getElem?_eq_getElem h⟩
theorem deal_ok (mv : Mv) (cs : List Cd) : Deals mv cs (mv.deal cs) := by
  unfold Deals Mv.deal
  by_cases hr : (cs.length : Int) < mv.reach
  · rw [if_pos hr]
    refine ⟨rfl, fun q hq => ?_⟩
    obtain ⟨c, hc⟩ := get_some hq
    have e : mv.inv cs.length q = ((q : Int), false) := by unfold Mv.inv; rw [if_pos hr]
    rw [e]
    refine ⟨c, by simpa using hc, ?_⟩
    rw [hc]
    simp
  rw [if_neg hr]
  have ei : ∀ q : Nat, mv.inv cs.length q = mv.back cs.length q := fun q => by unfold Mv.inv; rw [if_neg hr]
  cases mv with
  | over =>
    dsimp only
    refine ⟨flip_len cs, fun q hq => ?_⟩
    obtain ⟨c, hc⟩ := get_some (cs := cs) (q := cs.length - 1 - q) (by omega)
    have e : ((Mv.over.inv cs.length q).1).toNat = cs.length - 1 - q := by rw [ei]; show ((cs.length : Int) - 1 - q).toNat = _; omega
    refine ⟨c, by rw [e]; exact hc, ?_⟩
    rw [flip_get hq, hc, ei]
    show some (c.1, !c.2) = some (c.1, xor c.2 true)
    simp
  | cut k =>
    dsimp only
    obtain ⟨a, ea⟩ : ∃ a, a = (k % cs.length).toNat := ⟨_, rfl⟩
    rw [← ea]
    refine ⟨by simp; omega, fun q hq => ?_⟩
    have hn : (0 : Int) < cs.length := by omega
    have ha0 : 0 ≤ k % (cs.length : Int) := Int.emod_nonneg _ (by omega)
    have ha1 : k % (cs.length : Int) < cs.length := Int.emod_lt_of_pos _ hn
    have ea' : (a : Int) = k % (cs.length : Int) := by omega
    have e1 : (((Mv.cut k).inv cs.length q).1) = ((q : Int) + a) % cs.length := by
      rw [ei, ea']
      show ((q : Int) + k) % cs.length = _
      rw [Int.add_emod_emod]
    have e2 : (((Mv.cut k).inv cs.length q).2) = false := by rw [ei]; rfl
    rw [e1, e2]
    by_cases h : q + a < cs.length
    · have e3 : (((q : Int) + a) % cs.length).toNat = q + a := by rw [Int.emod_eq_of_lt (by omega) (by omega)]; omega
      obtain ⟨c, hc⟩ := get_some h
      refine ⟨c, by rw [e3]; exact hc, ?_⟩
      rw [List.getElem?_append_left (by simp; omega), List.getElem?_drop, Nat.add_comm a q, hc]
      simp
    · have e3 : (((q : Int) + a) % cs.length).toNat = q + a - cs.length := by
        have : ((q : Int) + a) % cs.length = (q : Int) + a - cs.length := by
          rw [← Int.sub_emod_right, Int.emod_eq_of_lt (by omega) (by omega)]
        rw [this]; omega
      obtain ⟨c, hc⟩ := get_some (cs := cs) (q := q + a - cs.length) (by omega)
      refine ⟨c, by rw [e3]; exact hc, ?_⟩
      rw [List.getElem?_append_right (by simp; omega), List.length_drop, List.getElem?_take_of_lt (by omega)]
      have e4 : q - (cs.length - a) = q + a - cs.length := by omega
      rw [e4, hc]
      simp
  | turn t m =>
    have hm : m ≤ cs.length := by have : ¬ (cs.length : Int) < (m : Int) := hr; omega
    cases t with
    | true =>
      dsimp only
      refine ⟨by rw [List.length_append, flip_len]; simp; omega, fun q hq => ?_⟩
      by_cases h : q < m
      · have e : (Mv.turn true m).inv cs.length q = ((m : Int) - 1 - q, true) := by
          rw [ei]; show (if (q : Int) < (m : Int) then ((m : Int) - 1 - q, true) else ((q : Int), false)) = _; rw [if_pos (by omega)]
        rw [e]
        obtain ⟨c, hc⟩ := get_some (cs := cs) (q := m - 1 - q) (by omega)
        refine ⟨c, by dsimp only; rw [show ((m : Int) - 1 - q).toNat = m - 1 - q by omega]; exact hc, ?_⟩
        have lt : (cs.take m).length = m := by simp; omega
        rw [List.getElem?_append_left (by rw [flip_len, lt]; exact h), flip_get (by rw [lt]; exact h), lt, List.getElem?_take_of_lt (by omega), hc]
        simp
      · have e : (Mv.turn true m).inv cs.length q = ((q : Int), false) := by
          rw [ei]; show (if (q : Int) < (m : Int) then ((m : Int) - 1 - q, true) else ((q : Int), false)) = _; rw [if_neg (by omega)]
        rw [e]
        obtain ⟨c, hc⟩ := get_some hq
        refine ⟨c, by simpa using hc, ?_⟩
        have lt : (cs.take m).length = m := by simp; omega
        rw [List.getElem?_append_right (by rw [flip_len, lt]; omega), flip_len, lt, List.getElem?_drop, show m + (q - m) = q by omega, hc]
        simp
    | false =>
      dsimp only
      refine ⟨by rw [List.length_append, flip_len]; simp <;> omega, fun q hq => ?_⟩
      have lt : (cs.take (cs.length - m)).length = cs.length - m := by simp <;> omega
      have ld : (cs.drop (cs.length - m)).length = m := by simp; omega
      by_cases h : q < cs.length - m
      · have e : (Mv.turn false m).inv cs.length q = ((q : Int), false) := by
          rw [ei]; show (if (cs.length : Int) - 1 - q < (m : Int) then _ else ((q : Int), false)) = _; rw [if_neg (by omega)]
        rw [e]
        obtain ⟨c, hc⟩ := get_some hq
        refine ⟨c, by simpa using hc, ?_⟩
        rw [List.getElem?_append_left (by rw [lt]; exact h), List.getElem?_take_of_lt h, hc]
        simp
      · have e : (Mv.turn false m).inv cs.length q = ((cs.length : Int) - 1 - ((m : Int) - 1 - ((cs.length : Int) - 1 - q)), true) := by
          rw [ei]; show (if (cs.length : Int) - 1 - q < (m : Int) then _ else ((q : Int), false)) = _; rw [if_pos (by omega)]; rfl
        rw [e]
        obtain ⟨c, hc⟩ := get_some (cs := cs) (q := 2 * cs.length - m - 1 - q) (by omega)
        refine ⟨c, by dsimp only; rw [show ((cs.length : Int) - 1 - ((m : Int) - 1 - ((cs.length : Int) - 1 - q))).toNat = 2 * cs.length - m - 1 - q by omega]; exact hc, ?_⟩
        rw [List.getElem?_append_right (by rw [lt]; omega), lt, flip_get (by rw [ld]; omega), ld, List.getElem?_drop, show cs.length - m + (m - 1 - (q - (cs.length - m))) = 2 * cs.length - m - 1 - q by omega, hc]
        simp
  | face t d =>
    have hd : (d : Int) < cs.length := by have : ¬ (cs.length : Int) < ((d + 1 : Nat) : Int) := hr; omega
    have rp := pl_rng (t := t) (d := d) (n := cs.length) (by omega) hd
    dsimp only
    obtain ⟨a, ea⟩ : ∃ a, a = (pl t d cs.length).toNat := ⟨_, rfl⟩
    rw [← ea]
    refine ⟨by simp, fun q hq => ?_⟩
    obtain ⟨c, hc⟩ := get_some hq
    have e : (Mv.face t d).inv cs.length q = ((q : Int), decide ((q : Int) = pl t d cs.length)) := by rw [ei]; rfl
    rw [e]
    refine ⟨c, by simpa using hc, ?_⟩
    rw [List.getElem?_modify, hc]
    by_cases h : a = q
    · rw [decide_eq_true (by omega)]
      simp [h]
    · rw [decide_eq_false (by omega)]
      simp [h]
  | swap t1 d1 t2 d2 =>
    have hm : ((max d1 d2 + 1 : Nat) : Int) ≤ cs.length := by have : ¬ (cs.length : Int) < ((max d1 d2 + 1 : Nat) : Int) := hr; omega
    have r1 := pl_rng (t := t1) (d := d1) (n := cs.length) (by omega) (by omega)
    have r2 := pl_rng (t := t2) (d := d2) (n := cs.length) (by omega) (by omega)
    have eb : ∀ q : Nat, (Mv.swap t1 d1 t2 d2).inv cs.length q = if (q : Int) = pl t2 d2 cs.length then (pl t1 d1 cs.length, false) else if (q : Int) = pl t1 d1 cs.length then (pl t2 d2 cs.length, false) else ((q : Int), false) := fun q => by rw [ei]; rfl
    dsimp only
    generalize hx : pl t1 d1 cs.length = x at *
    generalize hy : pl t2 d2 cs.length = y at *
    obtain ⟨a, ha⟩ := get_some (cs := cs) (q := x.toNat) (by omega)
    obtain ⟨b, hb⟩ := get_some (cs := cs) (q := y.toNat) (by omega)
    rw [ha, hb]
    dsimp only
    refine ⟨by simp, fun q hq => ?_⟩
    rw [eb q]
    by_cases h2 : (q : Int) = y
    · rw [if_pos h2]
      refine ⟨a, ha, ?_⟩
      have e : y.toNat = q := by omega
      rw [e, List.getElem?_set_self (by simp; exact hq)]
      simp
    · rw [if_neg h2]
      by_cases h1 : (q : Int) = x
      · rw [if_pos h1]
        refine ⟨b, hb, ?_⟩
        have e : x.toNat = q := by omega
        rw [List.getElem?_set_ne (by omega), e, List.getElem?_set_self hq]
        simp
      · rw [if_neg h1]
        obtain ⟨c, hc⟩ := get_some hq
        refine ⟨c, by simpa using hc, ?_⟩
        rw [List.getElem?_set_ne (by omega), List.getElem?_set_ne (by omega), hc]
        simp
  | carry t1 d1 t2 d2 =>
    have hm : ((max d1 d2 + 1 : Nat) : Int) ≤ cs.length := by have : ¬ (cs.length : Int) < ((max d1 d2 + 1 : Nat) : Int) := hr; omega
    have r1 := pl_rng (t := t1) (d := d1) (n := cs.length) (by omega) (by omega)
    have r2 := pl_rng (t := t2) (d := d2) (n := cs.length) (by omega) (by omega)
    have eb : ∀ q : Nat, (Mv.carry t1 d1 t2 d2).inv cs.length q = (carr (pl t2 d2 cs.length) (pl t1 d1 cs.length) q, false) := fun q => by rw [ei]; rfl
    dsimp only
    generalize hx : pl t1 d1 cs.length = x at *
    generalize hy : pl t2 d2 cs.length = y at *
    obtain ⟨i, rfl⟩ : ∃ i : Nat, x = (i : Int) := ⟨x.toNat, by omega⟩
    obtain ⟨j, rfl⟩ : ∃ j : Nat, y = (j : Int) := ⟨y.toNat, by omega⟩
    simp only [Int.toNat_natCast]
    obtain ⟨a, ha⟩ := get_some (cs := cs) (q := i) (by omega)
    rw [ha]
    dsimp only
    have le : (cs.eraseIdx i).length = cs.length - 1 := by rw [List.length_eraseIdx, if_pos (by omega)]
    have lt : ((cs.eraseIdx i).take j).length = j := by rw [List.length_take, le]; omega
    refine ⟨by rw [List.length_append, List.length_append, lt, List.length_drop, le]; simp; omega, fun q hq => ?_⟩
    rw [eb q]
    dsimp only
    have ge : ∀ k : Nat, (cs.eraseIdx i)[k]? = if k < i then cs[k]? else cs[k + 1]? := fun k => List.getElem?_eraseIdx ..
    have fin : ∀ k : Nat, k < cs.length → carr (j : Int) (i : Int) (q : Int) = (k : Int) → ((cs.eraseIdx i).take j ++ [a] ++ (cs.eraseIdx i).drop j)[q]? = cs[k]? → ∃ c, cs[(carr (j : Int) (i : Int) (q : Int)).toNat]? = some c ∧ ((cs.eraseIdx i).take j ++ [a] ++ (cs.eraseIdx i).drop j)[q]? = some (c.1, xor c.2 false) := fun k hk e1 e2 => by
      obtain ⟨c, hc⟩ := get_some hk
      exact ⟨c, by rw [e1, Int.toNat_natCast]; exact hc, by rw [e2, hc]; simp⟩
    by_cases h1 : q = j
    · refine fin i (by omega) (by unfold carr; rw [if_pos (by omega)]) ?_
      rw [List.append_assoc, List.getElem?_append_right (by rw [lt]; omega), lt, h1, Nat.sub_self, ha]
      rfl
    · by_cases h2 : q < j
      · have el : ((cs.eraseIdx i).take j ++ [a] ++ (cs.eraseIdx i).drop j)[q]? = (cs.eraseIdx i)[q]? := by
          rw [List.append_assoc, List.getElem?_append_left (by rw [lt]; exact h2), List.getElem?_take_of_lt h2]
        by_cases h3 : q < i
        · refine fin q hq (by unfold carr; rw [if_neg (by omega), if_neg (by omega), if_neg (by omega)]) ?_
          rw [el, ge, if_pos h3]
        · refine fin (q + 1) (by omega) (by unfold carr; rw [if_neg (by omega), if_neg (by omega), if_pos (by omega)]; omega) ?_
          rw [el, ge, if_neg h3]
      · have el : ((cs.eraseIdx i).take j ++ [a] ++ (cs.eraseIdx i).drop j)[q]? = (cs.eraseIdx i)[q - 1]? := by
          rw [List.append_assoc, List.getElem?_append_right (by rw [lt]; omega), lt, List.getElem?_append_right (by simp; omega)]
          rw [List.getElem?_drop]
          congr 1
          simp
          omega
        by_cases h3 : q ≤ i
        · refine fin (q - 1) (by omega) (by unfold carr; rw [if_neg (by omega), if_pos (by omega)]; omega) ?_
          rw [el, ge, if_pos (by omega)]
        · refine fin q hq (by unfold carr; rw [if_neg (by omega), if_neg (by omega), if_neg (by omega)]) ?_
          rw [el, ge, if_neg (by omega), show q - 1 + 1 = q by omega]
end GD
/-! LD3: the law's dealing. -/
namespace GD
open PySem PySem.Spec PyProof.Rows L2
theorem cutD_to {xs : List D} {a : Nat} (h : a ≤ xs.length) : cutD xs none (some (a : Int)) = xs.take a := by
  have e1 : HT.sIx xs.length xs.length (some (a : Int)) = a := by
    rw [HT.sIx_nat]
    omega
  have e2 : HT.sIx xs.length 0 none = 0 := rfl
  unfold cutD
  rw [e1, e2, List.drop_zero, Nat.sub_zero]
end GD
/-! LD4: the images by moving all cards. -/
namespace GD
open PySem PySem.Spec PyProof.Rows L2
/-- cs: the pile after a play that sends the place p to f p -/
structure Piled (n : Nat) (f : Nat → Cd) (cs : List Cd) : Prop where
  len : cs.length = n
  rng : ∀ p, p < n → 0 ≤ (f p).1 ∧ (f p).1 < n
  at_ : ∀ p, p < n → cs[((f p).1).toNat]? = some ((p : Int), (f p).2)
  sur : ∀ q, q < n → ∃ p, p < n ∧ (f p).1 = (q : Int)
/-- one move more -/
def goOn (mv : Mv) (n : Nat) (f : Nat → Cd) : Nat → Cd := fun p => ((mv.img n (f p).1).1, xor (f p).2 (mv.img n (f p).1).2)
theorem Piled.go {n : Nat} {f : Nat → Cd} {cs : List Cd} (h : Piled n f cs) (mv : Mv) : Piled n (goOn mv n f) (mv.deal cs) := by
  obtain ⟨d1, d2⟩ := deal_ok mv cs
  rw [h.len] at d1 d2
  refine ⟨d1, fun p hp => ?_, fun p hp => ?_, fun q hq => ?_⟩
  · obtain ⟨r1, r2⟩ := h.rng p hp
    exact (mv.img_ok r1 r2).1
  · obtain ⟨r1, r2⟩ := h.rng p hp
    obtain ⟨⟨i1, i2⟩, i3⟩ := mv.img_ok r1 r2
    show (mv.deal cs)[((mv.img n (f p).1).1).toNat]? = some ((p : Int), xor (f p).2 (mv.img n (f p).1).2)
    obtain ⟨q, eq⟩ : ∃ q : Nat, (mv.img n (f p).1).1 = (q : Int) := ⟨((mv.img n (f p).1).1).toNat, by omega⟩
    rw [eq] at i1 i2 i3 ⊢
    obtain ⟨c, hc, hd⟩ := d2 q (by omega)
    rw [i3] at hc hd
    dsimp only at hc hd
    rw [h.at_ p hp] at hc
    cases hc
    rw [Int.toNat_natCast, hd]
  · obtain ⟨⟨i1, i2⟩, i3⟩ := mv.inv_ok (n := n) (q := q) (by omega) (by omega)
    obtain ⟨p, hp, ep⟩ := h.sur ((mv.inv n q).1).toNat (by omega)
    refine ⟨p, hp, ?_⟩
    show (mv.img n (f p).1).1 = _
    rw [ep, show ((((mv.inv n q).1).toNat : Nat) : Int) = (mv.inv n q).1 by omega, i3]
/-! the mirror -/
end GD
namespace GD
open PySem PySem.Spec PyProof.Rows L2
theorem oNe_refl {n : Nat} {x : D} {m : Mem} (h : eqP n x = true) (hn : n ≤ 64) : oNe (.d x) (.d x) m = .ok (.d (.bl false)) m := by
  rw [oNe_P h h hn, eqvW_refl h]
  rfl
end GD
/-! GT: rules to reckon raises, lambdas, tries. -/
namespace GD
open PySem PySem.Spec PyProof.Rows L2
section
variable {ρ : Env} {m : Mem} {a : Ev} {p q : Ex} {w : W}
@[simp] theorem e_raise {c f : Str} : sRaise c f a ρ m = (a ρ m).lift ρ fun w m => match w with
    | .d x => if fmtB x = true then .xc c [f, "code"] [x, .str c] ρ m else .bad
    | .m _ => .bad := Eq.trans rfl rfl
@[simp] theorem e_lam {k : Nat} {P : Addr} {s : Str} {Z : LamZ} {i : Nat} : fLam k P s Z i ρ m = match m[k]? with
    | some (.tab P' q') => if P' = P ∧ q' = s then .ok (.d (.lam i Z)) m else .bad
    | _ => .bad := Eq.trans rfl rfl
theorem e_try {cs : List Str} {fh : XT → Fn} {Z : LamZ} {tbl : List Ev} {i : Nat} {f : Ev} {m' : Mem} {r : R W} (h : a ρ m = .ok (.d (.lam i Z)) m') (hi : tbl[i]? = some f) (hr : noX (tryR cs fh (f ρ m')) = r) : fTry cs fh Z tbl a ρ m = r := by
  unfold fTry
  rw [h]
  simp only [R.bind_ok, if_true, hi]
  exact hr
theorem e_etry {cs : List Str} {fh : XT → Fn} {Z : LamZ} {tbl : List Ev} {i j : Nat} {f : Ev} {r : R W} (h : ρ[j]? = some (some (.d (.lam i Z)))) (hi : tbl[i]? = some f) (hr : noX (tryR cs fh (f (ρ.set j none) m)) = r) : eTry cs fh Z tbl j ρ m = r := by
  unfold eTry
  rw [h]
  simp only [if_true, hi]
  exact hr
/-- the error is caught: code and field -/
theorem try_exc {cs : List Str} {fh : XT → Fn} {c f : Str} {v : D} {m' : Mem} {r : R W} (h : r = .exc c [f, "code"] [v, .str c] m') (hc : c ∈ cs) (hne : (f == ("code" : Str)) = false) (hf : ∀ x m, fh x [.d (.xin x [f, "code"] [v, .str c])] m = .ok (.d v) m) : noX (tryR cs fh r) = .ok (.d (.tup [.str c, v])) m' := by
  have z : allX (fun x => tryX fh x [f, "code"] [v, .str c] m') = .ok (.d (.tup [.str c, v])) m' := by
    refine allX_eq fun x => ?_
    unfold tryX
    have hl : ((([f, "code"] : List Str).zip [v, .str c]).lookup ("code" : Str)) = some (.str c) := by
      have h1 : (("code" : Str) == f) = false := by
        rw [Bool.eq_false_iff] at hne ⊢
        intro q
        rw [beq_iff_eq] at q
        exact hne (by rw [beq_iff_eq]; exact q.symm)
      simp only [List.zip_cons_cons, List.zip_nil_right, List.lookup, h1, beq_self_eq_true]
    rw [hl]
    simp only [hf, R.bind_ok]
  rw [h]
  unfold tryR
  simp only [if_pos hc, z, noX_ok]
theorem try_ok {cs : List Str} {fh : XT → Fn} {v : D} {m' : Mem} {r : R W} (h : r = .ok (.d v) m') : noX (tryR cs fh r) = .ok (.d (.tup [.str "value", v])) m' := by
  rw [h]
  rfl
theorem e_fnx {mu : Bool} {np N : Nat} {ws : List W} {c : Str} {ns : List Str} {vs : List D} {ρ' : Env} (p : Ex) (h : p (ws.map some ++ List.replicate (N - ws.length) none) m = .xc c ns vs ρ' m) (hl : ws.length = np) : fnOf mu np N p ws m = .exc c ns vs m := by
  unfold fnOf
  rw [if_pos hl, h]
  simp
@[simp] theorem e_methK {c nm : Str} {g : Fn} {pm : List W → List W → List W} {o : Ev} {la lb : EvL} : fMethK c nm g pm o la lb ρ m = (o ρ m).bind fun w m => match insOf w m with
    | some (c', ns, _) => if c' = c ∧ nm ∉ ns then (la ρ m).bind fun ws m => (lb ρ m).bind fun zs m => g (pm (w :: ws) zs) m else .bad
    | none => .bad := Eq.trans rfl rfl
@[simp] theorem e_tab {P : Addr} {s : Str} : sTab P s p q ρ m = match p ρ m with
    | .nx ρ' m' => q ρ' (m' ++ [.tab P s])
    | _ => .bad := Eq.trans rfl rfl
@[simp] theorem lift_xc {α : Type} {c : Str} {ns : List Str} {vs : List D} {k : α → Mem → RS} : (R.exc c ns vs m : R α).lift ρ k = .xc c ns vs ρ m := Eq.trans rfl rfl
theorem fmt_int {i : Int} (h1 : -(10 ^ 40) ≤ i) (h2 : i ≤ 10 ^ 40) : fmtB (.int i) = true := by
  unfold fmtB fmt1
  simp only [decide_eq_true_eq]
  omega
end
end GD
namespace GD
open PySem PySem.Spec PyProof.Rows L2
noncomputable section
def b__law_field (x : XT) : Ex :=
    (sSeq (sIf (gBool (fOp (oIn false) (fXf x "code" (fVar 0)) (fLst (fCons (fC (.str "BadPlace")) (fCons (fC (.str "NoPlace")) fNil)))))
    (sRet (fXf x "place" (fVar 0)))
    sNext)
    (sSeq (sIf (gBool (fOp (oIn false) (fXf x "code" (fVar 0)) (fLst (fCons (fC (.str "BadMove")) (fCons (fC (.str "BadText")) (fCons (fC (.str "BadRemainder")) (fCons (fC (.str "BadDeed")) fNil)))))))
    (sRet (fXf x "at" (fVar 0)))
    sNext)
    (sSeq (sIf (gBool (fOp (oIn false) (fXf x "code" (fVar 0)) (fLst (fCons (fC (.str "TooLong")) (fCons (fC (.str "TooWide")) (fCons (fC (.str "TooGreat")) (fCons (fC (.str "TooSmall")) (fCons (fC (.str "Full")) fNil))))))))
    (sRet (fXf x "limit" (fVar 0)))
    sNext)
    (sSeq (sIf (gBool (fOp (oIn false) (fXf x "code" (fVar 0)) (fLst (fCons (fC (.str "BadName")) (fCons (fC (.str "Taken")) (fCons (fC (.str "NoWord")) (fCons (fC (.str "NoPile")) (fCons (fC (.str "NoMark")) fNil))))))))
    (sRet (fXf x "name" (fVar 0)))
    sNext)
    (sSeq (sIf (gBool (fOp (oIn false) (fXf x "code" (fVar 0)) (fLst (fCons (fC (.str "InUse")) (fCons (fC (.str "NoWatch")) fNil)))))
    (sRet (fXf x "number" (fVar 0)))
    sNext)
    (sSeq (sIf (gBool (fOp oEq (fXf x "code" (fVar 0)) (fC (.str "BadSize"))))
    (sRet (fXf x "size" (fVar 0)))
    sNext)
    (sSeq (sIf (gBool (fOp oEq (fXf x "code" (fVar 0)) (fC (.str "BadRounds"))))
    (sRet (fXf x "rounds" (fVar 0)))
    sNext)
    (sSeq (sIf (gBool (fOp oEq (fXf x "code" (fVar 0)) (fC (.str "BadCapacity"))))
    (sRet (fXf x "value" (fVar 0)))
    sNext)
    (sRet (fIf (gBool (fOp oEq (fXf x "code" (fVar 0)) (fC (.str "BadPage")))) (fXf x "row" (fVar 0)) (fC .non)))))))))))
def m__law_field (x : XT) : Fn := fnOf false 1 1 (b__law_field x)
end
theorem oIn2 (c a b : Str) (m : Mem) (hc : PyData.strOk c = true) (h : ([a, b] : List Str).all PyData.strOk = true) : oIn false (.d (.str c)) (.d (.lst [.str a, .str b])) m = .ok (.d (.bl (decide (c ∈ [a, b])))) m := by
  have e : (decide (c ∈ [a, b])) = (([PyData.str a, PyData.str b] : List PyData).any fun z => PyData.eqv z (.str c)) := by
    rw [Bool.eq_iff_iff]
    simp [PyData.eqv]
    simp only [eq_comm (a := c)]
  rw [e]
  simp at h
  simp [oIn, lstOf, datOf, D.py, D.pyL, SeqAt.shaped, PyData.canLay0, PyData.canLayAll0, PyData.depth, PyData.depthAll, hc, h]
theorem oIn4 (c a b d e : Str) (m : Mem) (hc : PyData.strOk c = true) (h : ([a, b, d, e] : List Str).all PyData.strOk = true) : oIn false (.d (.str c)) (.d (.lst [.str a, .str b, .str d, .str e])) m = .ok (.d (.bl (decide (c ∈ [a, b, d, e])))) m := by
  have e : (decide (c ∈ [a, b, d, e])) = (([PyData.str a, PyData.str b, PyData.str d, PyData.str e] : List PyData).any fun z => PyData.eqv z (.str c)) := by
    rw [Bool.eq_iff_iff]
    simp [PyData.eqv]
    simp only [eq_comm (a := c)]
  rw [e]
  simp at h
  simp [oIn, lstOf, datOf, D.py, D.pyL, SeqAt.shaped, PyData.canLay0, PyData.canLayAll0, PyData.depth, PyData.depthAll, hc, h]
theorem oIn5 (c a b d e f : Str) (m : Mem) (hc : PyData.strOk c = true) (h : ([a, b, d, e, f] : List Str).all PyData.strOk = true) : oIn false (.d (.str c)) (.d (.lst [.str a, .str b, .str d, .str e, .str f])) m = .ok (.d (.bl (decide (c ∈ [a, b, d, e, f])))) m := by
  have e : (decide (c ∈ [a, b, d, e, f])) = (([PyData.str a, PyData.str b, PyData.str d, PyData.str e, PyData.str f] : List PyData).any fun z => PyData.eqv z (.str c)) := by
    rw [Bool.eq_iff_iff]
    simp [PyData.eqv]
    simp only [eq_comm (a := c)]
  rw [e]
  simp at h
  simp [oIn, lstOf, datOf, D.py, D.pyL, SeqAt.shaped, PyData.canLay0, PyData.canLayAll0, PyData.depth, PyData.depthAll, hc, h]
section
variable (x : XT) (c f : Str) (v : D) (m : Mem)
theorem xf_code (o : Env) (hne : (("code" : Str) == f) = false) : fXf x "code" (fVar 0) (some (.d (.xin x [f, "code"] [v, .str c])) :: o) m = .ok (.d (.str c)) m := by
  unfold fXf fVar
  simp [List.lookup, hne]
theorem xf_fld (o : Env) (ns : List Str) (vs : List D) : fXf x f (fVar 0) (some (.d (.xin x (f :: ns) (v :: vs))) :: o) m = .ok (.d v) m := by
  unfold fXf fVar
  simp [List.lookup]
end
theorem field_2 {c : Str} {v : D} (hc : PyData.strOk c = true) (n1 : c ∉ (["BadPlace", "NoPlace"] : List Str)) (h : c ∈ (["BadMove", "BadText", "BadRemainder", "BadDeed"] : List Str)) (x : XT) (m : Mem) : m__law_field x [.d (.xin x ["at", "code"] [v, .str c])] m = .ok (.d v) m := by
  have e1 := xf_code x c "at" v m [] (by decide +kernel)
  have e2 := xf_fld x "at" v m [] ["code"] [.str c]
  have q1 := oIn2 c "BadPlace" "NoPlace" m hc (by decide +kernel)
  have q2 := oIn4 c "BadMove" "BadText" "BadRemainder" "BadDeed" m hc (by decide +kernel)
  refine e_fnr _ ?_ rfl
  simp [-List.mem_cons, b__law_field, e1, e2, q1, q2, n1, h]
theorem field_3 {c : Str} {v : D} (hc : PyData.strOk c = true) (n1 : c ∉ (["BadPlace", "NoPlace"] : List Str)) (n2 : c ∉ (["BadMove", "BadText", "BadRemainder", "BadDeed"] : List Str)) (h : c ∈ (["TooLong", "TooWide", "TooGreat", "TooSmall", "Full"] : List Str)) (x : XT) (m : Mem) : m__law_field x [.d (.xin x ["limit", "code"] [v, .str c])] m = .ok (.d v) m := by
  have e1 := xf_code x c "limit" v m [] (by decide +kernel)
  have e2 := xf_fld x "limit" v m [] ["code"] [.str c]
  have q1 := oIn2 c "BadPlace" "NoPlace" m hc (by decide +kernel)
  have q2 := oIn4 c "BadMove" "BadText" "BadRemainder" "BadDeed" m hc (by decide +kernel)
  have q3 := oIn5 c "TooLong" "TooWide" "TooGreat" "TooSmall" "Full" m hc (by decide +kernel)
  refine e_fnr _ ?_ rfl
  simp [-List.mem_cons, b__law_field, e1, e2, q1, q2, q3, n1, n2, h]
theorem try_BadMove {cs : List Str} {v : D} {m' : Mem} {r : R W} (h : r = .exc "BadMove" ["at", "code"] [v, .str "BadMove"] m') (hc : ("BadMove" : Str) ∈ cs) : noX (tryR cs m__law_field r) = .ok (.d (.tup [.str "BadMove", v])) m' :=
  try_exc h hc (by decide +kernel) fun x m => field_2 (by decide +kernel) (by decide +kernel) (by decide +kernel) x m
theorem try_TooWide {cs : List Str} {v : D} {m' : Mem} {r : R W} (h : r = .exc "TooWide" ["limit", "code"] [v, .str "TooWide"] m') (hc : ("TooWide" : Str) ∈ cs) : noX (tryR cs m__law_field r) = .ok (.d (.tup [.str "TooWide", v])) m' :=
  try_exc h hc (by decide +kernel) fun x m => field_3 (by decide +kernel) (by decide +kernel) (by decide +kernel) (by decide +kernel) x m
end GD
namespace GD
open PySem PySem.Spec PyProof.Rows L2
theorem pull_any (b : Bag) (rest : Mem) (n : Int) (h0 : 0 < n) (h1 : n < 10 ^ 199) : ∃ (b' : Bag) (v : Int), m__law_pull [.m 0, .d (.int n)] (b.mo :: rest) = .ok (.d (.int v)) (b'.mo :: rest) ∧ 0 ≤ v ∧ v < n := by
  obtain ⟨k, rfl⟩ := Int.eq_ofNat_of_zero_le (Int.le_of_lt h0)
  have hk : 0 < k := by omega
  have h2 : k < 10 ^ 200 := by
    have : (10 : Int) ^ 199 = ((10 ^ 199 : Nat) : Int) := by norm_cast
    have q : k < 10 ^ 199 := by omega
    exact Nat.lt_trans q (by decide +kernel)
  exact ⟨b.nxt k, (b.val k : Int), pull_eq b rest k hk h2, by omega, by have := b.val_lt hk; omega⟩
theorem of_any (b : Bag) (rest : Mem) (xs : List D) (h0 : 0 < xs.length) (hl : xs.length ≤ 100000) : ∃ (b' : Bag) (x : D), m__law_of [.m 0, .d (.lst xs)] (b.mo :: rest) = .ok (.d x) (b'.mo :: rest) ∧ x ∈ xs := by
  have hv := b.val_lt h0
  exact ⟨b.nxt xs.length, xs[b.val xs.length], of_eqS b rest xs _ h0 hl (by simp [hv]), List.getElem_mem _⟩
end GD
namespace GD
open PySem PySem.Spec PyProof.Rows L2
/-! sums of depths, sends, errors of sizes and places -/
/-! errors -/
theorem fmt_of {n : Int} (h0 : -1000000000000000000000000000000000 ≤ n) (h1 : n ≤ 1000000000000000000000000000000000) : fmtB (.int n) = true := fmt_int (by omega) (by omega)
end GD
namespace GD
open PySem PySem.Spec PyProof.Rows L2
/-- a pair of a remainder and a modulus -/
abbrev PR := Int × Nat
def PR.ok (p : PR) : Prop := 0 < p.2 ∧ 0 ≤ p.1 ∧ p.1 < p.2
/-! ### all of them -/
def Cp (p q : PR) : Prop := (Nat.gcd p.2 q.2 : Int) ∣ p.1 - q.1
theorem Cp.symm {p q : PR} (h : Cp p q) : Cp q p := by
  unfold Cp at h ⊢
  rw [Nat.gcd_comm, ← Int.dvd_neg, Int.neg_sub]
  exact h
/-! ### the law's own words -/
/-- _law_of: one of the things -/
theorem of_eq (b : Bag) (rest : Mem) (xs : List D) (x : D) (h0 : 0 < xs.length) (hl : xs.length ≤ 100000) (hx : xs[b.val xs.length]? = some x) : m__law_of [.m 0, .d (.lst xs)] (b.mo :: rest) = .ok (.d x) ((b.nxt xs.length).mo :: rest) := by
  have h : b__law_of [some (.m 0), some (.d (.lst xs))] (b.mo :: rest) = .rt (.d x) ((b.nxt xs.length).mo :: rest) := by
    unfold b__law_of
    refine es_ret (ev_op (ev_var rfl) (ev_call (ev_cons (ev_var rfl) (ev_cons (ev_cb (ev_cons (ev_var rfl) ev_nil) oLen_l) ev_nil)) (pull_eq b rest xs.length h0 (Nat.lt_of_le_of_lt hl (by decide)))) (ixl_ok ?_))
    rw [atI_nat]
    exact hx
  have z := fn_ret (mu := false) (np := 2) (N := 2) (ws := [.m 0, .d (.lst xs)]) rfl h
  show fnOf false 2 2 b__law_of _ _ = _
  rw [z, leave_d]
  show R.ok _ (List.take (rest.length + 1) _) = _
  rw [List.take_succ_cons, List.take_length]
end GD
namespace GD
open PySem PySem.Spec PyProof.Rows L2
inductive F2 {α β : Type} (Q : α → β → Prop) : List α → List β → Prop
  | nil : F2 Q [] []
  | cons {x : α} {y : β} {xs : List α} {ys : List β} : Q x y → F2 Q xs ys → F2 Q (x :: xs) (y :: ys)
theorem F2.length {α β : Type} {Q : α → β → Prop} {xs : List α} {ys : List β} (h : F2 Q xs ys) : xs.length = ys.length := by
  induction h with
  | nil => rfl
  | cons _ _ ih => simp [ih]
theorem F2.map {α β : Type} {Q : α → β → Prop} {xs : List α} {ys : List β} (f : β → α) (h : F2 Q xs ys) (hf : ∀ x y, Q x y → f y = x) : ys.map f = xs := by
  induction h with
  | nil => rfl
  | cons q _ ih => simp [ih, hf _ _ q]
/-! comprehensions that draw, item by item; with a test -/
end GD
namespace GD
open PySem PySem.Spec PyProof.Rows L2
noncomputable section
def b_ruled : Ex :=
    (sSeq (sIf (gNot (gTest (fVar 0)))
    (sRet (fTup (fCons (fVar 2) (fCons (fIf (gBool (fOp oEq (fVar 2) (fC (.str "top")))) (fOp oAdd (fVar 3) (fVar 1)) (fOp oSub (fVar 3) (fVar 1))) (fCons (fC (.bl false)) fNil)))))
    sNext)
    (sRet (fIf (gBool (fOp oEq (fVar 2) (fC (.str "top")))) (fTup (fCons (fC (.str "bottom")) (fCons (fOp oSub (fVar 3) (fVar 1)) (fCons (fC (.bl true)) fNil)))) (fTup (fCons (fC (.str "top")) (fCons (fOp oAdd (fVar 3) (fVar 1)) (fCons (fC (.bl true)) fNil)))))))
def m_ruled : Fn := fnOf false 4 4 b_ruled
def L1_trimmed : Ex :=
    (sAsg (fOp oSub (fVar 4) (fC (.int 1))) (tgName 4))
def b_trimmed : Ex :=
    (sSeq (sAsg (fCB oLen (fCons (fVar 3) fNil)) (tgName 4))
    (sSeq (sWhile (fuelI 4 1) (gAnd (gBool (fOp oGt (fVar 4) (fC (.int 0)))) (gBool (fOp oEq (fOp oIx (fVar 3) (fOp oSub (fVar 4) (fC (.int 1)))) (fCall m_ruled (fCons (fVar 0) (fCons (fVar 1) (fCons (fVar 2) (fCons (fOp oSub (fVar 4) (fC (.int 1))) fNil))))))))
    L1_trimmed)
    (sRet (fCB oTuple (fCons (fSl false (fVar 3) pNone (pSome (fVar 4))) fNil)))))
def m_trimmed : Fn := fnOf false 4 5 b_trimmed
def b_image_counts : Ex :=
    (sSeq (sIf (gTest (fVar 0))
    (sRet (fTup (fCons (fOp oAdd (fVar 3) (fVar 1)) (fCons (fOp oSub (fVar 2) (fVar 1)) fNil))))
    sNext)
    (sRet (fTup (fCons (fOp oAdd (fVar 2) (fVar 1)) (fCons (fOp oSub (fVar 3) (fVar 1)) fNil)))))
def m_image_counts : Fn := fnOf false 4 4 b_image_counts
def b_are_parts : Ex :=
    (sSeq (sAsg (fCall m_image_counts (fCons (fVar 0) (fCons (fVar 1) (fCons (fCB oLen (fCons (fVar 2) fNil)) (fCons (fCB oLen (fCons (fVar 3) fNil)) fNil))))) (tgUn 2 (tgCons (tgName 4) (tgCons (tgName 5) tgNil))))
    (sSeq (sIf (gOr (gBool (fOp oLt (fVar 4) (fC (.int 0)))) (gBool (fOp oLt (fVar 5) (fC (.int 0)))))
    (sRet (fC (.bl false)))
    sNext)
    (sSeq (sAsg (fOp oAdd (fLc (iRange1 (fCons (fVar 4) fNil)) (tgName 7) gYes (fTup (fCons (fC (.str "top")) (fCons (fVar 7) fNil))) [7]) (fLc (iRange1 (fCons (fVar 5) fNil)) (tgName 7) gYes (fTup (fCons (fC (.str "bottom")) (fCons (fVar 7) fNil))) [7])) (tgName 6))
    (sRet (fOp oEq (fCB oSorted (fCons (fLc (iSeq (fOp oAdd (fVar 2) (fVar 3))) (tgName 8) gYes (fTup (fCons (fOp oIx (fVar 8) (fC (.int 0))) (fCons (fOp oIx (fVar 8) (fC (.int 1))) fNil))) [8]) fNil)) (fCB oSorted (fCons (fVar 6) fNil)))))))
def m_are_parts : Fn := fnOf false 4 9 b_are_parts
end
open FM
/-! ### forms as data -/
def enD (e : En) : D := .tup [.str (endS e.1), .int e.2.1, .bl e.2.2]
def gd (p : Bool × Int) : D := .tup [.str (endS p.1), .int p.2]
def formD (t : Bool) (s : Int) (A B : List En) : D := .obj "Form" ["faced", "moved_by", "first", "last"] [.bl t, .int s, .tup (A.map enD), .tup (B.map enD)]
theorem endS_top (e : Bool) : decide (endS e = ("top" : Str)) = e := by
  cases e
  · exact decide_eq_false (by decide +kernel)
  · rfl
theorem endS_inj {a b : Bool} (h : endS a = endS b) : a = b := by
  have z := endS_top a
  rw [h, endS_top] at z
  exact z.symm
theorem endS_ok (e : Bool) : PyData.strOk (endS e) = true := by cases e <;> decide +kernel
theorem eqP_en (e : En) (n : Nat) : eqP (n + 2) (enD e) = true := by
  have z := endS_ok e.1
  simp [eqP, enD, z]
theorem eqv_en (a b : En) : eqvW (enD a) (enD b) = decide (a = b) := by
  obtain ⟨a1, a2, a3⟩ := a
  obtain ⟨b1, b2, b3⟩ := b
  unfold enD
  rw [eqvW_tc, eqvW_tc, eqvW_tc, eqvW_ss, eqvW_ii, eqvW_bb, eqvW_tn]
  by_cases h1 : a1 = b1
  · subst h1
    by_cases h2 : a2 = b2
    · subst h2
      by_cases h3 : a3 = b3
      · subst h3; simp
      · have : (a3 == b3) = false := by simpa using h3
        simp [this, h3]
    · have : (a2 == b2) = false := by simpa using h2
      simp [this, h2]
  · have : (endS a1 == endS b1) = false := by
      rw [beq_eq_false_iff_ne]
      exact fun z => h1 (endS_inj z)
    simp [this, h1]
theorem eq_en (a b : En) (m : Mem) : oEq (.d (enD a)) (.d (enD b)) m = .ok (.d (.bl (decide (a = b)))) m := by
  rw [oEq_P (eqP_en a 5) (eqP_en b 5) (by decide), eqv_en]
theorem topS (e : Bool) (m : Mem) : oEq (.d (.str (endS e))) (.d (.str "top")) m = .ok (.d (.bl e)) m := by rw [oEq_ss, endS_top]
/-! ### the rul, trimmed tables -/
theorem ruled_eq (t : Bool) (s : Int) (e : Bool) (d : Int) (m : Mem) : m_ruled [.d (.bl t), .d (.int s), .d (.str (endS e)), .d (.int d)] m = .ok (.d (enD (rul t s e d))) m := by
  refine e_fnr (ws := [.d (.bl t), .d (.int s), .d (.str (endS e)), .d (.int d)]) _ ?_ rfl
  have h := topS e m
  cases t <;> cases e <;> simp [-oEq_ss, b_ruled, truth, h, enD, rul] <;> rfl
theorem trim_loop (t : Bool) (s : Int) (e : Bool) (T : List En) (m : Mem) : ∀ (n fuel : Nat), n ≤ T.length → n < fuel →
    whl (gAnd (gBool (fOp oGt (fVar 4) (fC (.int 0)))) (gBool (fOp oEq (fOp oIx (fVar 3) (fOp oSub (fVar 4) (fC (.int 1)))) (fCall m_ruled (fCons (fVar 0) (fCons (fVar 1) (fCons (fVar 2) (fCons (fOp oSub (fVar 4) (fC (.int 1))) fNil)))))))) L1_trimmed fuel [some (.d (.bl t)), some (.d (.int s)), some (.d (.str (endS e))), some (.d (.lst (T.map enD))), some (.d (.int (n : Int)))] m
      = .nx [some (.d (.bl t)), some (.d (.int s)), some (.d (.str (endS e))), some (.d (.lst (T.map enD))), some (.d (.int (trimN t s e T n : Int)))] m
  | 0, fuel + 1, _, _ => by simp [whl, trimN]
  | n + 1, fuel + 1, h1, h2 => by
    have hn : n < T.length := by omega
    have e0 : ((n + 1 : Nat) : Int) - 1 = (n : Int) := by omega
    have gt : (0 : Int) < ((n + 1 : Nat) : Int) := by omega
    have ix : ∀ m, oIx (.d (.lst (T.map enD))) (.d (.int (n : Int))) m = .ok (.d (enD T[n])) m := fun m => ixl_ok (by rw [atI_nat, List.getElem?_map, List.getElem?_eq_getElem hn]; rfl)
    have ru := ruled_eq t s e (n : Int) m
    have eq := eq_en T[n] (rul t s e (n : Int)) m
    have ih := trim_loop t s e T m n fuel (by omega) (by omega)
    unfold whl
    by_cases hc : T[n] = rul t s e (n : Int)
    · have ht : trimN t s e T (n + 1) = trimN t s e T n := by
        show (if T[n]? = some (rul t s e (n : Nat)) then _ else _) = _
        rw [if_pos (by rw [List.getElem?_eq_getElem hn, hc])]
      rw [ht]
      rw [hc] at eq ix
      simp at eq
      have l1 : L1_trimmed [some (.d (.bl t)), some (.d (.int s)), some (.d (.str (endS e))), some (.d (.lst (T.map enD))), some (.d (.int ((n : Int) + 1)))] m = .nx [some (.d (.bl t)), some (.d (.int s)), some (.d (.str (endS e))), some (.d (.lst (T.map enD))), some (.d (.int (n : Int)))] m := by simp [L1_trimmed]
      simp [-oIx_l, gt, e0, ix, ru, eq]
      rw [l1]
      exact ih
    · have ht : trimN t s e T (n + 1) = n + 1 := by
        show (if T[n]? = some (rul t s e (n : Nat)) then _ else _) = _
        rw [if_neg (by rw [List.getElem?_eq_getElem hn]; exact fun z => hc (Option.some.inj z))]
      rw [ht]
      simp [hc] at eq
      simp [-oIx_l, gt, e0, ix, ru, eq]
theorem trimmed_eq (t : Bool) (s : Int) (e : Bool) (T : List En) (m : Mem) (hl : T.length ≤ 100000) : m_trimmed [.d (.bl t), .d (.int s), .d (.str (endS e)), .d (.lst (T.map enD))] m = .ok (.d (.tup ((trim t s e T).map enD))) m := by
  refine e_fnr (ws := [.d (.bl t), .d (.int s), .d (.str (endS e)), .d (.lst (T.map enD))]) _ ?_ rfl
  have h := trim_loop t s e T m T.length (T.length + 1) (Nat.le_refl _) (by omega)
  have hle := trimN_le t s e T T.length
  have c := cutD_to (xs := T.map enD) (a := trimN t s e T T.length) (by rw [List.length_map]; exact hle)
  have sl : oSl false (.d (.lst (T.map enD))) none (some (trimN t s e T T.length : Int)) m = .ok (.d (.lst ((trim t s e T).map enD))) m := by
    have z : oSl false (.d (.lst (T.map enD))) none (some (trimN t s e T T.length : Int)) m = .ok (.d (.lst (cutD (T.map enD) none (some (trimN t s e T T.length : Int))))) m := rfl
    rw [z, c]
    unfold trim
    rw [List.map_take]
  have tu : oTuple [.d (.lst ((trim t s e T).map enD))] m = .ok (.d (.tup ((trim t s e T).map enD))) m := rfl
  have fu : fuelI 4 1 [some (.d (.bl t)), some (.d (.int s)), some (.d (.str (endS e))), some (.d (.lst (T.map enD))), some (.d (.int (T.length : Int)))] m = T.length + 1 := by
    unfold fuelI
    simp
  simp [-e_gand, b_trimmed, fu, h, fSl, pNone, pSome, sl, tu]
/-! ### sorted goals -/
theorem le_gd (p q : Bool × Int) : PySem.W.dataLe false dPy (gd p) (gd q) = if p.1 = q.1 then decide (p.2 ≤ q.2) else q.1 := by
  obtain ⟨p1, p2⟩ := p
  obtain ⟨q1, q2⟩ := q
  show (!PySem.W.dataLt (.tuple [.str (endS q1), .int q2]) (.tuple [.str (endS p1), .int p2])) = _
  rw [PySem.W.dataLt_pair rfl rfl, PySem.W.dataLt_int, PySem.W.dataLt_str]
  have es : ∀ a b : Str, PyData.eqv (.str a) (.str b) = (a == b) := fun _ _ => rfl
  have ei : ∀ a b : Int, PyData.eqv (.int a) (.int b) = (a == b) := fun _ _ => rfl
  rw [es, ei]
  by_cases h : p1 = q1
  · subst h
    simp only [beq_self_eq_true, if_true]
    by_cases h2 : q2 = p2
    · subst h2; simp
    · have h3 : (q2 == p2) = false := by simpa using h2
      rw [h3]
      by_cases h4 : p2 ≤ q2
      · simp [h4]
      · simp [h4]; omega
  · have h3 : (endS q1 == endS p1) = false := by
      rw [beq_eq_false_iff_ne]
      exact fun z => h (endS_inj z.symm)
    rw [h3, if_neg h]
    have t1 : decide ((endS false).cps.toList < (endS true).cps.toList) = true := by decide +kernel
    have t2 : decide ((endS true).cps.toList < (endS false).cps.toList) = false := by decide +kernel
    cases p1 <;> cases q1 <;> first | exact absurd rfl h | simp only [t1, t2, Bool.false_eq_true, if_false, Bool.not_true, Bool.not_false]
def leG (p q : Bool × Int) : Bool := if p.1 = q.1 then decide (p.2 ≤ q.2) else q.1
theorem sort_gd (l : List (Bool × Int)) : sortD (l.map gd) = (l.mergeSort leG).map gd := by
  unfold sortD
  rw [List.map_mergeSort]
  intro a _ b _
  exact (le_gd a b).symm
theorem sort_perm {l l' : List (Bool × Int)} (h : l.Perm l') : sortD (l.map gd) = sortD (l'.map gd) := by
  rw [sort_gd, sort_gd]
  have trans : ∀ a b c : Bool × Int, leG a b = true → leG b c = true → leG a c = true := by
    rintro ⟨a1, a2⟩ ⟨b1, b2⟩ ⟨c1, c2⟩
    unfold leG
    cases a1 <;> cases b1 <;> cases c1 <;> simp <;> omega
  have total : ∀ a b : Bool × Int, (leG a b || leG b a) = true := by
    rintro ⟨a1, a2⟩ ⟨b1, b2⟩
    unfold leG
    cases a1 <;> cases b1 <;> simp <;> omega
  have e : l.mergeSort leG = l'.mergeSort leG := by
    refine List.Perm.eq_of_pairwise (le := fun a b => leG a b = true) ?_ (List.pairwise_mergeSort trans total l) (List.pairwise_mergeSort trans total l') (((List.mergeSort_perm l leG).trans h).trans (List.mergeSort_perm l' leG).symm)
    rintro ⟨a1, a2⟩ ⟨b1, b2⟩ _ _
    unfold leG
    cases a1 <;> cases b1 <;> simp <;> omega
  rw [e]
theorem sortOk_gd (l : List (Bool × Int)) (hl : l.length ≤ 100000) : SortOk (l.map gd) := by
  refine ⟨fun d hd => ?_, ?_, ?_, fun d hd => ?_, by rw [List.length_map]; exact hl⟩
  · obtain ⟨p, _, rfl⟩ := List.mem_map.mp hd
    exact ⟨_, rfl⟩
  · rw [List.map_map]
    exact PySem.W.AllAlike.of fun b b' => rfl
  · rw [List.map_map]
    exact PySem.W.Sortable.tuples fun b => ⟨_, _, rfl⟩
  · obtain ⟨p, _, rfl⟩ := List.mem_map.mp hd
    show PyData.depth (.tuple [.str _, .int _]) ≤ 32
    simp [PyData.depth, PyData.depthAll]
theorem sorted_gd (l : List (Bool × Int)) (m : Mem) (hl : l.length ≤ 100000) : oSorted [.d (.lst (l.map gd))] m = .ok (.d (.lst (sortD (l.map gd)))) m := by
  have z : oSorted [.d (.lst (l.map gd))] m = if SortOk (l.map gd) then .ok (.d (.lst (sortD (l.map gd)))) m else .bad := rfl
  rw [z, if_pos (sortOk_gd l hl)]
theorem counts_eq (t : Bool) (s a b : Int) (m : Mem) : m_image_counts [.d (.bl t), .d (.int s), .d (.int a), .d (.int b)] m = .ok (.d (.tup [.int (if t then b + s else a + s), .int (if t then a - s else b - s)])) m := by
  refine e_fnr (ws := [.d (.bl t), .d (.int s), .d (.int a), .d (.int b)]) _ ?_ rfl
  cases t <;> simp [b_image_counts, truth]
theorem ends_lc (x : Int) (e : Bool) (i : Nat) (ρ : Env) (m : Mem) (h0 : 0 ≤ x) (hx : x ≤ 100000) (hi : ρ[i]? = some (some (.d (.int x)))) (hl : 7 < ρ.length) : fLc (iRange1 (fCons (fVar i) fNil)) (tgName 7) gYes (fTup (fCons (fC (.str (endS e))) (fCons (fVar 7) fNil))) [7] ρ m = .ok (.d (.lst (((List.range x.toNat).map fun d : Nat => (e, (d : Int))).map gd))) m := by
  have hx' : ((x.toNat : Nat) : Int) = x := by omega
  have r := rng_eq (la := fCons (fVar i) fNil) (ρ := ρ) (m := m) (m1 := m) x.toNat (by omega) (by simp [hi, hx'])
  rw [List.map_map]
  exact lc_map (l := List.range x.toNat) (fun k : Nat => W.d (.int (k : Int))) (gd ∘ fun d : Nat => (e, (d : Int))) r (fun k _ => ⟨_, rfl, by simp [wipeE, hl, gd]⟩) (by rw [List.length_range]; omega)
theorem are_parts_eq {t : Bool} {s : Int} {A B : List En} (h : Parts t s A B) (m : Mem) (ha : A.length ≤ 1000) (hb : B.length ≤ 1000) : m_are_parts [.d (.bl t), .d (.int s), .d (.lst (A.map enD)), .d (.lst (B.map enD))] m = .ok (.d (.bl true)) m := by
  refine e_fnr (ws := [.d (.bl t), .d (.int s), .d (.lst (A.map enD)), .d (.lst (B.map enD))]) _ ?_ rfl
  obtain ⟨x, hx⟩ : ∃ x, x = (cnts t s A.length B.length).1 := ⟨_, rfl⟩
  obtain ⟨y, hy⟩ : ∃ y, y = (cnts t s A.length B.length).2 := ⟨_, rfl⟩
  have hx0 : 0 ≤ x := by rw [hx]; exact h.p1
  have hy0 : 0 ≤ y := by rw [hy]; exact h.p2
  have hxy : x + y = (A.length : Int) + B.length := by
    rw [hx, hy]
    unfold cnts
    cases t <;> simp <;> omega
  have c := counts_eq t s (A.length : Int) (B.length : Int) m
  have cx : (if t then (B.length : Int) + s else (A.length : Int) + s) = x := by rw [hx]; unfold cnts; cases t <;> rfl
  have cy : (if t then (A.length : Int) - s else (B.length : Int) - s) = y := by rw [hy]; unfold cnts; cases t <;> rfl
  rw [cx, cy] at c
  have nx : ¬ x < 0 := by omega
  have ny : ¬ y < 0 := by omega
  have l1 := ends_lc x true 4 [some (.d (.bl t)), some (.d (.int s)), some (.d (.lst (A.map enD))), some (.d (.lst (B.map enD))), some (.d (.int x)), some (.d (.int y)), none, none, none] m hx0 (by omega) rfl (by simp)
  have l2 := ends_lc y false 5 [some (.d (.bl t)), some (.d (.int s)), some (.d (.lst (A.map enD))), some (.d (.lst (B.map enD))), some (.d (.int x)), some (.d (.int y)), none, none, none] m hy0 (by omega) rfl (by simp)
  have l1 : fLc (iRange1 (fCons (fVar 4) fNil)) (tgName 7) gYes (fTup (fCons (fC (.str "top")) (fCons (fVar 7) fNil))) [7] [some (.d (.bl t)), some (.d (.int s)), some (.d (.lst (A.map enD))), some (.d (.lst (B.map enD))), some (.d (.int x)), some (.d (.int y)), none, none, none] m = _ := l1
  have l2 : fLc (iRange1 (fCons (fVar 5) fNil)) (tgName 7) gYes (fTup (fCons (fC (.str "bottom")) (fCons (fVar 7) fNil))) [7] [some (.d (.bl t)), some (.d (.int s)), some (.d (.lst (A.map enD))), some (.d (.lst (B.map enD))), some (.d (.int x)), some (.d (.int y)), none, none, none] m = _ := l2
  obtain ⟨Wt, hW⟩ : ∃ Wt, Wt = wanted x y := ⟨_, rfl⟩
  have hw : ((List.range x.toNat).map fun d : Nat => (true, (d : Int))).map gd ++ ((List.range y.toNat).map fun d : Nat => (false, (d : Int))).map gd = Wt.map gd := by rw [hW]; unfold wanted; rw [List.map_append]
  have lw : Wt.length ≤ 2000 := by
    rw [hW]
    unfold wanted
    simp
    omega
  have ad1 : oAdd (.d (.lst (((List.range x.toNat).map fun d : Nat => (true, (d : Int))).map gd))) (.d (.lst (((List.range y.toNat).map fun d : Nat => (false, (d : Int))).map gd))) m = .ok (.d (.lst (Wt.map gd))) m := by
    rw [oAdd_ll, if_pos (by simp; omega), hw]
  have ad2 : oAdd (.d (.lst (A.map enD))) (.d (.lst (B.map enD))) m = .ok (.d (.lst ((A ++ B).map enD))) m := by
    rw [oAdd_ll, if_pos (by simp; omega), List.map_append]
  have l3 := lc_map (l := A ++ B) (it := iSeq (fOp oAdd (fVar 2) (fVar 3))) (g := tgName 8) (a := fTup (fCons (fOp oIx (fVar 8) (fC (.int 0))) (fCons (fOp oIx (fVar 8) (fC (.int 1))) fNil))) (vs := [8]) (ρ := [some (.d (.bl t)), some (.d (.int s)), some (.d (.lst (A.map enD))), some (.d (.lst (B.map enD))), some (.d (.int x)), some (.d (.int y)), some (.d (.lst (Wt.map gd))), none, none]) (m := m) (m0 := m) (W.d ∘ enD) (gd ∘ goal) (by simp [-oAdd_ll, ad2]) (fun e _ => ⟨_, rfl, by
    have i0 : oIx (.d (enD e)) (.d (.int 0)) m = .ok (.d (.str (endS e.1))) m := rfl
    have i1 : oIx (.d (enD e)) (.d (.int 1)) m = .ok (.d (.int e.2.1)) m := rfl
    simp [-oIx_t, wipeE, i0, i1, gd]⟩) (by simp; omega)
  rw [← List.map_map] at l3
  have so1 := sorted_gd ((A ++ B).map goal) m (by simp; omega)
  have so2 := sorted_gd Wt m (by omega)
  have pe := sort_perm (l := (A ++ B).map goal) (l' := Wt) (by rw [hW, hx, hy]; exact h.perm)
  rw [pe] at so1
  have ep : eqP 6 (.lst (sortD (Wt.map gd))) = true := by
    rw [sort_gd]
    simp [eqP, gd, endS_ok]
  have eq := oEq_P (m := m) ep ep (by decide)
  rw [eqvW_refl ep] at eq
  obtain ⟨U1, hU1⟩ : ∃ U : List D, U = ((List.range x.toNat).map fun d : Nat => (true, (d : Int))).map gd := ⟨_, rfl⟩
  obtain ⟨U2, hU2⟩ : ∃ U : List D, U = ((List.range y.toNat).map fun d : Nat => (false, (d : Int))).map gd := ⟨_, rfl⟩
  obtain ⟨U3, hU3⟩ : ∃ U : List D, U = ((A ++ B).map goal).map gd := ⟨_, rfl⟩
  obtain ⟨U4, hU4⟩ : ∃ U : List D, U = Wt.map gd := ⟨_, rfl⟩
  rw [← hU1] at l1 ad1
  rw [← hU2] at l2 ad1
  rw [← hU3] at l3 so1
  rw [← hU4] at l3 ad1 so2 so1 eq
  simp [-oAdd_ll, b_are_parts, c, nx, ny, l1, l2, ad1, l3, so1, so2, eq]
end GD
namespace GD
open PySem PySem.Spec PyProof.Rows L2
noncomputable section
def b_Form___init__ : Ex :=
    (sSeq (sIf (gOr (gBool (fOp oGt (fCB oLen (fCons (fVar 3) fNil)) (fUn (oCon [("Form", .int 400)] "WIDEST") (fVar 0)))) (gBool (fOp oGt (fCB oLen (fCons (fVar 4) fNil)) (fUn (oCon [("Form", .int 400)] "WIDEST") (fVar 0)))))
    (sRaise "TooWide" "limit" (fUn (oCon [("Form", .int 400)] "WIDEST") (fVar 0)))
    sNext)
    (sSeq (sPar 5 6 (fCons (fLc (iSeq (fVar 3)) (tgName 7) gYes (fCB oTuple (fCons (fVar 7) fNil)) [7]) (fCons (fLc (iSeq (fVar 4)) (tgName 7) gYes (fCB oTuple (fCons (fVar 7) fNil)) [7]) fNil)))
    (sSeq (sIf (gNot (gTest (fCall m_are_parts (fCons (fVar 1) (fCons (fVar 2) (fCons (fVar 5) (fCons (fVar 6) fNil)))))))
    (sRaise0 "BadForm")
    sNext)
    (sSeq (sFldSet ["Form"] "faced" (fVar 1) (fVar 0))
    (sSeq (sFldSet ["Form"] "moved_by" (fVar 2) (fVar 0))
    (sSeq (sFldSet ["Form"] "first" (fCall m_trimmed (fCons (fVar 1) (fCons (fVar 2) (fCons (fC (.str "top")) (fCons (fVar 5) fNil))))) (fVar 0))
    (sFldSet ["Form"] "last" (fCall m_trimmed (fCons (fVar 1) (fCons (fVar 2) (fCons (fC (.str "bottom")) (fCons (fVar 6) fNil))))) (fVar 0))))))))
def m_Form___init__ : Fn := fnOf false 5 8 b_Form___init__
def m_Form : Fn := newO true "Form" m_Form___init__
def b_Form_entry : Ex :=
    (sSeq (sAsg (fIf (gBool (fOp oEq (fVar 1) (fC (.str "top")))) (fUn (oFld ["Form"] "first") (fVar 0)) (fUn (oFld ["Form"] "last") (fVar 0))) (tgName 3))
    (sRet (fIf (gBool (fOp oLt (fVar 2) (fCB oLen (fCons (fVar 3) fNil)))) (fOp oIx (fVar 3) (fVar 2)) (fCall m_ruled (fCons (fUn (oFld ["Form"] "faced") (fVar 0)) (fCons (fUn (oFld ["Form"] "moved_by") (fVar 0)) (fCons (fVar 1) (fCons (fVar 2) fNil))))))))
def m_Form_entry : Fn := fnOf false 3 4 b_Form_entry
def b_Form_reached : Ex :=
    (sSeq (sPar 2 3 (fCons (fOp oSub (fCB oLen (fCons (fUn (oFld ["Form"] "first") (fVar 1)) fNil)) (fUn (oFld ["Form"] "moved_by") (fVar 0))) (fCons (fOp oAdd (fCB oLen (fCons (fUn (oFld ["Form"] "last") (fVar 1)) fNil)) (fUn (oFld ["Form"] "moved_by") (fVar 0))) fNil)))
    (sSeq (sIf (gTest (fUn (oFld ["Form"] "faced") (fVar 0)))
    (sPar 2 3 (fCons (fVar 3) (fCons (fVar 2) fNil)))
    sNext)
    (sRet (fTup (fCons (fCB oMax (fCons (fCB oLen (fCons (fUn (oFld ["Form"] "first") (fVar 0)) fNil)) (fCons (fVar 2) fNil))) (fCons (fCB oMax (fCons (fCB oLen (fCons (fUn (oFld ["Form"] "last") (fVar 0)) fNil)) (fCons (fVar 3) fNil))) fNil))))))
def m_Form_reached : Fn := fnOf false 2 4 b_Form_reached
def b_Form_followed : Ex :=
    (sSeq (sAsg (fMeth [("Form", m_Form_entry)] "entry" (fVar 0) (fCons (fVar 2) (fCons (fVar 3) fNil))) (tgName 4))
    (sSeq (sAsg (fMeth [("Form", m_Form_entry)] "entry" (fVar 1) (fCons (fOp oIx (fVar 4) (fC (.int 0))) (fCons (fOp oIx (fVar 4) (fC (.int 1))) fNil))) (tgName 5))
    (sRet (fTup (fCons (fOp oIx (fVar 5) (fC (.int 0))) (fCons (fOp oIx (fVar 5) (fC (.int 1))) (fCons (fOp oNe (fOp oIx (fVar 4) (fC (.int 2))) (fOp oIx (fVar 5) (fC (.int 2)))) fNil)))))))
def m_Form_followed : Fn := fnOf false 4 6 b_Form_followed
def b_Form___mul__ : Ex :=
    (sSeq (sAsg (fMeth [("Form", m_Form_reached)] "reached" (fVar 0) (fCons (fVar 1) fNil)) (tgUn 2 (tgCons (tgName 2) (tgCons (tgName 3) tgNil))))
    (sSeq (sAsg (fOp oNe (fUn (oFld ["Form"] "faced") (fVar 0)) (fUn (oFld ["Form"] "faced") (fVar 1))) (tgName 4))
    (sSeq (sAsg (fOp oAdd (fUn (oFld ["Form"] "moved_by") (fVar 1)) (fIf (gTest (fUn (oFld ["Form"] "faced") (fVar 1))) (fUn oNeg (fUn (oFld ["Form"] "moved_by") (fVar 0))) (fUn (oFld ["Form"] "moved_by") (fVar 0)))) (tgName 5))
    (sSeq (sAsg (fCall m_trimmed (fCons (fVar 4) (fCons (fVar 5) (fCons (fC (.str "top")) (fCons (fLc (iRange1 (fCons (fVar 2) fNil)) (tgName 8) gYes (fMeth [("Form", m_Form_followed)] "followed" (fVar 0) (fCons (fVar 1) (fCons (fC (.str "top")) (fCons (fVar 8) fNil)))) [8]) fNil))))) (tgName 6))
    (sSeq (sAsg (fCall m_trimmed (fCons (fVar 4) (fCons (fVar 5) (fCons (fC (.str "bottom")) (fCons (fLc (iRange1 (fCons (fVar 3) fNil)) (tgName 8) gYes (fMeth [("Form", m_Form_followed)] "followed" (fVar 0) (fCons (fVar 1) (fCons (fC (.str "bottom")) (fCons (fVar 8) fNil)))) [8]) fNil))))) (tgName 7))
    (sRet (fCall m_Form (fCons (fVar 4) (fCons (fVar 5) (fCons (fVar 6) (fCons (fVar 7) fNil)))))))))))
def m_Form___mul__ : Fn := fnOf false 2 9 b_Form___mul__
end
open FM
theorem set_last {cs : List Str} {f c : Str} {ns : List Str} {vs : List D} {d : D} {a o : Ev} {ρ : Env} {m : Mem} (ha : a ρ (m ++ [.ins c ns vs]) = .ok (.d d) (m ++ [.ins c ns vs])) (ho : o ρ (m ++ [.ins c ns vs]) = .ok (.m m.length) (m ++ [.ins c ns vs])) (hc : c ∈ cs) (hn : f ∉ ns) (hl : ns.length = vs.length) (h5 : ns.length < 500) (hd : d.isOwn = false := by rfl) :
    sFldSet cs f a o ρ (m ++ [.ins c ns vs]) = .nx ρ (m ++ [.ins c (ns ++ [f]) (vs ++ [d])]) := by
  have pv : ∀ (ns : List Str) (vs : List D), f ∉ ns → ns.length = vs.length → putVs f d ns vs = vs ++ [d] := by
    intro ns
    induction ns with
    | nil => intro vs _ h; cases vs with
      | nil => rfl
      | cons _ _ => simp at h
    | cons g ns ih =>
      intro vs h h2
      cases vs with
      | nil => simp at h2
      | cons x vs =>
        have hg : ¬ g = f := fun z => h (by rw [z]; exact List.mem_cons_self)
        simp only [putVs, if_neg hg, List.cons_append]
        rw [ih vs (fun z => h (List.mem_cons_of_mem _ z)) (by simpa using h2)]
  unfold sFldSet
  rw [ha, R.lift_ok, ho, R.lift_ok]
  simp [-D.isOwn, hc, h5, hd, putNs, hn, pv ns vs hn hl]
/-- a list or a tuple of entries -/
def seqE (tu : Bool) (A : List En) : D := if tu then .tup (A.map enD) else .lst (A.map enD)
theorem seqE_len (tu : Bool) (A : List En) (m : Mem) : oLen [.d (seqE tu A)] m = .ok (.d (.int (A.length : Int))) m := by cases tu <;> simp [seqE]
theorem seqE_iter (tu : Bool) (A : List En) (i : Nat) (ρ : Env) (m : Mem) (h : ρ[i]? = some (some (.d (seqE tu A)))) : iSeq (fVar i) ρ m = .ok (A.map (W.d ∘ enD)) m := by cases tu <;> simp [seqE] at h <;> simp [h]
theorem tup_lc (tu : Bool) (A : List En) (i : Nat) (ρ : Env) (m : Mem) (h : ρ[i]? = some (some (.d (seqE tu A)))) (hl : 7 < ρ.length) (ha : A.length ≤ 100000) : fLc (iSeq (fVar i)) (tgName 7) gYes (fCB oTuple (fCons (fVar 7) fNil)) [7] ρ m = .ok (.d (.lst (A.map enD))) m :=
  lc_map (l := A) (W.d ∘ enD) enD (seqE_iter tu A i ρ m h) (fun e _ => ⟨_, rfl, by
    have tu : oTuple [.d (enD e)] m = .ok (.d (enD e)) m := rfl
    simp [wipeE, hl, tu]⟩) ha
theorem init_form {t : Bool} {s : Int} {A B : List En} (tuA tuB : Bool) (h : Parts t s A B) (ha : A.length ≤ 400) (hb : B.length ≤ 400) (m : Mem) : ∃ ρ, b_Form___init__ [some (.m m.length), some (.d (.bl t)), some (.d (.int s)), some (.d (seqE tuA A)), some (.d (seqE tuB B)), none, none, none] (m ++ [.ins "Form" [] []]) = .nx ρ (m ++ [.ins "Form" ["faced", "moved_by", "first", "last"] [.bl t, .int s, .tup ((trim t s true A).map enD), .tup ((trim t s false B).map enD)]]) := by
  have con : oCon [("Form", D.int 400)] "WIDEST" (.m m.length) (m ++ [.ins "Form" [] []]) = .ok (.d (.int 400)) (m ++ [.ins "Form" [] []]) := by
    unfold oCon insOf
    simp
  have la : ∀ m, oLen [.d (seqE tuA A)] m = .ok (.d (.int (A.length : Int))) m := seqE_len tuA A
  have lb : ∀ m, oLen [.d (seqE tuB B)] m = .ok (.d (.int (B.length : Int))) m := seqE_len tuB B
  have n1 : ¬ (400 : Int) < (A.length : Int) := by omega
  have n2 : ¬ (400 : Int) < (B.length : Int) := by omega
  have c1 := tup_lc tuA A 3 [some (.m m.length), some (.d (.bl t)), some (.d (.int s)), some (.d (seqE tuA A)), some (.d (seqE tuB B)), none, none, none] (m ++ [.ins "Form" [] []]) rfl (by simp) (by omega)
  have c2 := tup_lc tuB B 4 [some (.m m.length), some (.d (.bl t)), some (.d (.int s)), some (.d (seqE tuA A)), some (.d (seqE tuB B)), none, none, none] (m ++ [.ins "Form" [] []]) rfl (by simp) (by omega)
  have ap := are_parts_eq h (m ++ [.ins "Form" [] []]) (by omega) (by omega)
  obtain ⟨ρ, hρ⟩ : ∃ ρ : Env, ρ = [some (.m m.length), some (.d (.bl t)), some (.d (.int s)), some (.d (seqE tuA A)), some (.d (seqE tuB B)), some (.d (.lst (A.map enD))), some (.d (.lst (B.map enD))), none] := ⟨_, rfl⟩
  have t1 : ∀ m, m_trimmed [.d (.bl t), .d (.int s), .d (.str "top"), .d (.lst (A.map enD))] m = .ok (.d (.tup ((trim t s true A).map enD))) m := fun m => trimmed_eq t s true A m (by omega)
  have t2 : ∀ m, m_trimmed [.d (.bl t), .d (.int s), .d (.str "bottom"), .d (.lst (B.map enD))] m = .ok (.d (.tup ((trim t s false B).map enD))) m := fun m => trimmed_eq t s false B m (by omega)
  have f1 := set_last (cs := ["Form"]) (f := "faced") (c := "Form") (ns := []) (vs := []) (d := .bl t) (a := fVar 1) (o := fVar 0) (ρ := ρ) (m := m) (by rw [hρ]; simp) (by rw [hρ]; simp) (by simp) (by decide +kernel) rfl (by decide)
  have f2 := set_last (cs := ["Form"]) (f := "moved_by") (c := "Form") (ns := ["faced"]) (vs := [.bl t]) (d := .int s) (a := fVar 2) (o := fVar 0) (ρ := ρ) (m := m) (by rw [hρ]; simp) (by rw [hρ]; simp) (by simp) (by decide +kernel) rfl (by decide)
  have f3 := set_last (cs := ["Form"]) (f := "first") (c := "Form") (ns := ["faced", "moved_by"]) (vs := [.bl t, .int s]) (d := .tup ((trim t s true A).map enD)) (a := fCall m_trimmed (fCons (fVar 1) (fCons (fVar 2) (fCons (fC (.str "top")) (fCons (fVar 5) fNil))))) (o := fVar 0) (ρ := ρ) (m := m) (by rw [hρ]; simp [t1]) (by rw [hρ]; simp) (by simp) (by decide +kernel) rfl (by decide)
  have f4 := set_last (cs := ["Form"]) (f := "last") (c := "Form") (ns := ["faced", "moved_by", "first"]) (vs := [.bl t, .int s, .tup ((trim t s true A).map enD)]) (d := .tup ((trim t s false B).map enD)) (a := fCall m_trimmed (fCons (fVar 1) (fCons (fVar 2) (fCons (fC (.str "bottom")) (fCons (fVar 6) fNil))))) (o := fVar 0) (ρ := ρ) (m := m) (by rw [hρ]; simp [t2]) (by rw [hρ]; simp) (by simp) (by decide +kernel) rfl (by decide)
  simp only [List.nil_append, List.cons_append] at f1 f2 f3 f4
  rw [hρ] at f1 f2 f3 f4
  refine ⟨[some (.m m.length), some (.d (.bl t)), some (.d (.int s)), some (.d (seqE tuA A)), some (.d (seqE tuB B)), some (.d (.lst (A.map enD))), some (.d (.lst (B.map enD))), none], ?_⟩
  simp [b_Form___init__, la, lb, con, n1, n2, c1, c2, ap, truth, f1, f2, f3, f4]
theorem new_form {t : Bool} {s : Int} {A B : List En} (tuA tuB : Bool) (h : Parts t s A B) (ha : A.length ≤ 400) (hb : B.length ≤ 400) (m : Mem) : m_Form [.d (.bl t), .d (.int s), .d (seqE tuA A), .d (seqE tuB B)] m = .ok (.d (formD t s (trim t s true A) (trim t s false B))) m := by
  obtain ⟨ρ, e⟩ := init_form tuA tuB h ha hb m
  have e2 : m_Form___init__ [.m m.length, .d (.bl t), .d (.int s), .d (seqE tuA A), .d (seqE tuB B)] (m ++ [.ins "Form" [] []]) = .ok (.d .non) (m ++ [.ins "Form" ["faced", "moved_by", "first", "last"] [.bl t, .int s, .tup ((trim t s true A).map enD), .tup ((trim t s false B).map enD)]]) := by
    unfold m_Form___init__
    rw [e_fn]
    simp [e, leave_d, List.take_of_length_le]
  unfold m_Form newO
  rw [e2]
  simp [formD]
/-! ### its methods -/
section
variable (t : Bool) (s : Int) (A B : List En) (m : Mem)
@[simp] theorem f_faced : oFld ["Form"] "faced" (.d (formD t s A B)) m = .ok (.d (.bl t)) m := Eq.trans rfl rfl
@[simp] theorem f_shift : oFld ["Form"] "moved_by" (.d (formD t s A B)) m = .ok (.d (.int s)) m := by
  have h : (("moved_by" : Str) == "faced") = false := by decide +kernel
  simp [oFld, insOf, formD, List.lookup, h]
@[simp] theorem f_first : oFld ["Form"] "first" (.d (formD t s A B)) m = .ok (.d (.tup (A.map enD))) m := by
  have h : (("first" : Str) == "faced") = false := by decide +kernel
  have h1 : (("first" : Str) == "moved_by") = false := by decide +kernel
  simp [oFld, insOf, formD, List.lookup, h, h1]
@[simp] theorem f_last : oFld ["Form"] "last" (.d (formD t s A B)) m = .ok (.d (.tup (B.map enD))) m := by
  have h : (("last" : Str) == "faced") = false := by decide +kernel
  have h1 : (("last" : Str) == "moved_by") = false := by decide +kernel
  have h2 : (("last" : Str) == "first") = false := by decide +kernel
  simp [oFld, insOf, formD, List.lookup, h, h1, h2]
@[simp] theorem ins_f : insOf (.d (formD t s A B)) m = some (("Form" : Str), (["faced", "moved_by", "first", "last"] : List Str), [.bl t, .int s, .tup (A.map enD), .tup (B.map enD)]) := Eq.trans rfl rfl
end
@[simp] theorem look_f {α : Type} (a : α) : List.lookup ("Form" : Str) [("Form", a)] = some a := Eq.trans rfl rfl
theorem entry_eq (t : Bool) (s : Int) (A B : List En) (e : Bool) (d : Int) (m : Mem) (h0 : 0 ≤ d) : m_Form_entry [.d (formD t s A B), .d (.str (endS e)), .d (.int d)] m = .ok (.d (enD (look t s A B e d.toNat))) m := by
  refine e_fnr (ws := [.d (formD t s A B), .d (.str (endS e)), .d (.int d)]) _ ?_ rfl
  obtain ⟨n, rfl⟩ := Int.eq_ofNat_of_zero_le h0
  have tp := topS e m
  have ru := ruled_eq t s e (n : Int) m
  have key : ∀ T : List En, T = tab A B e → (fIf (gBool (fOp oLt (fVar 2) (fCB oLen (fCons (fVar 3) fNil)))) (fOp oIx (fVar 3) (fVar 2)) (fCall m_ruled (fCons (fUn (oFld ["Form"] "faced") (fVar 0)) (fCons (fUn (oFld ["Form"] "moved_by") (fVar 0)) (fCons (fVar 1) (fCons (fVar 2) fNil)))))) [some (.d (formD t s A B)), some (.d (.str (endS e))), some (.d (.int (n : Int))), some (.d (.tup (T.map enD)))] m = .ok (.d (enD (look t s A B e n))) m := by
    intro T hT
    by_cases hn : n < T.length
    · have ix : oIx (.d (.tup (T.map enD))) (.d (.int (n : Int))) m = .ok (.d (enD T[n])) m := ixt_ok (by rw [atI_nat, List.getElem?_map, List.getElem?_eq_getElem hn]; rfl)
      have lk : look t s A B e n = T[n] := by
        subst hT
        exact look_in hn
      simp [-oIx_t, hn, ix, lk]
    · have lk : look t s A B e n = rul t s e n := look_out (by rw [← hT]; omega)
      simp [hn, ru, lk]
  have fi : fIf (gBool (fOp oEq (fVar 1) (fC (.str "top")))) (fUn (oFld ["Form"] "first") (fVar 0)) (fUn (oFld ["Form"] "last") (fVar 0)) [some (.d (formD t s A B)), some (.d (.str (endS e))), some (.d (.int (n : Int))), none] m = .ok (.d (.tup ((tab A B e).map enD))) m := by
    cases e <;> simp [-oEq_ss, tp, tab]
  have k := key (tab A B e) rfl
  simp [-e_if, b_Form_entry, fi, k]
theorem reached_eq (t1 t2 : Bool) (s1 s2 : Int) (A1 B1 A2 B2 : List En) (m : Mem) : m_Form_reached [.d (formD t1 s1 A1 B1), .d (formD t2 s2 A2 B2)] m = .ok (.d (.tup [.int (far t1 s1 A1 B1 A2 B2).1, .int (far t1 s1 A1 B1 A2 B2).2])) m := by
  refine e_fnr (ws := [.d (formD t1 s1 A1 B1), .d (formD t2 s2 A2 B2)]) _ ?_ rfl
  have mx : ∀ a b : Int, oMax [.d (.int a), .d (.int b)] m = .ok (.d (.int (max a b))) m := fun a b => by
    rw [oMax_ii]
    congr 3
    by_cases h : a < b
    · rw [if_pos h]; omega
    · rw [if_neg h]; omega
  cases t1 <;> simp [-oMax_ii, b_Form_reached, truth, mx, far]
theorem followed_eq (t1 t2 : Bool) (s1 s2 : Int) (A1 B1 A2 B2 : List En) (h1 : Bij (look t1 s1 A1 B1)) (e : Bool) (d : Nat) (m : Mem) : m_Form_followed [.d (formD t1 s1 A1 B1), .d (formD t2 s2 A2 B2), .d (.str (endS e)), .d (.int (d : Int))] m = .ok (.d (enD (comp (look t1 s1 A1 B1) (look t2 s2 A2 B2) e d))) m := by
  refine e_fnr (ws := [.d (formD t1 s1 A1 B1), .d (formD t2 s2 A2 B2), .d (.str (endS e)), .d (.int (d : Int))]) _ ?_ rfl
  have e1 := entry_eq t1 s1 A1 B1 e (d : Int) m (by omega)
  obtain ⟨p, hp⟩ : ∃ p, p = look t1 s1 A1 B1 e d := ⟨_, rfl⟩
  have e1 : m_Form_entry [.d (formD t1 s1 A1 B1), .d (.str (endS e)), .d (.int (d : Int))] m = .ok (.d (enD p)) m := by rw [e1, hp]; simp
  have e2 := entry_eq t2 s2 A2 B2 p.1 p.2.1 m (by rw [hp]; exact h1.pos e d)
  obtain ⟨q, hq⟩ : ∃ q, q = look t2 s2 A2 B2 p.1 p.2.1.toNat := ⟨_, rfl⟩
  rw [← hq] at e2
  have i0 : ∀ p : En, oIx (.d (enD p)) (.d (.int 0)) m = .ok (.d (.str (endS p.1))) m := fun _ => rfl
  have i1 : ∀ p : En, oIx (.d (enD p)) (.d (.int 1)) m = .ok (.d (.int p.2.1)) m := fun _ => rfl
  have i2 : ∀ p : En, oIx (.d (enD p)) (.d (.int 2)) m = .ok (.d (.bl p.2.2)) m := fun _ => rfl
  have d1 : ¬ (("entry" : Str) ∈ (["faced", "moved_by", "first", "last"] : List Str)) := by decide +kernel
  have hc : comp (look t1 s1 A1 B1) (look t2 s2 A2 B2) e d = (q.1, q.2.1, !decide (p.2.2 = q.2.2)) := by unfold comp; rw [← hp, ← hq]
  rw [hc]
  simp [-List.mem_cons, -oIx_t, b_Form_followed, e1, e2, i0, i1, i2, d1]
  rfl
/-- a form: its map is one to one, its tables are normal and short -/
structure FOk (t : Bool) (s : Int) (A B : List En) (n : Nat) : Prop where
  bij : Bij (look t s A B)
  nA : trim t s true A = A
  nB : trim t s false B = B
  lA : A.length ≤ n
  lB : B.length ≤ n
theorem mulTab_len (f g : Bool → Nat → En) (e : Bool) (n : Int) : (mulTab f g e n).length = n.toNat := by simp [mulTab]
/-- the product's tables -/
def mulA (t1 t2 : Bool) (s1 s2 : Int) (A1 B1 A2 B2 : List En) : List En := trim (mulT t1 t2) (mulS t2 s1 s2) true (mulTab (look t1 s1 A1 B1) (look t2 s2 A2 B2) true (far t1 s1 A1 B1 A2 B2).1)
def mulB (t1 t2 : Bool) (s1 s2 : Int) (A1 B1 A2 B2 : List En) : List En := trim (mulT t1 t2) (mulS t2 s1 s2) false (mulTab (look t1 s1 A1 B1) (look t2 s2 A2 B2) false (far t1 s1 A1 B1 A2 B2).2)
theorem look_mulAB {t1 t2 : Bool} {s1 s2 : Int} {A1 B1 A2 B2 : List En} (h1 : Bij (look t1 s1 A1 B1)) : look (mulT t1 t2) (mulS t2 s1 s2) (mulA t1 t2 s1 s2 A1 B1 A2 B2) (mulB t1 t2 s1 s2 A1 B1 A2 B2) = comp (look t1 s1 A1 B1) (look t2 s2 A2 B2) := by
  unfold mulA mulB
  rw [look_trim, look_mul h1]
/-- a bound on the shift -/
theorem shift_le {t : Bool} {s : Int} {A B : List En} {n : Nat} (h : FOk t s A B n) : -(n : Int) ≤ s ∧ s ≤ n := by
  have p := h.bij.parts
  have p1 := p.p1
  have p2 := p.p2
  have a := h.lA
  have b := h.lB
  unfold cnts at p1 p2
  cases t <;> simp at p1 p2 <;> omega
theorem far_le {t1 : Bool} {s1 : Int} {A1 B1 A2 B2 : List En} {t2 : Bool} {s2 : Int} {n1 n2 : Nat} (h1 : FOk t1 s1 A1 B1 n1) (h2 : FOk t2 s2 A2 B2 n2) : (far t1 s1 A1 B1 A2 B2).1 ≤ n1 + n2 ∧ (far t1 s1 A1 B1 A2 B2).2 ≤ n1 + n2 := by
  have s := shift_le h1
  have a := h1.lA
  have b := h1.lB
  have c := h2.lA
  have d := h2.lB
  unfold far
  cases t1 <;> simp <;> omega
theorem FOk.mul {t1 t2 : Bool} {s1 s2 : Int} {A1 B1 A2 B2 : List En} {n1 n2 : Nat} (h1 : FOk t1 s1 A1 B1 n1) (h2 : FOk t2 s2 A2 B2 n2) : FOk (mulT t1 t2) (mulS t2 s1 s2) (mulA t1 t2 s1 s2 A1 B1 A2 B2) (mulB t1 t2 s1 s2 A1 B1 A2 B2) (n1 + n2) := by
  have f := far_le h1 h2
  refine ⟨by rw [look_mulAB h1.bij]; exact h1.bij.comp h2.bij, by unfold mulA; exact trim_trim .., by unfold mulB; exact trim_trim .., ?_, ?_⟩
  · unfold mulA
    rw [trim_len]
    have := trimN_le (mulT t1 t2) (mulS t2 s1 s2) true (mulTab (look t1 s1 A1 B1) (look t2 s2 A2 B2) true (far t1 s1 A1 B1 A2 B2).1) (mulTab (look t1 s1 A1 B1) (look t2 s2 A2 B2) true (far t1 s1 A1 B1 A2 B2).1).length
    rw [mulTab_len] at this ⊢
    omega
  · unfold mulB
    rw [trim_len]
    have := trimN_le (mulT t1 t2) (mulS t2 s1 s2) false (mulTab (look t1 s1 A1 B1) (look t2 s2 A2 B2) false (far t1 s1 A1 B1 A2 B2).2) (mulTab (look t1 s1 A1 B1) (look t2 s2 A2 B2) false (far t1 s1 A1 B1 A2 B2).2).length
    rw [mulTab_len] at this ⊢
    omega
end GD
/-! LPM: the forms of moves, in plain Lean. -/
namespace GD
open PySem PySem.Spec PyProof.Rows L2 FM
/-- f tells what F does on all piles of 2 R cards and more -/
structure Ply (f : Bool → Nat → En) (R : Nat) (F : Int → Int → Int × Bool) : Prop where
  pos : ∀ e d, 0 ≤ (f e d).2.1
  far : ∀ e d, (f e d).2.1 ≤ (d : Int) + R
  plays : ∀ (n : Int) e (d : Nat), 2 * (R : Int) ≤ n → (d : Int) + R < n → F n (pl e d n) = (pl (f e d).1 (f e d).2.1 n, (f e d).2.2)
theorem Mv.img_go {mv : Mv} {n p : Int} (h : (mv.reach : Int) ≤ n) : mv.img n p = mv.go n p := by
  unfold Mv.img
  rw [if_neg (by omega)]
theorem Mv.ends (mv : Mv) (e : Bool) (d : Nat) (hd : d < mv.reach) : ∃ (e' : Bool) (d' : Int) (c : Bool), 0 ≤ d' ∧ d' ≤ (d : Int) + mv.reach ∧ ∀ n : Int, 2 * (mv.reach : Int) ≤ n → mv.img n (pl e d n) = (pl e' d' n, c) := by
  cases mv with
  | swap t1 d1 t2 d2 =>
    simp only [Mv.reach] at hd ⊢
    by_cases h1 : e = t1 ∧ d = d1
    · refine ⟨t2, d2, false, by omega, by omega, fun n hn => ?_⟩
      obtain ⟨rfl, rfl⟩ := h1
      rw [Mv.img_go (by simp only [Mv.reach]; omega)]
      delta Mv.go; dsimp only
      rw [if_pos rfl]
    · by_cases h2 : e = t2 ∧ d = d2
      · refine ⟨t1, d1, false, by omega, by omega, fun n hn => ?_⟩
        obtain ⟨rfl, rfl⟩ := h2
        rw [Mv.img_go (by simp only [Mv.reach]; omega)]
        delta Mv.go; dsimp only
        rw [if_neg, if_pos rfl]
        unfold pl
        cases e <;> cases t1 <;> simp at * <;> omega
      · refine ⟨e, d, false, by omega, by omega, fun n hn => ?_⟩
        rw [Mv.img_go (by simp only [Mv.reach]; omega)]
        delta Mv.go; dsimp only
        rw [if_neg, if_neg]
        · unfold pl
          cases e <;> cases t2 <;> simp at * <;> omega
        · unfold pl
          cases e <;> cases t1 <;> simp at * <;> omega
  | carry t1 d1 t2 d2 =>
    simp only [Mv.reach] at hd ⊢
    by_cases h1 : e = t1 ∧ d = d1
    · refine ⟨t2, d2, false, by omega, by omega, fun n hn => ?_⟩
      obtain ⟨rfl, rfl⟩ := h1
      rw [Mv.img_go (by simp only [Mv.reach]; omega)]
      delta Mv.go carr; dsimp only
      rw [if_pos rfl]
    · have key : ∀ x : Int, 0 ≤ (d : Int) + x → x ≤ 1 → (∀ n : Int, 2 * ((max d1 d2 + 1 : Nat) : Int) ≤ n → carr (pl t1 d1 n) (pl t2 d2 n) (pl e d n) = pl e ((d : Int) + x) n) → ∃ (e' : Bool) (d' : Int) (c : Bool), 0 ≤ d' ∧ d' ≤ (d : Int) + ((max d1 d2 + 1 : Nat) : Int) ∧ ∀ n : Int, 2 * ((max d1 d2 + 1 : Nat) : Int) ≤ n → (Mv.carry t1 d1 t2 d2).img n (pl e d n) = (pl e' d' n, c) := by
        intro x h0 h2 h
        refine ⟨e, (d : Int) + x, false, h0, by omega, fun n hn => ?_⟩
        rw [Mv.img_go (by simp only [Mv.reach]; omega)]
        delta Mv.go; dsimp only
        rw [h n hn]
      cases t1 <;> cases t2
      · -- bottom to bottom
        cases e
        · by_cases a : d1 < d ∧ d ≤ d2
          · refine key (-1) (by omega) (by omega) fun n hn => ?_
            simp only [pl, carr, Bool.false_eq_true, if_false]
            simp at h1
            rw [if_neg (by omega), if_neg (by omega), if_pos (by omega)]; omega
          · by_cases b : d2 ≤ d ∧ d < d1
            · refine key 1 (by omega) (by omega) fun n hn => ?_
              simp only [pl, carr, Bool.false_eq_true, if_false]
              simp at h1
              rw [if_neg (by omega), if_pos (by omega)]; omega
            · refine key 0 (by omega) (by omega) fun n hn => ?_
              simp only [pl, carr, Bool.false_eq_true, if_false]
              simp at h1
              rw [if_neg (by omega), if_neg (by omega), if_neg (by omega)]; omega
        · refine key 0 (by omega) (by omega) fun n hn => ?_
          simp only [pl, carr, Bool.false_eq_true, if_false, if_true]
          rw [if_neg (by omega), if_neg (by omega), if_neg (by omega)]; omega
      · -- bottom to top
        cases e
        · by_cases a : d1 < d
          · refine key (-1) (by omega) (by omega) fun n hn => ?_
            simp only [pl, carr, Bool.false_eq_true, if_false, if_true]
            rw [if_neg (by omega), if_neg (by omega), if_pos (by omega)]; omega
          · refine key 0 (by omega) (by omega) fun n hn => ?_
            simp only [pl, carr, Bool.false_eq_true, if_false, if_true]
            simp at h1
            rw [if_neg (by omega), if_neg (by omega), if_neg (by omega)]; omega
        · by_cases a : d2 ≤ d
          · refine key 1 (by omega) (by omega) fun n hn => ?_
            simp only [pl, carr, Bool.false_eq_true, if_false, if_true]
            rw [if_neg (by omega), if_neg (by omega), if_pos (by omega)]
          · refine key 0 (by omega) (by omega) fun n hn => ?_
            simp only [pl, carr, Bool.false_eq_true, if_false, if_true]
            rw [if_neg (by omega), if_neg (by omega), if_neg (by omega)]; omega
      · -- top to bottom
        cases e
        · by_cases a : d2 ≤ d
          · refine key 1 (by omega) (by omega) fun n hn => ?_
            simp only [pl, carr, Bool.false_eq_true, if_false, if_true]
            rw [if_neg (by omega), if_pos (by omega)]; omega
          · refine key 0 (by omega) (by omega) fun n hn => ?_
            simp only [pl, carr, Bool.false_eq_true, if_false, if_true]
            rw [if_neg (by omega), if_neg (by omega), if_neg (by omega)]; omega
        · by_cases a : d1 < d
          · refine key (-1) (by omega) (by omega) fun n hn => ?_
            simp only [pl, carr, Bool.false_eq_true, if_false, if_true]
            rw [if_neg (by omega), if_pos (by omega)]; omega
          · refine key 0 (by omega) (by omega) fun n hn => ?_
            simp only [pl, carr, Bool.false_eq_true, if_false, if_true]
            simp at h1
            rw [if_neg (by omega), if_neg (by omega), if_neg (by omega)]; omega
      · -- top to top
        cases e
        · refine key 0 (by omega) (by omega) fun n hn => ?_
          simp only [pl, carr, Bool.false_eq_true, if_false, if_true]
          rw [if_neg (by omega), if_neg (by omega), if_neg (by omega)]; omega
        · by_cases a : d1 < d ∧ d ≤ d2
          · refine key (-1) (by omega) (by omega) fun n hn => ?_
            simp only [pl, carr, Bool.false_eq_true, if_false, if_true]
            simp at h1
            rw [if_neg (by omega), if_pos (by omega)]; omega
          · by_cases b : d2 ≤ d ∧ d < d1
            · refine key 1 (by omega) (by omega) fun n hn => ?_
              simp only [pl, carr, Bool.false_eq_true, if_false, if_true]
              simp at h1
              rw [if_neg (by omega), if_neg (by omega), if_pos (by omega)]
            · refine key 0 (by omega) (by omega) fun n hn => ?_
              simp only [pl, carr, Bool.false_eq_true, if_false, if_true]
              simp at h1
              rw [if_neg (by omega), if_neg (by omega), if_neg (by omega)]; omega
  | cut k =>
    simp only [Mv.reach] at hd ⊢
    have md : ∀ {p n q : Int}, 0 ≤ q → q < n → (p = q ∨ p = q - n ∨ p = q + n) → p % n = q := by
      intro p n q h0 h1 h
      rcases h with h | h | h
      · rw [h, Int.emod_eq_of_lt h0 h1]
      · rw [h, Int.sub_emod_right, Int.emod_eq_of_lt h0 h1]
      · rw [h, Int.add_emod_right, Int.emod_eq_of_lt h0 h1]
    by_cases c : (e = true ∧ (d : Int) < k) ∨ (e = false ∧ (d : Int) < -k)
    · refine ⟨!e, (k.natAbs : Int) - 1 - d, false, by omega, by omega, fun n hn => ?_⟩
      rw [Mv.img_go (by simp only [Mv.reach]; omega)]
      delta Mv.go; dsimp only
      rw [Prod.mk.injEq]
      refine ⟨md ?_ ?_ ?_, rfl⟩ <;> unfold pl <;> cases e <;> simp at * <;> omega
    · cases e
      · refine ⟨false, (d : Int) + k, false, by simp at c; omega, by omega, fun n hn => ?_⟩
        rw [Mv.img_go (by simp only [Mv.reach]; omega)]
        delta Mv.go; dsimp only
        rw [Prod.mk.injEq]
        refine ⟨md ?_ ?_ ?_, rfl⟩ <;> unfold pl <;> simp at * <;> omega
      · refine ⟨true, (d : Int) - k, false, by simp at c; omega, by omega, fun n hn => ?_⟩
        rw [Mv.img_go (by simp only [Mv.reach]; omega)]
        delta Mv.go; dsimp only
        rw [Prod.mk.injEq]
        refine ⟨md ?_ ?_ ?_, rfl⟩ <;> unfold pl <;> simp at * <;> omega
  | turn t m =>
    simp only [Mv.reach] at hd ⊢
    by_cases h : e = t
    · subst h
      refine ⟨e, (m : Int) - 1 - d, true, by omega, by omega, fun n hn => ?_⟩
      rw [Mv.img_go (by simp only [Mv.reach]; omega)]
      delta Mv.go; dsimp only; rw [pl_pl]
      rw [if_pos (by omega)]
    · refine ⟨e, d, false, by omega, by omega, fun n hn => ?_⟩
      rw [Mv.img_go (by simp only [Mv.reach]; omega)]
      delta Mv.go; dsimp only
      rw [if_neg]
      unfold pl
      cases e <;> cases t <;> simp at * <;> omega
  | over => simp [Mv.reach] at hd
  | face t d1 =>
    simp only [Mv.reach] at hd ⊢
    by_cases h : e = t ∧ d = d1
    · obtain ⟨rfl, rfl⟩ := h
      refine ⟨e, d, true, by omega, by omega, fun n hn => ?_⟩
      rw [Mv.img_go (by simp only [Mv.reach]; omega)]
      delta Mv.go; dsimp only
      skip
      simp
    · refine ⟨e, d, false, by omega, by omega, fun n hn => ?_⟩
      rw [Mv.img_go (by simp only [Mv.reach]; omega)]
      delta Mv.go; dsimp only
      rw [Prod.mk.injEq]
      refine ⟨rfl, decide_eq_false ?_⟩
      unfold pl
      cases e <;> cases t <;> simp at * <;> omega
theorem Mv.mid (mv : Mv) : ∃ (t : Bool) (s : Int), s.natAbs ≤ mv.reach ∧ ∀ n p : Int, 2 * (mv.reach : Int) ≤ n → (mv.reach : Int) ≤ p → p + mv.reach < n → mv.img n p = (if t then n - 1 - p + s else p + s, t) := by
  cases mv with
  | swap t1 d1 t2 d2 =>
    refine ⟨false, 0, by simp, fun n p h1 h2 h3 => ?_⟩
    simp only [Mv.reach] at h1 h2 h3
    rw [Mv.img_go (by simp only [Mv.reach]; omega)]
    delta Mv.go; dsimp only
    rw [if_neg, if_neg]
    · simp
    · unfold pl; cases t2 <;> simp <;> omega
    · unfold pl; cases t1 <;> simp <;> omega
  | carry t1 d1 t2 d2 =>
    refine ⟨false, if t1 = t2 then 0 else if t1 then -1 else 1, ?_, fun n p h1 h2 h3 => ?_⟩
    · simp only [Mv.reach]
      split
      · simp
      · split <;> omega
    · simp only [Mv.reach] at h1 h2 h3
      rw [Mv.img_go (by simp only [Mv.reach]; omega)]
      simp only [Mv.go, carr, pl]
      cases t1 <;> cases t2 <;> simp only [Bool.false_eq_true, reduceCtorEq, if_false, if_true, Prod.mk.injEq, and_true]
      · rw [if_neg (by omega), if_neg (by omega), if_neg (by omega)]; omega
      · rw [if_neg (by omega), if_neg (by omega), if_pos (by omega)]
      · rw [if_neg (by omega), if_pos (by omega)]; omega
      · rw [if_neg (by omega), if_neg (by omega), if_neg (by omega)]; omega
  | cut k =>
    refine ⟨false, -k, by simp [Mv.reach], fun n p h1 h2 h3 => ?_⟩
    simp only [Mv.reach] at h1 h2 h3
    rw [Mv.img_go (by simp only [Mv.reach]; omega)]
    delta Mv.go; dsimp only
    rw [Prod.mk.injEq]
    refine ⟨?_, rfl⟩
    rw [Int.emod_eq_of_lt (by omega) (by omega)]
    simp
    omega
  | turn t m =>
    refine ⟨false, 0, by simp, fun n p h1 h2 h3 => ?_⟩
    simp only [Mv.reach] at h1 h2 h3
    rw [Mv.img_go (by simp only [Mv.reach]; omega)]
    delta Mv.go; dsimp only
    rw [if_neg]
    · simp
    · unfold pl; cases t <;> simp <;> omega
  | over =>
    refine ⟨true, 0, by simp, fun n p h1 h2 h3 => ?_⟩
    simp only [Mv.reach] at h1 h2 h3
    rw [Mv.img_go (by simp only [Mv.reach]; omega)]
    delta Mv.go; dsimp only
    skip
    simp
  | face t d =>
    refine ⟨false, 0, by simp, fun n p h1 h2 h3 => ?_⟩
    simp only [Mv.reach] at h1 h2 h3
    rw [Mv.img_go (by simp only [Mv.reach]; omega)]
    delta Mv.go; dsimp only
    rw [Prod.mk.injEq]
    refine ⟨by simp, decide_eq_false ?_⟩
    unfold pl; cases t <;> simp <;> omega
/-! ### what the program reads off -/
def entAt (mv : Mv) (n p : Int) : En := if (mv.img n p).1 < n / 2 then (true, (mv.img n p).1, (mv.img n p).2) else (false, n - 1 - (mv.img n p).1, (mv.img n p).2)
def Mv.N (mv : Mv) : Int := 4 * (mv.reach : Int) + 3
def Mv.ft (mv : Mv) : Bool := (mv.img mv.N (2 * (mv.reach : Int) + 1)).2
def Mv.fs (mv : Mv) : Int := (mv.img mv.N (2 * (mv.reach : Int) + 1)).1 - (2 * (mv.reach : Int) + 1)
def Mv.fA (mv : Mv) : List En := (List.range mv.reach).map fun d : Nat => entAt mv mv.N (d : Int)
def Mv.fB (mv : Mv) : List En := (List.range mv.reach).map fun d : Nat => entAt mv mv.N (mv.N - 1 - (d : Int))
def Mv.f (mv : Mv) : Bool → Nat → En := look mv.ft mv.fs mv.fA mv.fB
theorem Mv.fs_le (mv : Mv) : mv.fs.natAbs ≤ mv.reach ∧ ∀ n p : Int, 2 * (mv.reach : Int) ≤ n → (mv.reach : Int) ≤ p → p + mv.reach < n → mv.img n p = (if mv.ft then n - 1 - p + mv.fs else p + mv.fs, mv.ft) := by
  obtain ⟨t, s, h1, h2⟩ := mv.mid
  have h := h2 mv.N (2 * (mv.reach : Int) + 1) (by unfold Mv.N; omega) (by omega) (by unfold Mv.N; omega)
  have e1 : mv.ft = t := by unfold Mv.ft; rw [h]
  have e2 : mv.fs = s := by
    unfold Mv.fs
    rw [h]
    unfold Mv.N
    cases t <;> simp <;> omega
  rw [e1, e2]
  exact ⟨h1, h2⟩
theorem ent_eq {mv : Mv} {e e' : Bool} {d : Nat} {d' : Int} {c : Bool} (h1 : 0 ≤ d') (h2 : d' ≤ 2 * (mv.reach : Int)) (h : mv.img mv.N (pl e d mv.N) = (pl e' d' mv.N, c)) : entAt mv mv.N (pl e d mv.N) = (e', d', c) := by
  unfold entAt
  rw [h]
  have hN : mv.N / 2 = 2 * (mv.reach : Int) + 1 := by unfold Mv.N; omega
  rw [hN]
  unfold pl Mv.N
  cases e' <;> simp
  · rw [if_neg (by omega)]
    simp
    omega
  · omega
theorem Mv.f_near (mv : Mv) (e : Bool) (d : Nat) (hd : d < mv.reach) : mv.f e d = entAt mv mv.N (pl e d mv.N) := by
  unfold Mv.f
  have hl : d < (tab mv.fA mv.fB e).length := by unfold tab Mv.fA Mv.fB; cases e <;> simp [hd]
  rw [look_in hl]
  cases e <;> simp [tab, Mv.fA, Mv.fB, pl]
theorem Mv.f_out (mv : Mv) (e : Bool) (d : Nat) (hd : mv.reach ≤ d) : mv.f e d = rul mv.ft mv.fs e d := look_out (by unfold tab Mv.fA Mv.fB; cases e <;> simp [hd])
theorem Mv.pl (mv : Mv) : Ply mv.f mv.reach mv.img := by
  have near : ∀ e (d : Nat), d < mv.reach → 0 ≤ (mv.f e d).2.1 ∧ (mv.f e d).2.1 ≤ (d : Int) + mv.reach ∧ ∀ n : Int, 2 * (mv.reach : Int) ≤ n → mv.img n (GD.pl e d n) = (GD.pl (mv.f e d).1 (mv.f e d).2.1 n, (mv.f e d).2.2) := by
    intro e d hd
    obtain ⟨e', d', c, h1, h2, h3⟩ := mv.ends e d hd
    have := ent_eq (e := e) (d := d) h1 (by omega) (h3 mv.N (by unfold Mv.N; omega))
    rw [mv.f_near e d hd, this]
    exact ⟨h1, h2, h3⟩
  obtain ⟨hs, hm⟩ := mv.fs_le
  refine ⟨fun e d => ?_, fun e d => ?_, fun n e d hn hd => ?_⟩
  · by_cases h : d < mv.reach
    · exact (near e d h).1
    · rw [mv.f_out e d (by omega)]
      unfold rul
      cases mv.ft <;> cases e <;> simp <;> omega
  · by_cases h : d < mv.reach
    · exact (near e d h).2.1
    · rw [mv.f_out e d (by omega)]
      unfold rul
      cases mv.ft <;> cases e <;> simp <;> omega
  · by_cases h : d < mv.reach
    · exact (near e d h).2.2 n hn
    · rw [mv.f_out e d (by omega), hm n _ hn (by unfold GD.pl; cases e <;> simp <;> omega) (by unfold GD.pl; cases e <;> simp <;> omega)]
      unfold rul GD.pl
      cases mv.ft <;> cases e <;> simp <;> omega
/-- a play that is one to one at each size has a map that is one to one -/
theorem Ply.bij {f : Bool → Nat → En} {R : Nat} {F : Int → Int → Int × Bool} (h : Ply f R F) (inj : ∀ n p q : Int, 0 ≤ p → p < n → 0 ≤ q → q < n → (F n p).1 = (F n q).1 → p = q) (sur : ∀ n q : Int, 0 ≤ q → q < n → ∃ p, 0 ≤ p ∧ p < n ∧ (F n p).1 = q) : Bij f := by
  refine ⟨h.pos, fun e d e' d' q => ?_, fun g m => ?_⟩
  · have q1 : (goal (f e d)).1 = (goal (f e' d')).1 := congrArg Prod.fst q
    have q2 : (goal (f e d)).2 = (goal (f e' d')).2 := congrArg Prod.snd q
    dsimp only [goal] at q1 q2
    have hn1 := h.plays (2 * (R : Int) + d + d' + 2) e d (by omega) (by omega)
    have hn2 := h.plays (2 * (R : Int) + d + d' + 2) e' d' (by omega) (by omega)
    have z := inj (2 * (R : Int) + d + d' + 2) (pl e d (2 * (R : Int) + d + d' + 2)) (pl e' d' (2 * (R : Int) + d + d' + 2)) (pl_rng (by omega) (by omega)).1 (pl_rng (by omega) (by omega)).2 (pl_rng (by omega) (by omega)).1 (pl_rng (by omega) (by omega)).2 (by rw [hn1, hn2, q1, q2])
    unfold pl at z
    cases e <;> cases e' <;> simp at z ⊢ <;> omega
  · obtain ⟨p, h0, h1, h2⟩ := sur (4 * (R : Int) + 2 * m + 8) (pl g m (4 * (R : Int) + 2 * m + 8)) (pl_rng (by omega) (by omega)).1 (pl_rng (by omega) (by omega)).2
    obtain ⟨e, d, hd, e1⟩ : ∃ (e : Bool) (d : Nat), (d : Int) ≤ 2 * R + m + 4 ∧ p = pl e d (4 * (R : Int) + 2 * m + 8) := by
      by_cases hp : p ≤ 2 * R + m + 4
      · exact ⟨true, p.toNat, by omega, by unfold pl; simp; omega⟩
      · exact ⟨false, (4 * (R : Int) + 2 * m + 8 - 1 - p).toNat, by omega, by unfold pl; simp; omega⟩
    refine ⟨e, d, ?_⟩
    have z := h.plays (4 * (R : Int) + 2 * m + 8) e d (by omega) (by omega)
    rw [← e1] at z
    rw [z] at h2
    have b1 := h.far e d
    have b0 := h.pos e d
    have h2 : pl (f e d).1 (f e d).2.1 (4 * (R : Int) + 2 * m + 8) = pl g m (4 * (R : Int) + 2 * m + 8) := h2
    show ((f e d).1, (f e d).2.1) = _
    generalize (f e d).1 = x at *
    generalize (f e d).2.1 = y at *
    unfold pl at h2
    cases x <;> cases g <;> simp at h2 ⊢ <;> omega
theorem Mv.bijf (mv : Mv) : Bij mv.f := mv.pl.bij (fun n p q h0 h1 h2 h3 e => by
    have a := (mv.img_ok h0 h1).2
    have b := (mv.img_ok h2 h3).2
    rw [e] at a
    have := a.symm.trans b
    exact congrArg Prod.fst this) (fun n q h0 h1 => ⟨(mv.inv n q).1, (mv.inv_ok h0 h1).1.1, (mv.inv_ok h0 h1).1.2, by rw [(mv.inv_ok h0 h1).2]⟩)
/-- one play and then another -/
theorem Ply.comp {f g : Bool → Nat → En} {R S : Nat} {F G : Int → Int → Int × Bool} (h : Ply f R F) (k : Ply g S G) : Ply (comp f g) (R + S) (fun n p => ((G n (F n p).1).1, !decide ((F n p).2 = (G n (F n p).1).2))) := by
  refine ⟨fun e d => k.pos _ _, fun e d => ?_, fun n e d hn hd => ?_⟩
  · have a := h.far e d
    have a0 := h.pos e d
    have b := k.far (f e d).1 (f e d).2.1.toNat
    show (g (f e d).1 (f e d).2.1.toNat).2.1 ≤ _
    omega
  · have a := h.far e d
    have a0 := h.pos e d
    have z := h.plays n e d (by omega) (by omega)
    have y := k.plays n (f e d).1 (f e d).2.1.toNat (by omega) (by omega)
    have c : (((f e d).2.1.toNat : Nat) : Int) = (f e d).2.1 := by omega
    rw [c] at y
    show (_, _) = _
    rw [z, y]
    rfl
end GD
namespace GD
open PySem PySem.Spec PyProof.Rows L2
noncomputable section
def b_Form_still : Ex :=
    (sRet (fCall m_Form (fCons (fC (.bl false)) (fCons (fC (.int 0)) (fCons (fLst fNil) (fCons (fLst fNil) fNil))))))
def m_Form_still : Fn := fnOf false 0 0 b_Form_still
def b_end_entry : Ex :=
    (sSeq (sAsg (fCall m_moved (fCons (fVar 0) (fCons (fVar 1) (fCons (fVar 2) fNil)))) (tgUn 2 (tgCons (tgName 3) (tgCons (tgName 4) tgNil))))
    (sSeq (sIf (gBool (fOp oLt (fVar 3) (fOp oDiv (fVar 1) (fC (.int 2)))))
    (sRet (fTup (fCons (fC (.str "top")) (fCons (fVar 3) (fCons (fVar 4) fNil)))))
    sNext)
    (sRet (fTup (fCons (fC (.str "bottom")) (fCons (fOp oSub (fOp oSub (fVar 1) (fC (.int 1))) (fVar 3)) (fCons (fVar 4) fNil)))))))
def m_end_entry : Fn := fnOf false 3 5 b_end_entry
def b_move_parts : Ex :=
    (sSeq (sAsg (fCall m_depth_of (fCons (fVar 0) fNil)) (tgName 1))
    (sSeq (sAsg (fOp oAdd (fOp oMul (fC (.int 4)) (fVar 1)) (fC (.int 3))) (tgName 2))
    (sSeq (sAsg (fCall m_moved (fCons (fVar 0) (fCons (fVar 2) (fCons (fOp oAdd (fOp oMul (fC (.int 2)) (fVar 1)) (fC (.int 1))) fNil)))) (tgUn 2 (tgCons (tgName 3) (tgCons (tgName 4) tgNil))))
    (sSeq (sAsg (fOp oSub (fVar 3) (fOp oAdd (fOp oMul (fC (.int 2)) (fVar 1)) (fC (.int 1)))) (tgName 5))
    (sSeq (sAsg (fLc (iRange1 (fCons (fVar 1) fNil)) (tgName 8) gYes (fCall m_end_entry (fCons (fVar 0) (fCons (fVar 2) (fCons (fVar 8) fNil)))) [8]) (tgName 6))
    (sSeq (sAsg (fLc (iRange1 (fCons (fVar 1) fNil)) (tgName 8) gYes (fCall m_end_entry (fCons (fVar 0) (fCons (fVar 2) (fCons (fOp oSub (fOp oSub (fVar 2) (fC (.int 1))) (fVar 8)) fNil)))) [8]) (tgName 7))
    (sRet (fTup (fCons (fVar 4) (fCons (fVar 5) (fCons (fVar 6) (fCons (fVar 7) fNil))))))))))))
def m_move_parts : Fn := fnOf false 1 9 b_move_parts
def L1_Form_of : Ex :=
    (sIf (gNot (gTest (fCall m_is_move (fCons (fVar 3) fNil))))
    (sRaise "BadMove" "at" (fVar 2))
    sNext)
def L2_Form_of : Ex :=
    (sSeq (sAsg (fCall m_move_parts (fCons (fVar 3) fNil)) (tgUn 4 (tgCons (tgName 5) (tgCons (tgName 6) (tgCons (tgName 7) (tgCons (tgName 8) tgNil))))))
    (sAsg (fOp (oOwn [("Form", m_Form___mul__)]) (fVar 4) (fCall m_Form (fCons (fVar 5) (fCons (fVar 6) (fCons (fVar 7) (fCons (fVar 8) fNil)))))) (tgName 4)))
def b_Form_of : Ex :=
    (sSeq (sFor (iEnumA (fCons (fVar 1) fNil)) (tgUn 2 (tgCons (tgName 2) (tgCons (tgName 3) tgNil)))
    L1_Form_of)
    (sSeq (sAsg (fCMeth false [("Form", m_Form_still)] (fVar 0) fNil) (tgName 4))
    (sSeq (sFor (iSeq (fVar 1)) (tgName 3)
    L2_Form_of)
    (sRet (fVar 4)))))
def m_Form_of : Fn := fnOf false 2 9 b_Form_of
def b_Form_parts : Ex :=
    (sRet (fTup (fCons (fUn (oFld ["Form"] "faced") (fVar 0)) (fCons (fUn (oFld ["Form"] "moved_by") (fVar 0)) (fCons (fUn (oFld ["Form"] "first") (fVar 0)) (fCons (fUn (oFld ["Form"] "last") (fVar 0)) fNil))))))
def m_Form_parts : Fn := fnOf false 1 1 b_Form_parts
def b_Form___eq__ : Ex :=
    (sRet (fAnd (fCB (oIsiC "Form") (fCons (fVar 1) (fCons (fC (.gl "Form")) fNil))) (fOp oEq (fMeth [("Form", m_Form_parts)] "parts" (fVar 0) fNil) (fMeth [("Form", m_Form_parts)] "parts" (fVar 1) fNil))))
def m_Form___eq__ : Fn := fnOf false 2 2 b_Form___eq__
end
open FM
/-! ### forms as wholes -/
structure Fm where
  t : Bool
  s : Int
  A : List En
  B : List En
deriving DecidableEq
def Fm.D (F : Fm) : GD.D := formD F.t F.s F.A F.B
def Fm.f (F : Fm) : Bool → Nat → En := look F.t F.s F.A F.B
def Fm.mul (F G : Fm) : Fm := ⟨mulT F.t G.t, mulS G.t F.s G.s, mulA F.t G.t F.s G.s F.A F.B G.A G.B, mulB F.t G.t F.s G.s F.A F.B G.A G.B⟩
def Fm.one : Fm := ⟨false, 0, [], []⟩
def Fm.Ok (F : Fm) (n : Nat) : Prop := FOk F.t F.s F.A F.B n
def Fm.of (t : Bool) (s : Int) (A B : List En) : Fm := ⟨t, s, trim t s true A, trim t s false B⟩
def Mv.fm (mv : Mv) : Fm := Fm.of mv.ft mv.fs mv.fA mv.fB
def fmOf (mvs : List Mv) : Fm := mvs.foldl (fun a mv => a.mul mv.fm) Fm.one
@[simp] theorem ins_F (F : Fm) (m : Mem) : insOf (.d F.D) m = some (("Form" : Str), (["faced", "moved_by", "first", "last"] : List Str), [.bl F.t, .int F.s, .tup (F.A.map enD), .tup (F.B.map enD)]) := Eq.trans rfl rfl
theorem Fm.of_f (t : Bool) (s : Int) (A B : List En) : (Fm.of t s A B).f = look t s A B := look_trim t s A B
theorem Fm.of_ok {t : Bool} {s : Int} {A B : List En} {n : Nat} (h : Bij (look t s A B)) (ha : A.length ≤ n) (hb : B.length ≤ n) : (Fm.of t s A B).Ok n := by
  refine ⟨?_, trim_trim .., trim_trim .., ?_, ?_⟩
  · show Bij (Fm.of t s A B).f
    rw [Fm.of_f]; exact h
  · show (trim _ _ _ _).length ≤ n
    rw [trim_len]
    have := trimN_le t s true A A.length
    omega
  · show (trim _ _ _ _).length ≤ n
    rw [trim_len]
    have := trimN_le t s false B B.length
    omega
theorem Fm.mul_ok {F G : Fm} {n k : Nat} (h : F.Ok n) (g : G.Ok k) : (F.mul G).Ok (n + k) := FOk.mul h g
theorem Fm.mul_f {F G : Fm} {n : Nat} (h : F.Ok n) : (F.mul G).f = comp F.f G.f := look_mulAB h.bij
theorem Fm.Ok.le {F : Fm} {n k : Nat} (h : F.Ok n) (hk : n ≤ k) : F.Ok k := ⟨h.bij, h.nA, h.nB, Nat.le_trans h.lA hk, Nat.le_trans h.lB hk⟩
theorem Fm.one_f (e : Bool) (d : Nat) : Fm.one.f e d = (e, (d : Int), false) := by
  unfold Fm.f Fm.one look rul tab
  cases e <;> simp
theorem Fm.one_ok : Fm.one.Ok 0 := by
  refine ⟨?_, rfl, rfl, Nat.le_refl 0, Nat.le_refl 0⟩
  show Bij Fm.one.f
  refine ⟨fun e d => ?_, fun e d e' d' h => ?_, fun g n => ⟨g, n, ?_⟩⟩
  · rw [Fm.one_f]; exact Int.natCast_nonneg d
  · rw [Fm.one_f, Fm.one_f] at h
    have h : ((e, (d : Int)) : Bool × Int) = (e', (d' : Int)) := h
    obtain ⟨a, b⟩ := Prod.mk.inj h
    exact ⟨a, by omega⟩
  · rw [Fm.one_f]
theorem Fm.ext' {F G : Fm} {n k : Nat} (h : F.Ok n) (g : G.Ok k) (ht : F.t = G.t) (hs : F.s = G.s) (hf : F.f = G.f) : F = G := by
  obtain ⟨t, s, A, B⟩ := F
  obtain ⟨t', s', A', B'⟩ := G
  dsimp only at ht hs
  subst ht hs
  have e1 : A = A' := by
    have a : trim t s true A = A := h.nA
    have b : trim t s true A' = A' := g.nA
    rw [← a, ← b]
    exact trim_ext fun d => congrFun (congrFun hf true) d
  have e2 : B = B' := by
    have a : trim t s false B = B := h.nB
    have b : trim t s false B' = B' := g.nB
    rw [← a, ← b]
    exact trim_ext fun d => congrFun (congrFun hf false) d
  rw [e1, e2]
theorem comp_assoc (f g h : Bool → Nat → En) : comp (comp f g) h = comp f (comp g h) := by
  funext e d
  unfold FM.comp
  simp only
  congr 2
  generalize (f e d).2.2 = a
  generalize (g (f e d).1 (f e d).2.1.toNat).2.2 = b
  generalize (h _ _).2.2 = c
  cases a <;> cases b <;> cases c <;> rfl
theorem Fm.assoc {F G H : Fm} {n k l : Nat} (hF : F.Ok n) (hG : G.Ok k) (hH : H.Ok l) : (F.mul G).mul H = F.mul (G.mul H) := by
  refine Fm.ext' (Fm.mul_ok (Fm.mul_ok hF hG) hH) (Fm.mul_ok hF (Fm.mul_ok hG hH)) ?_ ?_ ?_
  · show mulT (mulT F.t G.t) H.t = mulT F.t (mulT G.t H.t)
    cases F.t <;> cases G.t <;> cases H.t <;> rfl
  · show mulS H.t (mulS G.t F.s G.s) H.s = mulS (mulT G.t H.t) F.s (mulS H.t G.s H.s)
    unfold mulS mulT
    cases G.t <;> cases H.t <;> simp <;> omega
  · rw [Fm.mul_f (Fm.mul_ok hF hG), Fm.mul_f hF, Fm.mul_f hF, Fm.mul_f hG, comp_assoc]
theorem Fm.mul_one {F : Fm} {n : Nat} (h : F.Ok n) : F.mul Fm.one = F := by
  refine Fm.ext' (Fm.mul_ok h Fm.one_ok) h ?_ ?_ ?_
  · show mulT F.t false = F.t
    cases F.t <;> rfl
  · show mulS false F.s 0 = F.s
    simp [mulS]
  · rw [Fm.mul_f h]
    funext e d
    have p : 0 ≤ (F.f e d).2.1 := h.bij.pos e d
    unfold FM.comp
    rw [Fm.one_f]
    have : (((F.f e d).2.1.toNat : Nat) : Int) = (F.f e d).2.1 := by omega
    rw [this]
    refine Prod.ext rfl (Prod.ext rfl ?_)
    show (!decide ((F.f e d).2.2 = false)) = (F.f e d).2.2
    cases (F.f e d).2.2 <;> rfl
theorem Fm.one_mul {F : Fm} {n : Nat} (h : F.Ok n) : Fm.one.mul F = F := by
  refine Fm.ext' (Fm.mul_ok Fm.one_ok h) h ?_ ?_ ?_
  · show mulT false F.t = F.t
    cases F.t <;> rfl
  · show mulS F.t 0 F.s = F.s
    unfold mulS
    cases F.t <;> simp
  · rw [Fm.mul_f Fm.one_ok]
    funext e d
    unfold FM.comp
    rw [Fm.one_f]
    refine Prod.ext rfl (Prod.ext rfl ?_)
    show (!decide (false = (F.f e d).2.2)) = (F.f e d).2.2
    cases (F.f e d).2.2 <;> rfl
theorem Mv.fm_ok (mv : Mv) : mv.fm.Ok mv.reach := Fm.of_ok mv.bijf (by simp [Mv.fA]) (by simp [Mv.fB])
theorem Mv.fm_f (mv : Mv) : mv.fm.f = mv.f := Fm.of_f ..
theorem fmOf_snoc (mvs : List Mv) (mv : Mv) : fmOf (mvs ++ [mv]) = (fmOf mvs).mul mv.fm := by simp [fmOf]
theorem reaches_snoc (mvs : List Mv) (mv : Mv) : reaches (mvs ++ [mv]) = reaches mvs + mv.reach := by simp [reaches]
theorem list_snoc {P : List Mv → Prop} (h0 : P []) (h1 : ∀ l x, P l → P (l ++ [x])) (l : List Mv) : P l := by
  have : ∀ k : List Mv, P k.reverse := by
    intro k
    induction k with
    | nil => exact h0
    | cons x k ih => rw [List.reverse_cons]; exact h1 _ x ih
  have z := this l.reverse
  rwa [List.reverse_reverse] at z
theorem fmOf_ok (mvs : List Mv) : (fmOf mvs).Ok (reaches mvs) := by
  refine list_snoc (P := fun mvs => (fmOf mvs).Ok (reaches mvs)) Fm.one_ok (fun l x ih => ?_) mvs
  rw [fmOf_snoc, reaches_snoc]
  exact Fm.mul_ok ih x.fm_ok
theorem fmOf_pl (mvs : List Mv) : Ply (fmOf mvs).f (reaches mvs) (fun n p => sentF n mvs (p, false)) := by
  refine list_snoc (P := fun mvs => Ply (fmOf mvs).f (reaches mvs) (fun n p => sentF n mvs (p, false))) ?_ (fun l x ih => ?_) mvs
  · refine ⟨fun e d => ?_, fun e d => ?_, fun n e d h1 h2 => ?_⟩
    · show 0 ≤ (Fm.one.f e d).2.1
      rw [Fm.one_f]; exact Int.natCast_nonneg d
    · show (Fm.one.f e d).2.1 ≤ _
      rw [Fm.one_f]; show (d : Int) ≤ _; omega
    · show (pl e d n, false) = (pl (Fm.one.f e d).1 (Fm.one.f e d).2.1 n, (Fm.one.f e d).2.2)
      rw [Fm.one_f]
  · have z := ih.comp x.pl
    rw [fmOf_snoc, reaches_snoc, Fm.mul_f (fmOf_ok l), x.fm_f]
    have e : (fun n p => sentF n (l ++ [x]) (p, false)) = fun n p => ((x.img n (sentF n l (p, false)).1).1, !decide ((sentF n l (p, false)).2 = (x.img n (sentF n l (p, false)).1).2)) := by
      funext n p
      rw [sentF_append]
      rfl
    rw [e]
    exact z
theorem fmOf_append (a b : List Mv) : (fmOf a).mul (fmOf b) = fmOf (a ++ b) := by
  refine list_snoc (P := fun b => (fmOf a).mul (fmOf b) = fmOf (a ++ b)) ?_ (fun l x ih => ?_) b
  · rw [List.append_nil]; exact Fm.mul_one (fmOf_ok a)
  · rw [fmOf_snoc, ← List.append_assoc, fmOf_snoc, ← ih, Fm.assoc (fmOf_ok a) (fmOf_ok l) x.fm_ok]
/-! ### Form.still, Form.of, == -/
theorem still_eq (m : Mem) : m_Form_still [] m = .ok (.d Fm.one.D) m := by
  refine e_fnr (ws := []) _ ?_ rfl
  have h := new_form (t := false) (s := 0) (A := []) (B := []) false false Fm.one_ok.bij.parts (by simp) (by simp) m
  have h : m_Form [.d (.bl false), .d (.int 0), .d (.lst []), .d (.lst [])] m = .ok (.d Fm.one.D) m := h
  simp [b_Form_still, h]
theorem end_entry_eq (mv : Mv) (n p : Int) (m : Mem) (h0 : 0 < n) : m_end_entry [.d mv.D, .d (.int n), .d (.int p)] m = .ok (.d (enD (entAt mv n p))) m := by
  refine e_fnr (ws := [.d mv.D, .d (.int n), .d (.int p)]) _ ?_ rfl
  have e := moved_eq mv n p m h0
  have s2 : small 2 = true := by decide +kernel
  unfold entAt
  by_cases h : (mv.img n p).1 < n / 2
  · rw [if_pos h]
    simp [b_end_entry, e, gD, h, s2]
    rfl
  · rw [if_neg h]
    simp [b_end_entry, e, gD, h, s2]
    rfl
theorem move_parts_eq (mv : Mv) (m : Mem) (hr : mv.reach ≤ 1000) : m_move_parts [.d mv.D] m = .ok (.d (.tup [.bl mv.ft, .int mv.fs, .lst (mv.fA.map enD), .lst (mv.fB.map enD)])) m := by
  refine e_fnr (ws := [.d mv.D]) _ ?_ rfl
  have e1 := depth_of_eq mv m
  have hN : 0 < mv.N := by unfold Mv.N; omega
  have e2 := moved_eq mv mv.N (2 * (mv.reach : Int) + 1) m hN
  have eN : 4 * (mv.reach : Int) + 3 = mv.N := rfl
  have lc : ∀ (g : Nat → Int) (a : Ev) (ρ : Env), ρ[0]? = some (some (.d mv.D)) → ρ[1]? = some (some (.d (.int (mv.reach : Int)))) → ρ[2]? = some (some (.d (.int mv.N))) → 8 < ρ.length → (∀ (k : Nat), a ((wipeE ρ [8]).set 8 (some (.d (.int (k : Int))))) m = .ok (.d (.int (g k))) m) → fLc (iRange1 (fCons (fVar 1) fNil)) (tgName 8) gYes (fCall m_end_entry (fCons (fVar 0) (fCons (fVar 2) (fCons a fNil)))) [8] ρ m = .ok (.d (.lst (((List.range mv.reach).map fun d : Nat => entAt mv mv.N (g d)).map enD))) m := by
    intro g a ρ r0 r1 r2 rl ha
    have r := rng_eq (la := fCons (fVar 1) fNil) (ρ := ρ) (m := m) (m1 := m) mv.reach (by omega) (by simp [r1])
    rw [List.map_map]
    refine lc_map (l := List.range mv.reach) (fun k : Nat => W.d (.int (k : Int))) (enD ∘ fun d : Nat => entAt mv mv.N (g d)) r (fun k _ => ⟨_, rfl, ?_⟩) (by rw [List.length_range]; omega)
    have ee := end_entry_eq mv mv.N (g k) m hN
    have hk := ha k
    simp [wipeE, rl] at hk
    simp [wipeE, r0, r2, rl, hk, ee]
  have l1 := lc (fun k => (k : Int)) (fVar 8) [some (.d mv.D), some (.d (.int (mv.reach : Int))), some (.d (.int mv.N)), some (.d (.int (mv.img mv.N (2 * (mv.reach : Int) + 1)).1)), some (.d (.bl (mv.img mv.N (2 * (mv.reach : Int) + 1)).2)), some (.d (.int mv.fs)), none, none, none] rfl rfl rfl (by simp) (fun k => by simp [wipeE])
  have l2 := lc (fun k => mv.N - 1 - (k : Int)) (fOp oSub (fOp oSub (fVar 2) (fC (.int 1))) (fVar 8)) [some (.d mv.D), some (.d (.int (mv.reach : Int))), some (.d (.int mv.N)), some (.d (.int (mv.img mv.N (2 * (mv.reach : Int) + 1)).1)), some (.d (.bl (mv.img mv.N (2 * (mv.reach : Int) + 1)).2)), some (.d (.int mv.fs)), some (.d (.lst (mv.fA.map enD))), none, none] rfl rfl rfl (by simp) (fun k => by simp [wipeE])
  have l1 : (_ : R W) = R.ok (.d (.lst (mv.fA.map enD))) m := l1
  have l2 : (_ : R W) = R.ok (.d (.lst (mv.fB.map enD))) m := l2
  have es : (mv.img mv.N (2 * (mv.reach : Int) + 1)).1 - (2 * (mv.reach : Int) + 1) = mv.fs := rfl
  have et : (mv.img mv.N (2 * (mv.reach : Int) + 1)).2 = mv.ft := rfl
  have s2 : small 2 = true := by decide +kernel
  have s4 : small 4 = true := by decide +kernel
  have sr : small (mv.reach : Int) = true := small_of (by omega)
  simp [b_move_parts, e1, eN, e2, gD, es, l1, l2, s2, s4, sr]
  rw [et]
theorem fm_new (mv : Mv) (m : Mem) (hr : mv.reach ≤ 400) : m_Form [.d (.bl mv.ft), .d (.int mv.fs), .d (.lst (mv.fA.map enD)), .d (.lst (mv.fB.map enD))] m = .ok (.d mv.fm.D) m :=
  new_form (t := mv.ft) (s := mv.fs) (A := mv.fA) (B := mv.fB) false false mv.bijf.parts (by simp [Mv.fA]; omega) (by simp [Mv.fB]; omega) m
theorem parts_eq (F : Fm) (m : Mem) : m_Form_parts [.d F.D] m = .ok (.d (.tup [.bl F.t, .int F.s, .tup (F.A.map enD), .tup (F.B.map enD)])) m := by
  refine e_fnr (ws := [.d F.D]) _ ?_ rfl
  simp [b_Form_parts, Fm.D]
theorem eqP_parts (F : Fm) : eqP 6 (.tup [.bl F.t, .int F.s, .tup (F.A.map enD), .tup (F.B.map enD)]) = true := by
  have h : ∀ T : List En, eqP 5 (.tup (T.map enD)) = true := fun T => by
    simp only [eqP, List.all_map, List.all_eq_true]
    intro e _
    exact eqP_en e 2
  have a := h F.A
  have b := h F.B
  unfold eqP
  simp only [List.all_cons, List.all_nil, a, b, Bool.and_true]
  rfl
theorem feq_refl (F : Fm) (m : Mem) : oOwnEq [("Form", m_Form___eq__)] (.d F.D) (.d F.D) m = .ok (.d (.bl true)) m := by
  have p := parts_eq F m
  have e := oEq_P (n := 6) (m := m) (eqP_parts F) (eqP_parts F) (by decide)
  rw [eqvW_refl (eqP_parts F)] at e
  have d1 : ¬ (("parts" : Str) ∈ (["faced", "moved_by", "first", "last"] : List Str)) := by decide +kernel
  have z : m_Form___eq__ [.d F.D, .d F.D] m = .ok (.d (.bl true)) m := by
    refine e_fnr (ws := [.d F.D, .d F.D]) _ ?_ rfl
    have i : oIsiC "Form" [.d F.D, .d (.gl "Form")] m = .ok (.d (.bl true)) m := by simp [oIsiC]
    simp [-List.mem_cons, b_Form___eq__, i, p, d1, e]
  unfold oOwnEq oOwn
  simp [z]
end GD
namespace GD
open PySem PySem.Spec PyProof.Rows L2
noncomputable section
def b_Form_top : Ex :=
    (sRet (fCB (oList false) (fCons (fUn (oFld ["Form"] "first") (fVar 0)) fNil)))
def m_Form_top : Fn := fnOf false 1 1 b_Form_top
end
open FM
@[simp] theorem e_par3 {i j l : Nat} {la : EvL} {ρ : Env} {m : Mem} : sPar3 i j l la ρ m = (la ρ m).lift ρ fun ws m => match ws with
  | [x, y, z] => .nx (((ρ.set i (some x)).set j (some y)).set l (some z)) m
  | _ => .bad := Eq.trans rfl rfl
/-! ### what the laws draw: parts of forms -/
theorem top_eq (F : Fm) (m : Mem) : m_Form_top [.d F.D] m = .ok (.d (.lst (F.A.map enD))) m := by
  refine e_fnr (ws := [.d F.D]) _ ?_ rfl
  have ol : ∀ xs : List D, oList false [.d (.tup xs)] m = .ok (.d (.lst xs)) m := fun xs => rfl
  simp [b_Form_top, Fm.D, ol]
/-! ### normal tables -/
/-! ### a list in another order -/
end GD
namespace GD
open PySem PySem.Spec PyProof.Rows L2
noncomputable section
def b_Form_least : Ex :=
    (sRet (fOp oAdd (fCB oLen (fCons (fUn (oFld ["Form"] "first") (fVar 0)) fNil)) (fCB oLen (fCons (fUn (oFld ["Form"] "last") (fVar 0)) fNil))))
def m_Form_least : Fn := fnOf false 1 1 b_Form_least
end
open FM
/-! ### where a form sends a place -/
def Fm.near (F : Fm) (n p : Int) : Bool × Int := if p < F.A.length ∨ (F.B.length : Int) ≤ n - 1 - p then (true, p) else (false, n - 1 - p)
def Fm.ent (F : Fm) (n p : Int) : En := F.f (F.near n p).1 (F.near n p).2.toNat
def Fm.sent (F : Fm) (n p : Int) : Int × Bool := (pl (F.ent n p).1 (F.ent n p).2.1 n, (F.ent n p).2.2)
def Fm.lst (F : Fm) : Nat := F.A.length + F.B.length
theorem least_eq (F : Fm) (m : Mem) : m_Form_least [.d F.D] m = .ok (.d (.int (F.lst : Int))) m := by
  refine e_fnr (ws := [.d F.D]) _ ?_ rfl
  simp [b_Form_least, Fm.D, Fm.lst]
theorem p_least (F : Fm) (m : Mem) : oProp [("Form", m_Form_least)] (.d F.D) m = .ok (.d (.int (F.lst : Int))) m := by
  have z := least_eq F m
  unfold oProp
  simp [z]
theorem Fm.Ok.lst {F : Fm} {n : Nat} (h : F.Ok n) : F.lst ≤ 2 * n := by
  have := h.lA
  have := h.lB
  unfold Fm.lst
  omega
theorem Fm.plays {F : Fm} {R : Nat} {G : Int → Int → Int × Bool} (h : F.Ok R) (k : Ply F.f R G) {n p : Int} (hn : 2 * (R : Int) ≤ n) (h0 : 0 ≤ p) (h1 : p < n) : F.sent n p = G n p := by
  have la := h.lA
  have lb := h.lB
  obtain ⟨d, rfl⟩ := Int.eq_ofNat_of_zero_le h0
  by_cases hp : (d : Int) + R < n
  · have z := k.plays n true d hn hp
    have e : F.ent n d = F.f true d := by
      unfold Fm.ent Fm.near
      rw [if_pos (by omega)]
      rfl
    unfold Fm.sent
    rw [e, ← z]
    rfl
  · obtain ⟨c, hc⟩ : ∃ c : Nat, (c : Int) = n - 1 - d := ⟨(n - 1 - d).toNat, by omega⟩
    have z := k.plays n false c hn (by omega)
    have zp : pl false c n = d := by unfold pl; simp; omega
    rw [zp] at z
    rw [z]
    by_cases hb : (F.B.length : Int) ≤ n - 1 - d
    · have e : F.ent n d = F.f true d := by
        unfold Fm.ent Fm.near
        rw [if_pos (by omega)]
        rfl
      have e1 : F.f true d = rul F.t F.s true d := look_out (by simp [tab]; omega)
      have e2 : F.f false c = rul F.t F.s false c := look_out (by simp [tab]; omega)
      unfold Fm.sent
      rw [e, e1, e2]
      unfold rul pl
      cases F.t <;> simp <;> omega
    · have e : F.ent n d = F.f false c := by
        unfold Fm.ent Fm.near
        rw [if_neg (by omega)]
        have : (n - 1 - (d : Int)).toNat = c := by omega
        simp [this]
      unfold Fm.sent
      rw [e]
end GD
/-! FMI: the inverse of a map of end places, in plain Lean. -/
namespace FM
open Classical in
noncomputable def inv (f : Bool → Nat → En) (g : Bool) (n : Nat) : En := if h : ∃ p : Bool × Nat, goal (f p.1 p.2) = (g, (n : Int)) then ((Classical.choose h).1, ((Classical.choose h).2 : Int), (f (Classical.choose h).1 (Classical.choose h).2).2.2) else (g, (n : Int), false)
theorem inv_at {f : Bool → Nat → En} (hf : Bij f) {e g : Bool} {d n : Nat} (h : goal (f e d) = (g, (n : Int))) : inv f g n = (e, (d : Int), (f e d).2.2) := by
  have hx : ∃ p : Bool × Nat, goal (f p.1 p.2) = (g, (n : Int)) := ⟨(e, d), h⟩
  unfold inv
  rw [dif_pos hx]
  have q := Classical.choose_spec hx
  obtain ⟨h1, h2⟩ := hf.inj _ _ _ _ (q.trans h.symm)
  rw [h1, h2]
theorem inv_of {f : Bool → Nat → En} (hf : Bij f) (e : Bool) (d : Nat) : inv f (f e d).1 (f e d).2.1.toNat = (e, (d : Int), (f e d).2.2) := by
  refine inv_at hf ?_
  have := hf.pos e d
  exact Prod.ext rfl (by dsimp only; omega)
theorem Bij.inv {f : Bool → Nat → En} (hf : Bij f) : Bij (inv f) := by
  refine ⟨fun g n => ?_, fun g n g' n' q => ?_, fun e d => ?_⟩
  · obtain ⟨e, d, h⟩ := hf.sur g n
    rw [inv_at hf h]
    dsimp only
    omega
  · obtain ⟨e, d, h⟩ := hf.sur g n
    obtain ⟨e', d', h'⟩ := hf.sur g' n'
    rw [inv_at hf h, inv_at hf h'] at q
    simp only [Prod.mk.injEq] at q
    obtain ⟨rfl, q2⟩ := q
    have q3 : d = d' := by omega
    subst q3
    rw [h] at h'
    simp only [Prod.mk.injEq] at h'
    exact ⟨h'.1, by omega⟩
  · refine ⟨(f e d).1, (f e d).2.1.toNat, ?_⟩
    rw [inv_of hf]
theorem inv_inv {f : Bool → Nat → En} (hf : Bij f) : inv (inv f) = f := by
  funext e d
  have h := inv_of hf e d
  have p := hf.pos e d
  have z := inv_at (f := inv f) hf.inv (e := (f e d).1) (d := (f e d).2.1.toNat) (g := e) (n := d) (by rw [h])
  rw [z, h]
  exact Prod.ext rfl (Prod.ext (by dsimp only; omega) rfl)
def one (e : Bool) (d : Nat) : En := (e, (d : Int), false)
noncomputable def invTab (f : Bool → Nat → En) (e : Bool) (n : Int) : List En := (List.range n.toNat).map fun d => inv f e d
theorem invTab_len (f : Bool → Nat → En) (e : Bool) (n : Int) : (invTab f e n).length = n.toNat := by simp [invTab]
def invS (t : Bool) (s : Int) : Int := if t then s else -s
section
variable {t : Bool} {s : Int} {A B : List En}
theorem inv_rule (h : Parts t s A B) {e : Bool} {d : Nat} (hd : ¬ ((d : Int) < if e then (cnts t s A.length B.length).1 else (cnts t s A.length B.length).2)) : inv (look t s A B) e d = rul t (invS t s) e d := by
  obtain ⟨e', d', h1, h2⟩ := rule_hit h.p1 h.p2 hd
  have h3 : goal (look t s A B e' d') = (e, (d : Int)) := by rw [look_out h1]; exact h2
  rw [inv_at h.bij h3, look_out h1]
  unfold rul at h2 ⊢
  unfold invS
  cases t <;> cases e <;> cases e' <;> simp at h2 ⊢ <;> omega
theorem look_invTab (h : Parts t s A B) : look t (invS t s) (invTab (look t s A B) true (cnts t s A.length B.length).1) (invTab (look t s A B) false (cnts t s A.length B.length).2) = inv (look t s A B) := by
  funext e d
  have key : ∀ n : Int, (n ≤ (d : Int) → inv (look t s A B) e d = rul t (invS t s) e d) → ((invTab (look t s A B) e n)[d]?).getD (rul t (invS t s) e d) = inv (look t s A B) e d := by
    intro n hn
    unfold invTab
    by_cases hd : d < n.toNat
    · rw [List.getElem?_map, List.getElem?_range hd]
      rfl
    · rw [List.getElem?_eq_none (by simp; omega), hn (by omega)]
      rfl
  unfold look tab
  cases e with
  | true => exact key _ fun q => inv_rule h (by simp; omega)
  | false => exact key _ fun q => inv_rule h (by simp; omega)
/-- the entry that leads to a wanted end place -/
theorem inv_entry (h : Parts t s A B) {e : Bool} {d : Nat} (hd : (d : Int) < if e then (cnts t s A.length B.length).1 else (cnts t s A.length B.length).2) : ∃ e' d', d' < (tab A B e').length ∧ goal (look t s A B e' d') = (e, (d : Int)) ∧ inv (look t s A B) e d = (e', (d' : Int), (look t s A B e' d').2.2) := by
  obtain ⟨e', d', q⟩ := h.bij.sur e d
  refine ⟨e', d', ?_, q, inv_at h.bij q⟩
  by_cases hl : d' < (tab A B e').length
  · exact hl
  · exfalso
    have z := rule_far (t := t) (s := s) (A := A) (B := B) (e := e') (d := d') (by omega)
    rw [look_out (by omega)] at q
    rw [q] at z
    exact z hd
end
end FM
/-! GED: methods of texts: split, partition, join. -/
/-! GEE: a, *b = a list. -/
/-! GEF: {..}.get(x), a display of two texts. -/
/-! GEG: texts: walked, made of numbers, made of parts; repr of own objects; a written dict asked by an index. -/
namespace PySem.W
open Lean Elab Tactic Meta PySem PySem.Spec PySem.Calls PyProof.Rows
end PySem.W
/-! GEI: defs whose last parameter has a number as its default. -/
/-! GEJ: a changeable list lent to a test as data: the test changes nothing, and its answer is a truth value. -/
/-! GEM: an own instance looked for in a list of plain things: each is asked by the own __eq__, reflected. -/
/-! GDH: dicts that the program makes, with tuples as keys. -/
namespace GD
open PySem PySem.Spec PyProof.Rows L2
abbrev PXs := List (NestedKey × Addr × V)
abbrev PV : PXs → List (NestedKey × Addr × Value) → Prop := Paired (fun (p : NestedKey × Addr × V) (q : NestedKey × Addr × Value) => p.1 = q.1 ∧ p.2.1 = q.2.1 ∧ RelV p.2.2 q.2.2)
def atP (ps : PXs) (k : NestedKey) : Option V := (ps.find? fun x => decide (x.1 = k)).map (·.2.2)
def putP (ps : PXs) (k : NestedKey) (b : Addr) (v : V) : PXs := if (atP ps k).isSome then ps.map (fun x => if x.1 = k then (x.1, x.2.1, v) else x) else ps ++ [(k, b, v)]
def atD (kvs : List (D × D)) (k : NestedKey) : Option D := (kvs.find? fun x => decide (nkD x.1 = some k)).map (·.2)
def putD (kvs : List (D × D)) (d : D) (k : NestedKey) (e : D) : List (D × D) := if (atD kvs k).isSome then kvs.map (fun x => if nkD x.1 = some k then (x.1, e) else x) else kvs ++ [(d, e)]
section
variable {K : PySem.W.Frag} {mg : Str → Option Value} {Hi H : Hp}
theorem atP_cons (q : NestedKey × Addr × V) (ps : PXs) (k : NestedKey) : atP (q :: ps) k = if q.1 = k then some q.2.2 else atP ps k := by
  unfold atP
  rw [List.find?_cons]
  by_cases h : q.1 = k
  · rw [if_pos h, decide_eq_true h]; rfl
  · rw [if_neg h, decide_eq_false h]
theorem atD_cons (q : D × D) (ps : List (D × D)) (k : NestedKey) : atD (q :: ps) k = if nkD q.1 = some k then some q.2 else atD ps k := by
  unfold atD
  rw [List.find?_cons]
  by_cases h : nkD q.1 = some k
  · rw [if_pos h, decide_eq_true h]; rfl
  · rw [if_neg h, decide_eq_false h]
theorem atH_cons (q : NestedKey × Addr × Value) (xs : List (NestedKey × Addr × Value)) (k : NestedKey) : atKey (q :: xs) k = if q.1 = k then some q.2 else atKey xs k := by
  unfold atKey
  rw [List.find?_cons]
  by_cases h : q.1 = k
  · rw [if_pos h, decide_eq_true h]; rfl
  · rw [if_neg h, decide_eq_false h]
theorem DicR.at_some {kvs : List (D × D)} {ps : PXs} (r : DicR K mg Hi kvs ps) {k : NestedKey} {d : D} (h : atD kvs k = some d) : ∃ v, atP ps k = some v ∧ Rep K mg Hi v d := by
  induction r with
  | nil => cases h
  | @cons k' a v d' e kvs ps h1 h2 h3 h4 ih =>
    rw [atD_cons] at h
    rw [atP_cons]
    by_cases c : k' = k
    · subst c
      rw [if_pos h1] at h
      cases h
      exact ⟨v, by rw [if_pos rfl], h3⟩
    · rw [if_neg (by rw [h1]; exact fun z => c (Option.some.inj z))] at h
      rw [if_neg c]
      exact ih h
theorem DicR.at_none {kvs : List (D × D)} {ps : PXs} (r : DicR K mg Hi kvs ps) {k : NestedKey} (h : atD kvs k = none) : atP ps k = none := by
  induction r with
  | nil => rfl
  | @cons k' a v d' e kvs ps h1 h2 h3 h4 ih =>
    rw [atD_cons] at h
    rw [atP_cons]
    by_cases c : k' = k
    · subst c
      rw [if_pos h1] at h
      cases h
    · rw [if_neg (by rw [h1]; exact fun z => c (Option.some.inj z))] at h
      rw [if_neg c]
      exact ih h
theorem DicR.snoc {kvs : List (D × D)} {ps : PXs} (r : DicR K mg Hi kvs ps) {k : NestedKey} {b : Addr} {v : V} {d e : D} (h1 : nkD d = some k) (h2 : Rep K mg Hi (.ref b) d) (h3 : Rep K mg Hi v e) : DicR K mg Hi (kvs ++ [(d, e)]) (ps ++ [(k, b, v)]) := by
  induction r with
  | nil => exact .cons h1 h2 h3 .nil
  | cons g1 g2 g3 g4 ih => exact .cons g1 g2 g3 ih
theorem DicR.repl {kvs : List (D × D)} {ps : PXs} (r : DicR K mg Hi kvs ps) (k : NestedKey) {v : V} {e : D} (h3 : Rep K mg Hi v e) : DicR K mg Hi (kvs.map (fun x => if nkD x.1 = some k then (x.1, e) else x)) (ps.map (fun x => if x.1 = k then (x.1, x.2.1, v) else x)) := by
  induction r with
  | nil => exact .nil
  | @cons k' a v' d' e' kvs ps g1 g2 g3 g4 ih =>
    rw [List.map_cons, List.map_cons]
    by_cases c : k' = k
    · subst c
      rw [if_pos g1, if_pos rfl]
      exact .cons g1 g2 h3 ih
    · rw [if_neg (by rw [g1]; exact fun z => c (Option.some.inj z)), if_neg c]
      exact .cons g1 g2 g3 ih
theorem DicR.put {kvs : List (D × D)} {ps : PXs} (r : DicR K mg Hi kvs ps) {k : NestedKey} {b : Addr} {v : V} {d e : D} (h1 : nkD d = some k) (h2 : Rep K mg Hi (.ref b) d) (h3 : Rep K mg Hi v e) : DicR K mg Hi (putD kvs d k e) (putP ps k b v) := by
  unfold putD putP
  cases c : atD kvs k with
  | none =>
    rw [r.at_none c]
    exact r.snoc h1 h2 h3
  | some d' =>
    obtain ⟨v', e1, _⟩ := r.at_some c
    rw [e1]
    exact r.repl k h3
theorem PV.at_ {ps : PXs} {xs : List (NestedKey × Addr × Value)} (r : PV ps xs) (k : NestedKey) : RelO (atP ps k) ((atKey xs k).map (·.2)) := by
  induction r with
  | nil => exact True.intro
  | @cons p q ps xs h t ih =>
    rw [atP_cons, atH_cons]
    obtain ⟨h1, h2, h3⟩ := h
    by_cases c : p.1 = k
    · rw [if_pos c, if_pos (h1 ▸ c)]; exact h3
    · rw [if_neg c, if_neg (h1 ▸ c)]; exact ih
theorem PV.repl {ps : PXs} {xs : List (NestedKey × Addr × Value)} (r : PV ps xs) (k : NestedKey) {v : V} {u : Value} (h3 : RelV v u) : PV (ps.map (fun x => if x.1 = k then (x.1, x.2.1, v) else x)) (xs.map (putAt k u)) := by
  induction r with
  | nil => exact .nil
  | @cons p q ps xs h t ih =>
    rw [List.map_cons, List.map_cons]
    obtain ⟨h1, h2, h4⟩ := h
    refine .cons ?_ ih
    unfold putAt
    by_cases c : p.1 = k
    · rw [if_pos c, if_pos (h1 ▸ c)]; exact ⟨h1, h2, h3⟩
    · rw [if_neg c, if_neg (h1 ▸ c)]; exact ⟨h1, h2, h4⟩
theorem PV.snoc {ps : PXs} {xs : List (NestedKey × Addr × Value)} (r : PV ps xs) {k : NestedKey} {b : Addr} {v : V} {u : Value} (h3 : RelV v u) : PV (ps ++ [(k, b, v)]) (xs ++ [(k, b, u)]) := by
  induction r with
  | nil => exact .cons ⟨rfl, rfl, h3⟩ .nil
  | cons h t ih => exact .cons h ih
theorem PV.put {ps : PXs} {xs : List (NestedKey × Addr × Value)} (r : PV ps xs) (k : NestedKey) (b : Addr) {v : V} {u : Value} (h3 : RelV v u) : PV (putP ps k b v) (storedH xs k b u) := by
  unfold putP storedH
  have z := (r.at_ k).isSome_eq
  rw [Option.isSome_map] at z
  rw [z]
  split
  · exact r.repl k h3
  · exact r.snoc h3
theorem PV.length {ps : PXs} {xs : List (NestedKey × Addr × Value)} (r : PV ps xs) : ps.length = xs.length := Paired.length r
theorem DicR.length {kvs : List (D × D)} {ps : PXs} (r : DicR K mg Hi kvs ps) : kvs.length = ps.length := by
  induction r with
  | nil => rfl
  | cons _ _ _ _ ih => simp [ih]
theorem nkD_dataK {d : D} {k : NestedKey} (h : nkD d = some k) : ∃ p, d.py = some p ∧ dataK p = some k ∧ k.depth ≤ 8 := by
  unfold nkD at h
  split at h
  · rename_i p e
    split at h
    · rename_i k' e2
      split at h
      · rename_i h8
        cases h
        exact ⟨p, e, e2, h8⟩
      · cases h
    · cases h
  · cases h
end
section
variable {X : Cx} {pins : List (Addr × Obj)} {σ : L2.St} {H Hi : Hp} {s : Shared}
theorem nk_is (I : Inv X pins σ H s) (M : Same Hi H) {v : V} {u : Value} {d : D} {k : NestedKey} (r : Rep X.K X.mg Hi v d) (hk : nkD d = some k) (ru : RelV v u) : NestedIs s.heap k u ∧ k.depth ≤ 8 := by
  obtain ⟨p, h1, h2, h3⟩ := nkD_dataK hk
  obtain ⟨as, q⟩ := Dp.reads I p v u ((r.mono M).dp h1) ru
  exact ⟨Reads.nested p u as k q h2, h3⟩
theorem dic_of (I : Inv X pins σ H s) (M : Same Hi H) {a : Addr} {kvs : List (D × D)} {ps : PXs} (hp : H a = some (DicO X.w a ps)) (dr : DicR X.K X.mg Hi kvs ps) : ∃ xs, PV ps xs ∧ s.heap.DictOfH (nestedKind X.prog X.w) a xs := by
  obtain ⟨⟨xs, pv, o, es, ep, h1, h2, h3, h4, h5⟩, _, _⟩ := (show ObjOk X.prog X.w H s.heap a (DicO X.w a ps) from I.hok a _ hp)
  refine ⟨xs, pv, o, es, ep, h1, h2, h3, h4, ?_, h5⟩
  have all : ∀ {kvs : List (D × D)} {ps : PXs} {xs : List (NestedKey × Addr × Value)}, DicR X.K X.mg Hi kvs ps → PV ps xs → ∀ x ∈ xs, (nestedKind X.prog X.w).is s.heap x.1 x.2.1 := by
    intro kvs ps xs dr
    induction dr generalizing xs with
    | nil => intro pv x hx; cases pv; cases hx
    | cons g1 g2 g3 g4 ih =>
      intro pv x hx
      cases pv with
      | cons q t =>
        obtain ⟨q1, q2, q3⟩ := q
        rcases List.mem_cons.mp hx with e | hx
        · subst e
          have z := nk_is I M g2 g1 (u := .ref _) rfl
          rw [← q1, ← q2]
          exact z
        · exact ih t x hx
  exact all dr pv
end
/-- the room that such keys ask -/
theorem room8 {X : Cx} {k : Nat} (hr : Room k X.A) : X.A.in1.units + 8 < cLine := by have := room65 hr; simp only [Around.in1_units]; omega
section
variable {X : Cx}
def rIxD (X : Cx) : R2 := fun x y H Q => ∃ Hi a b kvs ps d k v, x = .ref a ∧ y = .ref b ∧ Same Hi H ∧ H a = some (DicO X.w a ps) ∧ DicR X.K X.mg Hi kvs ps ∧ Rep X.K X.mg Hi (.ref b) d ∧ nkD d = some k ∧ atP ps k = some v ∧ Q v H
theorem ix_dic {k : Nat} (hr : Room k X.A) : IxR X (rIxD X) := by
  intro value slice pins s σ H x y v u Q I rx ry h hs
  obtain ⟨Hi, a, b, kvs, ps, d, k, vv, rfl, rfl, sub, hp, dr, rd, hk, hat, q⟩ := h
  cases rx
  cases ry
  obtain ⟨xs, pv, dh⟩ := dic_of I sub hp dr
  obtain ⟨w', hw, rw'⟩ := RelO.some_of (v := vv) (o := (atKey xs k).map (·.2)) (by rw [← hat]; exact pv.at_ k)
  obtain ⟨p, hp1, hp2⟩ := Option.map_eq_some_iff.mp hw
  refine tail_any dh.typeIs slot_dict_getitem.lookup (wpAny_getItem_heap (room8 hr) (nk_is I sub rd hk rfl) dh hp1 ?_) hs
  rw [hp2]
  exact ⟨vv, H, I.tok _, rw', q⟩
def rInD (X : Cx) (neg : Bool) : R2 := fun x y H Q => ∃ Hi a b kvs ps d k, x = .ref b ∧ y = .ref a ∧ Same Hi H ∧ (a == sysModules) = false ∧ H a = some (DicO X.w a ps) ∧ DicR X.K X.mg Hi kvs ps ∧ Rep X.K X.mg Hi (.ref b) d ∧ nkD d = some k ∧ Q (.bl (xor neg (atP ps k).isSome)) H
/-- a store -/
def rSetD (X : Cx) : TSet := fun o i v H Q => ∃ Hi a b kvs ps d k, o = .ref a ∧ i = .ref b ∧ Same Hi H ∧ H a = some (DicO X.w a ps) ∧ DicR X.K X.mg Hi kvs ps ∧ Rep X.K X.mg Hi (.ref b) d ∧ nkD d = some k ∧ kvs.length ≤ 100000 ∧ Q (upd H a (DicO X.w a (putP ps k b v)))
theorem dic_write {pins : List (Addr × Obj)} {σ : L2.St} {H : Hp} {s : Shared} {a : Addr} {ps ps' : PXs} {xs : List (NestedKey × Addr × Value)} {h' : Heap} {t' : Nat} (I : Inv X pins σ H s) (hp : H a = some (DicO X.w a ps)) (hs : Heap.SameBut a s.heap h') (pv : PV ps' xs) (dh : h'.DictOfH (nestedKind X.prog X.w) a xs) :
    Inv X pins σ (upd H a (DicO X.w a ps')) { s with heap := h', toks := t' } := by
  obtain ⟨o, es, ep, h1, h2, h3, h4, _, h5⟩ := dh
  refine d_write I (by rw [hp]; exact True.intro) hs ⟨o, h1⟩ ⟨⟨xs, pv, o, es, ep, h1, h2, h3, h4, h5⟩, ⟨o, h1⟩, fun g1 g2 p k => ?_⟩
  obtain ⟨xs, pv, o, es, ep, h1, h⟩ := p
  exact ⟨xs, pv, o, es, ep, k _ h1, h⟩
theorem set_dic {k : Nat} (hr : Room k X.A) : PSet X (rSetD X) := by
  intro pins s σ H o i v ov iv u Q I ro ri rv h
  obtain ⟨Hi, a, b, kvs, ps, d, k, rfl, rfl, sub, hp, dr, rd, hk, hl, q⟩ := h
  cases ro
  cases ri
  obtain ⟨xs, pv, dh⟩ := dic_of I sub hp dr
  refine wpAny_setItem_heap (hsz := by rw [← pv.length, ← dr.length, sizeLine_eq]; omega) (room8 hr) (nk_is I sub rd hk rfl) dh fun h' dh' hs => ⟨_, dic_write I hp hs (pv.put k b rv) dh', q⟩
/-- {} -/
def tNewD (w : World) : TE := fun _ H Q => ∀ p, H p = none → (p == sysModules) = false → Q (.ref p) (upd H p (DicO w p []))
theorem pe_newD {pos : Pos} : PE X (.Dict [] [] pos) (tNewD X.w) := ⟨fun pins s σ H Q I h =>
  wpAny_Dict_empty ⟨.ref s.heap.objs.size, _, I.laid (a := s.heap.objs.size) (o := DicO X.w s.heap.objs.size []) (t' := s.toks) (fun _ _ q => Heap.get?_push_of_some _ q) (Nat.le_refl _)
    ⟨⟨[], .nil, _, #[], 0, Heap.get?_push_size _ rfl, ⟨rfl, rfl, rfl⟩, rfl, rfl, List.nodup_nil⟩, ⟨_, Heap.get?_push_size _ rfl⟩, fun g1 g2 p k => by
      obtain ⟨xs, pv, o, es, ep, h1, h⟩ := p
      exact ⟨xs, pv, o, es, ep, k _ h1, h⟩⟩, rfl, h _ (I.hok.fresh (Nat.le_refl _)) (beq_eq_false_iff_ne.mpr (Ne.symm (Nat.ne_of_lt I.big)))⟩⟩
end
/-! ### mirrors -/
/-- the key that a tuple is -/
def tupK (d : D) : Option NestedKey := match d with
  | .tup xs => nkD (.tup xs)
  | _ => none
open Classical in
/-- the dict that a value is, made in the world w -/
noncomputable def dicOf (w : World) (x : W) (m : Mem) : Option (List (D × D)) := match x with
  | .m j => match m[j]? with
    | some (.dic w' kvs) => if w' = w then some kvs else none
    | _ => none
  | _ => none
noncomputable def fDicN (w : World) : Ev := fun _ m => .ok (.m m.length) (m ++ [.dic w []])
noncomputable def oIxD (w : World) : O2 := fun a b m => match dicOf w a m, b with
  | some kvs, .d d => match tupK d with
    | some k => match atD kvs k with
      | some e => .ok (.d e) m
      | none => .bad
    | none => .bad
  | _, _ => .bad
noncomputable def tgSubD (w : World) (fo fi : Ev) : Tg := fun v ρ m => (fo ρ m).bind fun o m => (fi ρ m).bind fun i m => match o, i, v with
  | .m j, .d d, .d e => match dicOf w (.m j) m, tupK d with
    | some kvs, some k => if kvs.length ≤ 100000 then .ok ρ (m.set j (.dic w (putD kvs d k e))) else .bad
    | _, _ => .bad
  | _, _, _ => .bad
section
variable {K : PySem.W.Frag} {mg : Str → Option Value} {Hi H : Hp} {ι : List Addr} {m : Mem}
theorem dicOf_m {w : World} {x : W} {kvs : List (D × D)} (h : dicOf w x m = some kvs) : ∃ j, x = .m j ∧ m[j]? = some (.dic w kvs) := by
  unfold dicOf at h
  split at h
  · split at h
    · rename_i j _ w' kvs' e
      split at h
      · rename_i hw
        cases h
        subst hw
        exact ⟨_, rfl, e⟩
      · cases h
    · cases h
  · cases h
theorem dicOf_rep {w : World} {x : W} {v : V} {kvs : List (D × D)} (M : Mok K mg Hi ι m H) (h : dicOf w x m = some kvs) (r : RepW K mg Hi ι v x) : ∃ j a ps, x = .m j ∧ m[j]? = some (.dic w kvs) ∧ v = .ref a ∧ ι[j]? = some a ∧ (a == sysModules) = false ∧ H a = some (DicO w a ps) ∧ DicR K mg Hi kvs ps := by
  obtain ⟨j, rfl, e⟩ := dicOf_m h
  obtain ⟨a, h1, rfl⟩ := r
  obtain ⟨g0, ps, g1, g2⟩ := M.obj _ _ _ e h1
  exact ⟨j, a, ps, rfl, e, rfl, h1, g0, g1, g2⟩
theorem tupK_rep {d : D} {k : NestedKey} {v : V} (h : tupK d = some k) (r : Rep K mg Hi v d) : ∃ b, v = .ref b ∧ nkD d = some k := by
  unfold tupK at h
  split at h
  · cases r with
    | tup s r => exact ⟨_, rfl, h⟩
  · cases h
end
section
variable {X : Cx} {Wx : WX} {kk : Nat}
theorem s_ixD : S2 X.K X.mg (rIxD X) (oIxD X.w) := by
  intro Wx σ Hi ι m H x y a b Q M rx ry g
  unfold oIxD at g
  split at g
  · rename_i kvs d e
    split at g
    · rename_i k ek
      split at g
      · rename_i e' ea
        obtain ⟨j, p, ps, rfl, ej, rfl, hj, low, hp, dr⟩ := dicOf_rep M e rx
        obtain ⟨b', rfl, hk⟩ := tupK_rep ek ry
        obtain ⟨vv, h1, h2⟩ := dr.at_some ea
        exact ⟨Hi, p, b', kvs, ps, d, k, vv, rfl, rfl, M.sub, hp, dr, ry, hk, h1, g _ _ _ _ Step.refl M h2⟩
      · exact g.elim
    · exact g.elim
  · exact g.elim
theorem pd_ixD (c : Cc X Wx kk) {a b : Expr} {pos : Pos} {fa fb : Ev} (ha : PE X a (tD X.K X.mg Wx fa)) (hb : PE X b (tD X.K X.mg Wx fb)) (hs : PlainIx b) : PE X (.Subscript a b pos) (tD X.K X.mg Wx (fOp (oIxD X.w) fa fb)) :=
  PE.imp (pe_ix (ix_dic c.room) ha hb hs) fun σ H Q t => by
    obtain ⟨Hi, ι, ρ, m, R, g⟩ := t
    exact ⟨Hi, ι, ρ, m, R, good_bind g fun x m1 Hi1 ι1 v H1 st M rv g1 => ⟨Hi1, ι1, ρ, m1, R.step st M, good_bind g1 fun y m2 Hi2 ι2 u H2 st2 M2 ru g2 => s_ixD _ _ _ _ _ _ _ _ _ _ _ M2 (rv.step st2) ru g2⟩⟩
theorem pd_newD {pos : Pos} : PE X (.Dict [] [] pos) (tD X.K X.mg Wx (fDicN X.w)) := PE.imp pe_newD fun σ H Q t => by
  obtain ⟨Hi, ι, ρ, m, R, g⟩ := t
  intro p hp low
  obtain ⟨M2, st2⟩ := R.mok.newX (mo := .dic X.w []) (o := DicO X.w p []) hp ⟨low, [], upd_same, .nil⟩
  exact g _ _ _ _ st2 M2 ⟨p, by rw [← R.mok.len, List.getElem?_append_right (Nat.le_refl _)]; simp, rfl⟩
theorem pgd_subD (c : Cc X Wx kk) {o i : Expr} {pos : Pos} {fo fi : Ev} (ho : PE X o (tD X.K X.mg Wx fo)) (hi : PE X i (tD X.K X.mg Wx fi)) (ha : ∀ v, assign (.Subscript o i pos) X.env v = (do
      let ov ← holding [v] (eval o X.env)
      let iv ← holding [v, ov] (eval i X.env)
      standAt pos
      holding [v, ov, iv] (setItem ov iv v)
      release [v, ov, iv] []) := by intro _; rfl) : PG X (.Subscript o i pos) (tDG X.K X.mg (tgSubD X.w fo fi)) := PG.imp (pg_sub ho hi (set_dic c.room) ha) fun v σ H Q t => by
  obtain ⟨Hi, ι, ρ, m, w, RR, rw', gd⟩ := t
  refine ⟨Hi, ι, ρ, m, RR, ?_⟩
  unfold tgSubD at gd
  cases e1 : fo ρ m with
  | exc c ns vs m1 => rw [e1] at gd; exact gd.elim
  | bad => rw [e1] at gd; exact gd.elim
  | ok ow m1 =>
    rw [e1, R.bind_ok] at gd
    intro Hi1 ι1 ov H1 st1 M1 ro
    refine ⟨Hi1, ι1, ρ, m1, RR.step st1 M1, ?_⟩
    cases e2 : fi ρ m1 with
    | exc c ns vs m1 => rw [e2] at gd; exact gd.elim
    | bad => rw [e2] at gd; exact gd.elim
    | ok iw m2 =>
      rw [e2, R.bind_ok] at gd
      intro Hi2 ι2 iv H2 st2 M2 ri
      have ro2 := ro.step st2
      have rw2 := (rw'.step st1).step st2
      cases ow with
      | d x => exact gd.elim
      | m j =>
        cases iw with
        | m k => exact gd.elim
        | d ix =>
          cases w with
          | m k => exact gd.elim
          | d x =>
            dsimp only at gd
            cases e3 : dicOf X.w (.m j) m2 with
            | none => rw [e3] at gd; exact gd.elim
            | some kvs =>
              cases e4 : tupK ix with
              | none => rw [e3, e4] at gd; exact gd.elim
              | some k =>
                rw [e3, e4] at gd
                dsimp only at gd
                by_cases hl : kvs.length ≤ 100000
                · rw [if_pos hl] at gd
                  obtain ⟨j3, p, ps, ej0, ej, rfl, hj, low, hp, dr⟩ := dicOf_rep M2 e3 ro2
                  cases ej0
                  obtain ⟨b', rfl, hk⟩ := tupK_rep e4 ri
                  refine ⟨Hi2, p, b', kvs, ps, ix, k, rfl, rfl, M2.sub, hp, dr, ri, hk, hl, ?_⟩
                  obtain ⟨M3, st3⟩ := M2.setX (o := DicO X.w p (putP ps k b' v)) (mo := .dic X.w (putD kvs ix k x)) hj ej (fun z => nomatch z) ⟨low, _, upd_same, dr.put hk ri rw2⟩
                  exact gd _ _ _ _ ((st1.trans st2).trans st3) ⟨M3, ((RR.slots.step st1).step st2).step st3⟩
                · rw [if_neg hl] at gd
                  exact gd.elim
end
end GD
namespace GD
open PySem PySem.Spec PyProof.Rows L2
noncomputable section
def L1_Form_inverse (Wd : PySem.World) : Ex :=
    (sAsg (fTup (fCons (fVar 4) (fCons (fVar 6) (fCons (fOp oIx (fVar 7) (fC (.int 2))) fNil)))) (tgSubD Wd (fVar 3) (fSl false (fVar 7) pNone (pSome (fC (.int 2))))))
def L2_Form_inverse (Wd : PySem.World) : Ex :=
    (sFor (iEnumA (fCons (fVar 5) fNil)) (tgUn 2 (tgCons (tgName 6) (tgCons (tgName 7) tgNil)))
    (L1_Form_inverse Wd))
def b_Form_inverse (Wd : PySem.World) : Ex :=
    (sSeq (sAsg (fCall m_image_counts (fCons (fUn (oFld ["Form"] "faced") (fVar 0)) (fCons (fUn (oFld ["Form"] "moved_by") (fVar 0)) (fCons (fCB oLen (fCons (fUn (oFld ["Form"] "first") (fVar 0)) fNil)) (fCons (fCB oLen (fCons (fUn (oFld ["Form"] "last") (fVar 0)) fNil)) fNil))))) (tgUn 2 (tgCons (tgName 1) (tgCons (tgName 2) tgNil))))
    (sSeq (sAsg (fDicN Wd) (tgName 3))
    (sSeq (sFor (iSeq (fTup (fCons (fTup (fCons (fC (.str "top")) (fCons (fUn (oFld ["Form"] "first") (fVar 0)) fNil))) (fCons (fTup (fCons (fC (.str "bottom")) (fCons (fUn (oFld ["Form"] "last") (fVar 0)) fNil))) fNil)))) (tgUn 2 (tgCons (tgName 4) (tgCons (tgName 5) tgNil)))
    (L2_Form_inverse Wd))
    (sSeq (sAsg (fIf (gTest (fUn (oFld ["Form"] "faced") (fVar 0))) (fUn (oFld ["Form"] "moved_by") (fVar 0)) (fUn oNeg (fUn (oFld ["Form"] "moved_by") (fVar 0)))) (tgName 8))
    (sSeq (sAsg (fCall m_trimmed (fCons (fUn (oFld ["Form"] "faced") (fVar 0)) (fCons (fVar 8) (fCons (fC (.str "top")) (fCons (fLc (iRange1 (fCons (fVar 1) fNil)) (tgName 6) gYes (fOp (oIxD Wd) (fVar 3) (fTup (fCons (fC (.str "top")) (fCons (fVar 6) fNil)))) [6]) fNil))))) (tgName 9))
    (sSeq (sAsg (fCall m_trimmed (fCons (fUn (oFld ["Form"] "faced") (fVar 0)) (fCons (fVar 8) (fCons (fC (.str "bottom")) (fCons (fLc (iRange1 (fCons (fVar 2) fNil)) (tgName 6) gYes (fOp (oIxD Wd) (fVar 3) (fTup (fCons (fC (.str "bottom")) (fCons (fVar 6) fNil)))) [6]) fNil))))) (tgName 10))
    (sRet (fCall m_Form (fCons (fUn (oFld ["Form"] "faced") (fVar 0)) (fCons (fVar 8) (fCons (fVar 9) (fCons (fVar 10) fNil))))))))))))
def m_Form_inverse (Wd : PySem.World) : Fn := fnOf false 1 11 (b_Form_inverse Wd)
end
open FM
/-! dicts of end places -/
def gk (p : Bool × Int) : NestedKey := .tup [.text (endS p.1), .num p.2]
theorem gk_inj {p q : Bool × Int} (h : gk p = gk q) : p = q := by
  unfold gk at h
  simp only [NestedKey.tup.injEq, List.cons.injEq, NestedKey.text.injEq, NestedKey.num.injEq, and_true] at h
  exact Prod.ext (endS_inj h.1) h.2
theorem nk_gd (p : Bool × Int) : nkD (gd p) = some (gk p) := by
  have e : (gd p).py = some (.tuple [.str (endS p.1), .int p.2]) := rfl
  have e2 : dataK (.tuple [.str (endS p.1), .int p.2]) = some (gk p) := by simp [dataK, dataKs, gk]
  have e3 : (gk p).depth ≤ 8 := by simp [gk, NestedKey.depth, NestedKey.depthAll]
  unfold nkD
  rw [e]
  dsimp only
  rw [e2]
  dsimp only
  rw [if_pos e3]
theorem tupK_gd (p : Bool × Int) : tupK (gd p) = some (gk p) := nk_gd p
theorem atD_map_none {α : Type} (g : α → Bool × Int) (v : α → D) (q : Bool × Int) : ∀ l : List α, (∀ x ∈ l, g x ≠ q) → atD (l.map fun x => (gd (g x), v x)) (gk q) = none
  | [], _ => rfl
  | x :: l, h => by
    rw [List.map_cons, atD_cons, if_neg]
    · exact atD_map_none g v q l fun y hy => h y (List.mem_cons_of_mem _ hy)
    · rw [nk_gd]
      exact fun z => h x (List.mem_cons_self ..) (gk_inj (Option.some.inj z))
theorem atD_map {α : Type} (g : α → Bool × Int) (v : α → D) : ∀ (l : List α) (x : α), x ∈ l → (∀ y ∈ l, g y = g x → v y = v x) → atD (l.map fun x => (gd (g x), v x)) (gk (g x)) = some (v x)
  | [], x, h, _ => by cases h
  | y :: l, x, h, hu => by
    rw [List.map_cons, atD_cons, nk_gd]
    by_cases c : g y = g x
    · rw [if_pos (by rw [c]), hu y (List.mem_cons_self ..) c]
    · rw [if_neg (fun z => c (gk_inj (Option.some.inj z)))]
      refine atD_map g v l x ?_ fun y hy => hu y (List.mem_cons_of_mem _ hy)
      rcases List.mem_cons.mp h with e | h
      · exact absurd (by rw [e]) c
      · exact h
theorem putD_map {α : Type} (g : α → Bool × Int) (v : α → D) (l : List α) (x : α) (h : ∀ y ∈ l, g y ≠ g x) : putD (l.map fun x => (gd (g x), v x)) (gd (g x)) (gk (g x)) (v x) = (l ++ [x]).map fun x => (gd (g x), v x) := by
  unfold putD
  rw [atD_map_none g v (g x) l h]
  simp
theorem dicOf_last (w : World) (kvs : List (D × D)) (m : Mem) : dicOf w (.m m.length) (m ++ [.dic w kvs]) = some kvs := by
  unfold dicOf
  simp
theorem set_dicLast (w : World) (kvs kvs' : List (D × D)) (m : Mem) : (m ++ [MO.dic w kvs]).set m.length (.dic w kvs') = m ++ [.dic w kvs'] := by
  rw [List.set_append_right _ _ (Nat.le_refl _), Nat.sub_self]
  rfl
theorem tgSubD_ok {w : World} {fo fi : Ev} {ρ : Env} {m : Mem} {kvs : List (D × D)} {p : Bool × Int} {e : D} (h1 : fo ρ (m ++ [.dic w kvs]) = .ok (.m m.length) (m ++ [.dic w kvs])) (h2 : fi ρ (m ++ [.dic w kvs]) = .ok (.d (gd p)) (m ++ [.dic w kvs])) (hl : kvs.length ≤ 100000) : tgSubD w fo fi (.d e) ρ (m ++ [.dic w kvs]) = .ok ρ (m ++ [.dic w (putD kvs (gd p) (gk p) e)]) := by
  unfold tgSubD
  rw [h1, R.bind_ok, h2, R.bind_ok]
  dsimp only
  rw [dicOf_last, tupK_gd]
  dsimp only
  rw [if_pos hl, set_dicLast]
theorem ixD_ok {w : World} {m : Mem} {kvs : List (D × D)} {p : Bool × Int} {e : D} (h : atD kvs (gk p) = some e) : oIxD w (.m m.length) (.d (gd p)) (m ++ [.dic w kvs]) = .ok (.d e) (m ++ [.dic w kvs]) := by
  unfold oIxD
  rw [dicOf_last]
  dsimp only
  rw [tupK_gd]
  dsimp only
  rw [h]
theorem loop_ix {g : Tg} {b : Ex} (J : Nat → Env → Mem → Prop) : ∀ (ws : List W) (k : Nat) (ρ : Env) (m : Mem), (∀ i w, ws[i]? = some w → ∀ ρ m, J (k + i) ρ m → ∃ ρ1 m1 ρ2 m2, g w ρ m = .ok ρ1 m1 ∧ b ρ1 m1 = .nx ρ2 m2 ∧ J (k + i + 1) ρ2 m2) → J k ρ m → ∃ ρ' m', loop g b ws ρ m = .nx ρ' m' ∧ J (k + ws.length) ρ' m'
  | [], k, ρ, m, _, hJ => ⟨ρ, m, rfl, hJ⟩
  | w :: ws, k, ρ, m, h, hJ => by
    obtain ⟨ρ1, m1, ρ2, m2, h1, h2, h3⟩ := h 0 w rfl ρ m hJ
    obtain ⟨ρ', m', e1, e2⟩ := loop_ix J ws (k + 1) ρ2 m2 (fun i w hw ρ m hj => by
      have z := h (i + 1) w (by simpa using hw) ρ m (by rw [show k + (i + 1) = k + 1 + i by omega]; exact hj)
      rw [show k + (i + 1) + 1 = k + 1 + i + 1 by omega] at z
      exact z) h3
    exact ⟨ρ', m', loop_cons h1 h2 e1, by rw [List.length_cons, show k + (ws.length + 1) = k + 1 + ws.length by omega]; exact e2⟩
/-! the inverse -/
/-- the entries that were passed: the dict -/
def invK (f : Bool → Nat → En) (l : List (Bool × Nat)) : List (D × D) := l.map fun x => (gd (goal (f x.1 x.2)), enD (x.1, (x.2 : Int), (f x.1 x.2).2.2))
def spots (e : Bool) (n : Nat) : List (Bool × Nat) := (List.range n).map fun d => (e, d)
theorem spots_succ (e : Bool) (n : Nat) : spots e (n + 1) = spots e n ++ [(e, n)] := by simp [spots, List.range_succ]
theorem mem_spots {e : Bool} {n : Nat} {x : Bool × Nat} : x ∈ spots e n ↔ x.1 = e ∧ x.2 < n := by
  unfold spots
  constructor
  · intro h
    obtain ⟨d, hd, rfl⟩ := List.mem_map.mp h
    exact ⟨rfl, List.mem_range.mp hd⟩
  · rintro ⟨h1, h2⟩
    exact List.mem_map.mpr ⟨x.2, List.mem_range.mpr h2, Prod.ext h1.symm rfl⟩
theorem invK_put {f : Bool → Nat → En} (hf : Bij f) (l : List (Bool × Nat)) (x : Bool × Nat) (h : x ∉ l) : putD (invK f l) (gd (goal (f x.1 x.2))) (gk (goal (f x.1 x.2))) (enD (x.1, (x.2 : Int), (f x.1 x.2).2.2)) = invK f (l ++ [x]) :=
  putD_map (fun x : Bool × Nat => goal (f x.1 x.2)) (fun x => enD (x.1, (x.2 : Int), (f x.1 x.2).2.2)) l x fun y hy z => h (by
    obtain ⟨a, b⟩ := hf.inj _ _ _ _ z
    rw [← Prod.ext a b]
    exact hy)
theorem invK_at {f : Bool → Nat → En} (hf : Bij f) {l : List (Bool × Nat)} {x : Bool × Nat} (h : x ∈ l) : atD (invK f l) (gk (goal (f x.1 x.2))) = some (enD (x.1, (x.2 : Int), (f x.1 x.2).2.2)) :=
  atD_map (fun x : Bool × Nat => goal (f x.1 x.2)) (fun x => enD (x.1, (x.2 : Int), (f x.1 x.2).2.2)) l x h fun y _ z => by
    obtain ⟨a, b⟩ := hf.inj _ _ _ _ z
    rw [a, b]
theorem invK_len (f : Bool → Nat → En) (l : List (Bool × Nat)) : (invK f l).length = l.length := by simp [invK]
/-- a turn over one entry -/
theorem inv_turn (w : World) {f : Bool → Nat → En} (hf : Bij f) (pre : List (Bool × Nat)) (e : Bool) (i : Nat) (hp : ∀ x ∈ pre, x ≠ (e, i)) (hl : pre.length ≤ 100000) (m : Mem) (o0 o1 o2 o5 o8 o9 o10 : Option W) :
    L1_Form_inverse w [o0, o1, o2, some (.m m.length), some (.d (.str (endS e))), o5, some (.d (.int (i : Int))), some (.d (enD (f e i))), o8, o9, o10] (m ++ [.dic w (invK f pre)]) = .nx [o0, o1, o2, some (.m m.length), some (.d (.str (endS e))), o5, some (.d (.int (i : Int))), some (.d (enD (f e i))), o8, o9, o10] (m ++ [.dic w (invK f (pre ++ [(e, i)]))]) := by
  have sl : ∀ ρ : Env, ∀ m : Mem, ρ[7]? = some (some (.d (enD (f e i)))) → fSl false (fVar 7) pNone (pSome (fC (.int 2))) ρ m = .ok (.d (gd (goal (f e i)))) m := fun ρ m h => by
    unfold fSl
    rw [ev_var h, R.bind_ok]
    rfl
  have z := tgSubD_ok (w := w) (fo := fVar 3) (fi := fSl false (fVar 7) pNone (pSome (fC (.int 2)))) (ρ := [o0, o1, o2, some (.m m.length), some (.d (.str (endS e))), o5, some (.d (.int (i : Int))), some (.d (enD (f e i))), o8, o9, o10]) (m := m) (kvs := invK f pre) (p := goal (f e i)) (e := enD (e, (i : Int), (f e i).2.2)) (ev_var rfl) (sl _ _ rfl) (by rw [invK_len]; exact hl)
  rw [invK_put hf pre (e, i) (fun h => hp _ h rfl)] at z
  unfold L1_Form_inverse
  refine es_asg (w := .d (enD (e, (i : Int), (f e i).2.2))) (m1 := m ++ [.dic w (invK f pre)]) ?_ z
  refine ev_tup (ws := [.d (.str (endS e)), .d (.int (i : Int)), .d (.bl (f e i).2.2)]) ?_ rfl (by simp)
  exact ev_cons (ev_var rfl) (ev_cons (ev_var rfl) (ev_cons (ev_op (ev_var rfl) ev_c (by rfl)) ev_nil))
/-- a turn over one table -/
theorem inv_table (w : World) {f : Bool → Nat → En} (hf : Bij f) (pre : List (Bool × Nat)) (e : Bool) (T : List En) (hT : ∀ i (h : i < T.length), T[i] = f e i) (hp : ∀ x ∈ pre, x.1 ≠ e) (hl : pre.length + T.length ≤ 100000) (m : Mem) (o0 o1 o2 o6 o7 o8 o9 o10 : Option W) :
    ∃ p6 p7, L2_Form_inverse w [o0, o1, o2, some (.m m.length), some (.d (.str (endS e))), some (.d (.tup (T.map enD))), o6, o7, o8, o9, o10] (m ++ [.dic w (invK f pre)]) = .nx [o0, o1, o2, some (.m m.length), some (.d (.str (endS e))), some (.d (.tup (T.map enD))), p6, p7, o8, o9, o10] (m ++ [.dic w (invK f (pre ++ spots e T.length))]) := by
  have en : iEnumA (fCons (fVar 5) fNil) [o0, o1, o2, some (.m m.length), some (.d (.str (endS e))), some (.d (.tup (T.map enD))), o6, o7, o8, o9, o10] (m ++ [.dic w (invK f pre)]) = .ok (enumD 0 (T.map enD)) (m ++ [.dic w (invK f pre)]) := rfl
  obtain ⟨ρ', m', h1, h2⟩ := loop_ix (g := tgUn 2 (tgCons (tgName 6) (tgCons (tgName 7) tgNil))) (b := L1_Form_inverse w) (fun k ρ mm => (∃ p6 p7, ρ = [o0, o1, o2, some (.m m.length), some (.d (.str (endS e))), some (.d (.tup (T.map enD))), p6, p7, o8, o9, o10]) ∧ k ≤ T.length ∧ mm = m ++ [.dic w (invK f (pre ++ spots e k))]) (enumD 0 (T.map enD)) 0
    [o0, o1, o2, some (.m m.length), some (.d (.str (endS e))), some (.d (.tup (T.map enD))), o6, o7, o8, o9, o10] (m ++ [.dic w (invK f pre)]) (fun i ww hw ρ mm hJ => by
      obtain ⟨⟨p6, p7, rfl⟩, hk, rfl⟩ := hJ
      obtain ⟨x, hx, rfl⟩ := enumD_get hw
      rw [List.getElem?_map] at hx
      obtain ⟨en, he, rfl⟩ := Option.map_eq_some_iff.mp hx
      have hi : i < T.length := (List.getElem?_eq_some_iff.mp he).1
      have e1 : en = f e i := by
        rw [List.getElem?_eq_getElem hi] at he
        rw [← Option.some.inj he]
        exact hT i hi
      subst e1
      have zi : 0 + i = i := by omega
      rw [zi]
      refine ⟨[o0, o1, o2, some (.m m.length), some (.d (.str (endS e))), some (.d (.tup (T.map enD))), some (.d (.int (i : Int))), some (.d (enD (f e i))), o8, o9, o10], _, _, _, rfl, inv_turn w hf (pre ++ spots e i) e i (fun x hx z => ?_) (by simp [spots]; omega) m o0 o1 o2 _ o8 o9 o10, ⟨_, _, rfl⟩, by omega, ?_⟩
      · subst z
        rcases List.mem_append.mp hx with h | h
        · exact hp _ h rfl
        · have := (mem_spots.mp h).2
          simp at this
      · rw [spots_succ, ← List.append_assoc]) ⟨⟨_, _, rfl⟩, Nat.zero_le _, by simp [spots]⟩
  obtain ⟨⟨p6, p7, rfl⟩, _, rfl⟩ := h2
  refine ⟨p6, p7, ?_⟩
  unfold L2_Form_inverse
  refine es_for en ?_
  rw [h1, enumD_len, List.length_map, Nat.zero_add]
noncomputable def Fm.inv (F : Fm) : Fm := ⟨F.t, invS F.t F.s, trim F.t (invS F.t F.s) true (invTab F.f true (cnts F.t F.s F.A.length F.B.length).1), trim F.t (invS F.t F.s) false (invTab F.f false (cnts F.t F.s F.A.length F.B.length).2)⟩
theorem Fm.inv_f {F : Fm} {n : Nat} (h : F.Ok n) : F.inv.f = FM.inv F.f := by
  have z := look_invTab h.bij.parts
  show look F.t (invS F.t F.s) (trim _ _ _ _) (trim _ _ _ _) = _
  rw [look_trim]
  exact z
theorem Fm.Ok.cnts_le {F : Fm} {n : Nat} (h : F.Ok n) : 0 ≤ (cnts F.t F.s F.A.length F.B.length).1 ∧ 0 ≤ (cnts F.t F.s F.A.length F.B.length).2 ∧ (cnts F.t F.s F.A.length F.B.length).1 + (cnts F.t F.s F.A.length F.B.length).2 = F.A.length + F.B.length ∧ (cnts F.t F.s F.A.length F.B.length).1 ≤ 2 * n ∧ (cnts F.t F.s F.A.length F.B.length).2 ≤ 2 * n := by
  have p := h.bij.parts
  have a := h.lA
  have b := h.lB
  have p1 := p.p1
  have p2 := p.p2
  refine ⟨p1, p2, ?_⟩
  have q : (cnts F.t F.s F.A.length F.B.length).1 + (cnts F.t F.s F.A.length F.B.length).2 = F.A.length + F.B.length := by
    unfold cnts
    cases F.t <;> simp <;> omega
  exact ⟨q, by omega, by omega⟩
theorem Fm.inv_ok' {F : Fm} {n k : Nat} (h : F.Ok n) (h1 : F.inv.A.length ≤ k) (h2 : F.inv.B.length ≤ k) : F.inv.Ok k := ⟨by show Bij F.inv.f; rw [Fm.inv_f h]; exact h.bij.inv, trim_trim .., trim_trim .., h1, h2⟩
theorem Fm.inv_lens {F : Fm} {n : Nat} (h : F.Ok n) : F.inv.A.length ≤ (cnts F.t F.s F.A.length F.B.length).1.toNat ∧ F.inv.B.length ≤ (cnts F.t F.s F.A.length F.B.length).2.toNat := by
  have q := h.cnts_le
  constructor
  · show (trim _ _ _ _).length ≤ _
    rw [trim_len]
    refine Nat.le_trans (trimN_le ..) ?_
    rw [invTab_len]
    exact Nat.le_refl _
  · show (trim _ _ _ _).length ≤ _
    rw [trim_len]
    refine Nat.le_trans (trimN_le ..) ?_
    rw [invTab_len]
    exact Nat.le_refl _
theorem Fm.inv_ok {F : Fm} {n : Nat} (h : F.Ok n) : F.inv.Ok (2 * n) := by
  have q := h.cnts_le
  have l := Fm.inv_lens h
  exact Fm.inv_ok' h (by omega) (by omega)
theorem Fm.inv_inv {F : Fm} {n : Nat} (h : F.Ok n) : F.inv.inv = F := by
  have h1 := Fm.inv_ok h
  have h2 := Fm.inv_ok h1
  refine Fm.ext' h2 h rfl ?_ ?_
  · show invS F.t (invS F.t F.s) = F.s
    unfold invS
    cases F.t <;> simp
  · rw [Fm.inv_f h1, Fm.inv_f h, FM.inv_inv (f := F.f) h.bij]
theorem inverse_eq (w : World) {F : Fm} {n : Nat} (h : F.Ok n) (hn : n ≤ 400) (h1 : F.inv.A.length ≤ 400) (h2 : F.inv.B.length ≤ 400) (m : Mem) : m_Form_inverse w [.d F.D] m = .ok (.d F.inv.D) m := by
  obtain ⟨x, hx⟩ : ∃ x, x = (cnts F.t F.s F.A.length F.B.length).1 := ⟨_, rfl⟩
  obtain ⟨y, hy⟩ : ∃ y, y = (cnts F.t F.s F.A.length F.B.length).2 := ⟨_, rfl⟩
  have q := h.cnts_le
  rw [← hx, ← hy] at q
  obtain ⟨x0, y0, _, xn, yn⟩ := q
  have hA := h.lA
  have hB := h.lB
  have pA := h.bij.parts
  have bj : Bij F.f := h.bij
  obtain ⟨LL, hLL⟩ : ∃ LL, LL = spots true F.A.length ++ spots false F.B.length := ⟨_, rfl⟩
  have memL : ∀ (e : Bool) (d : Nat), d < (tab F.A F.B e).length → (e, d) ∈ LL := fun e d hd => by
    rw [hLL]
    cases e with
    | true => exact List.mem_append_left _ (mem_spots.mpr ⟨rfl, hd⟩)
    | false => exact List.mem_append_right _ (mem_spots.mpr ⟨rfl, hd⟩)
  -- the two comprehensions
  have lc : ∀ (e : Bool) (z : Int) (i : Nat) (ρ : Env), (z = if e then x else y) → ρ[3]? = some (some (.m m.length)) → ρ[i]? = some (some (.d (.int z))) → 6 < ρ.length → fLc (iRange1 (fCons (fVar i) fNil)) (tgName 6) gYes (fOp (oIxD w) (fVar 3) (fTup (fCons (fC (.str (endS e))) (fCons (fVar 6) fNil)))) [6] ρ (m ++ [.dic w (invK F.f LL)]) = .ok (.d (.lst ((invTab F.f e z).map enD))) (m ++ [.dic w (invK F.f LL)]) := by
    intro e z i ρ hz r3 ri rl
    have z0 : 0 ≤ z := by rw [hz]; cases e <;> simp <;> omega
    have z8 : z ≤ 800 := by rw [hz]; cases e <;> simp <;> omega
    have hz' : ((z.toNat : Nat) : Int) = z := by omega
    have r := rng_eq (la := fCons (fVar i) fNil) (ρ := ρ) (m := m ++ [.dic w (invK F.f LL)]) (m1 := m ++ [.dic w (invK F.f LL)]) z.toNat (by omega) (by simp [ri, hz'])
    unfold invTab
    rw [List.map_map]
    refine lc_map (l := List.range z.toNat) (fun k : Nat => W.d (.int (k : Int))) (enD ∘ fun d => FM.inv F.f e d) r (fun k hk => ⟨_, rfl, ?_⟩) (by rw [List.length_range]; omega)
    have hk' : (k : Int) < if e then (cnts F.t F.s F.A.length F.B.length).1 else (cnts F.t F.s F.A.length F.B.length).2 := by
      have := List.mem_range.mp hk
      rw [← hx, ← hy, ← hz]
      omega
    obtain ⟨e', d', g1, g2, g3⟩ := inv_entry pA hk'
    have at_ := invK_at bj (memL e' d' g1)
    have g2' : goal (F.f e' d') = (e, (k : Int)) := g2
    have g3' : FM.inv F.f e k = (e', (d' : Int), (F.f e' d').2.2) := g3
    rw [g2'] at at_
    show fOp (oIxD w) (fVar 3) (fTup (fCons (fC (.str (endS e))) (fCons (fVar 6) fNil))) ((wipeE ρ [6]).set 6 (some (.d (.int (k : Int))))) (m ++ [.dic w (invK F.f LL)]) = .ok (.d (enD (FM.inv F.f e k))) (m ++ [.dic w (invK F.f LL)])
    rw [g3']
    have r3' : ((wipeE ρ [6]).set 6 (some (.d (.int (k : Int)))))[3]? = some (some (.m m.length)) := by
      rw [List.getElem?_set_ne (by decide)]
      show ((wipeE ρ []).set 6 none)[3]? = _
      rw [List.getElem?_set_ne (by decide)]
      exact r3
    have r6' : ((wipeE ρ [6]).set 6 (some (.d (.int (k : Int)))))[6]? = some (some (.d (.int (k : Int)))) := List.getElem?_set_self (by show 6 < ((wipeE ρ []).set 6 none).length; rw [List.length_set]; exact rl)
    exact ev_op (ev_var r3') (ev_tup (ev_cons ev_c (ev_cons (ev_var r6') ev_nil)) rfl (by simp)) (ixD_ok (p := (e, (k : Int))) at_)
  obtain ⟨M1, hM1⟩ : ∃ M1, M1 = m ++ [MO.dic w (invK F.f LL)] := ⟨_, rfl⟩
  have cnt := counts_eq F.t F.s F.A.length F.B.length m
  have cnt : m_image_counts [.d (.bl F.t), .d (.int F.s), .d (.int (F.A.length : Int)), .d (.int (F.B.length : Int))] m = .ok (.d (.tup [.int x, .int y])) m := by
    rw [cnt, hx, hy]
    unfold cnts
    cases F.t <;> rfl
  have T0 : (sAsg (fCall m_image_counts (fCons (fUn (oFld ["Form"] "faced") (fVar 0)) (fCons (fUn (oFld ["Form"] "moved_by") (fVar 0)) (fCons (fCB oLen (fCons (fUn (oFld ["Form"] "first") (fVar 0)) fNil)) (fCons (fCB oLen (fCons (fUn (oFld ["Form"] "last") (fVar 0)) fNil)) fNil))))) (tgUn 2 (tgCons (tgName 1) (tgCons (tgName 2) tgNil)))) [some (.d F.D), none, none, none, none, none, none, none, none, none, none] m = .nx [some (.d F.D), some (.d (.int x)), some (.d (.int y)), none, none, none, none, none, none, none, none] m := by
    simp [Fm.D, cnt]
  have T1 : (sAsg (fDicN w) (tgName 3)) [some (.d F.D), some (.d (.int x)), some (.d (.int y)), none, none, none, none, none, none, none, none] m = .nx [some (.d F.D), some (.d (.int x)), some (.d (.int y)), some (.m m.length), none, none, none, none, none, none, none] (m ++ [.dic w (invK F.f [])]) := rfl
  have it2 : iSeq (fTup (fCons (fTup (fCons (fC (.str "top")) (fCons (fUn (oFld ["Form"] "first") (fVar 0)) fNil))) (fCons (fTup (fCons (fC (.str "bottom")) (fCons (fUn (oFld ["Form"] "last") (fVar 0)) fNil))) fNil))) [some (.d F.D), some (.d (.int x)), some (.d (.int y)), some (.m m.length), none, none, none, none, none, none, none] (m ++ [.dic w (invK F.f [])]) = .ok [.d (.tup [.str "top", .tup (F.A.map enD)]), .d (.tup [.str "bottom", .tup (F.B.map enD)])] (m ++ [.dic w (invK F.f [])]) := by
    simp [Fm.D]
  obtain ⟨p6, p7, t1⟩ := inv_table w bj [] true F.A (fun i h => by
    have z := look_in (t := F.t) (s := F.s) (A := F.A) (B := F.B) (e := true) (d := i) h
    exact z.symm) (fun x hx => nomatch hx) (by simp; omega) m (some (.d F.D)) (some (.d (.int x))) (some (.d (.int y))) none none none none none
  obtain ⟨q6, q7, t2⟩ := inv_table w bj ([] ++ spots true F.A.length) false F.B (fun i h => by
    have z := look_in (t := F.t) (s := F.s) (A := F.A) (B := F.B) (e := false) (d := i) h
    exact z.symm) (fun x hx z => by
      have := (mem_spots.mp (by simpa using hx)).1
      rw [this] at z
      cases z) (by simp [spots]; omega) m (some (.d F.D)) (some (.d (.int x))) (some (.d (.int y))) p6 p7 none none none
  rw [List.nil_append, ← hLL] at t2
  have T2 : (sFor (iSeq (fTup (fCons (fTup (fCons (fC (.str "top")) (fCons (fUn (oFld ["Form"] "first") (fVar 0)) fNil))) (fCons (fTup (fCons (fC (.str "bottom")) (fCons (fUn (oFld ["Form"] "last") (fVar 0)) fNil))) fNil)))) (tgUn 2 (tgCons (tgName 4) (tgCons (tgName 5) tgNil))) (L2_Form_inverse w)) [some (.d F.D), some (.d (.int x)), some (.d (.int y)), some (.m m.length), none, none, none, none, none, none, none] (m ++ [.dic w (invK F.f [])]) = .nx [some (.d F.D), some (.d (.int x)), some (.d (.int y)), some (.m m.length), some (.d (.str "bottom")), some (.d (.tup (F.B.map enD))), q6, q7, none, none, none] M1 := by
    refine es_for it2 (loop_cons (ρ1 := [some (.d F.D), some (.d (.int x)), some (.d (.int y)), some (.m m.length), some (.d (.str "top")), some (.d (.tup (F.A.map enD))), none, none, none, none, none]) rfl t1 (loop_cons (ρ1 := [some (.d F.D), some (.d (.int x)), some (.d (.int y)), some (.m m.length), some (.d (.str "bottom")), some (.d (.tup (F.B.map enD))), p6, p7, none, none, none]) rfl ?_ loop_nil))
    rw [hM1]
    exact t2
  have T3 : (sAsg (fIf (gTest (fUn (oFld ["Form"] "faced") (fVar 0))) (fUn (oFld ["Form"] "moved_by") (fVar 0)) (fUn oNeg (fUn (oFld ["Form"] "moved_by") (fVar 0)))) (tgName 8)) [some (.d F.D), some (.d (.int x)), some (.d (.int y)), some (.m m.length), some (.d (.str "bottom")), some (.d (.tup (F.B.map enD))), q6, q7, none, none, none] M1 = .nx [some (.d F.D), some (.d (.int x)), some (.d (.int y)), some (.m m.length), some (.d (.str "bottom")), some (.d (.tup (F.B.map enD))), q6, q7, some (.d (.int (invS F.t F.s))), none, none] M1 := by
    unfold invS
    cases hF : F.t <;> simp [Fm.D, hF, truth]
  have l1 := lc true x 1 [some (.d F.D), some (.d (.int x)), some (.d (.int y)), some (.m m.length), some (.d (.str "bottom")), some (.d (.tup (F.B.map enD))), q6, q7, some (.d (.int (invS F.t F.s))), none, none] rfl rfl rfl (by simp)
  have l2 := lc false y 2 [some (.d F.D), some (.d (.int x)), some (.d (.int y)), some (.m m.length), some (.d (.str "bottom")), some (.d (.tup (F.B.map enD))), q6, q7, some (.d (.int (invS F.t F.s))), some (.d (.tup (F.inv.A.map enD))), none] rfl rfl rfl (by simp)
  rw [← hM1] at l1 l2
  have tr1 := trimmed_eq F.t (invS F.t F.s) true (invTab F.f true x) M1 (by rw [invTab_len]; omega)
  have tr2 := trimmed_eq F.t (invS F.t F.s) false (invTab F.f false y) M1 (by rw [invTab_len]; omega)
  have mA : trim F.t (invS F.t F.s) true (invTab F.f true x) = F.inv.A := by rw [hx]; rfl
  have mB : trim F.t (invS F.t F.s) false (invTab F.f false y) = F.inv.B := by rw [hy]; rfl
  rw [mA] at tr1
  rw [mB] at tr2
  have fA : ∀ (ρ : Env), ρ[0]? = some (some (.d F.D)) → fUn (oFld ["Form"] "faced") (fVar 0) ρ M1 = .ok (.d (.bl F.t)) M1 := fun ρ h => by
    refine ev_un (ev_var h) ?_
    simp [Fm.D]
  have T4 := es_set (n := 9) (ev_call (f := m_trimmed) (ev_cons (fA _ rfl) (ev_cons (ev_var (n := 8) rfl) (ev_cons (ev_c (d := .str "top")) (ev_cons l1 ev_nil)))) tr1)
  have T5 := es_set (n := 10) (ev_call (f := m_trimmed) (ev_cons (fA _ rfl) (ev_cons (ev_var (n := 8) rfl) (ev_cons (ev_c (d := .str "bottom")) (ev_cons l2 ev_nil)))) tr2)
  have ok2 := Fm.inv_ok' h h1 h2
  have nw := new_form true true ok2.bij.parts ok2.lA ok2.lB M1
  rw [ok2.nA, ok2.nB] at nw
  have T6 := es_ret (ev_call (f := m_Form) (ρ := [some (.d F.D), some (.d (.int x)), some (.d (.int y)), some (.m m.length), some (.d (.str "bottom")), some (.d (.tup (F.B.map enD))), q6, q7, some (.d (.int (invS F.t F.s))), some (.d (.tup (F.inv.A.map enD))), some (.d (.tup (F.inv.B.map enD)))]) (ev_cons (fA _ rfl) (ev_cons (ev_var (n := 8) rfl) (ev_cons (ev_var (n := 9) rfl) (ev_cons (ev_var (n := 10) rfl) ev_nil)))) nw)
  have hb : b_Form_inverse w ([W.d F.D].map some ++ List.replicate (11 - [W.d F.D].length) none) m = .rt (.d F.inv.D) M1 := by
    unfold b_Form_inverse
    exact es_seq T0 (es_seq T1 (es_seq T2 (es_seq T3 (es_seq T4 (es_seq T5 T6)))))
  unfold m_Form_inverse
  rw [fn_ret (mu := false) (np := 1) (N := 11) (ws := [.d F.D]) rfl hb, leave_d, hM1]
  simp
theorem meth_form {F : Fm} {nm : Str} {g : Fn} {f : Ev} {ρ : Env} {m : Mem} {r : R W} (hd : ¬ nm ∈ (["faced", "moved_by", "first", "last"] : List Str)) (hf : f ρ m = .ok (.d F.D) m) (hg : g [.d F.D] m = r) : fMeth [("Form", g)] nm f fNil ρ m = r := by
  unfold fMeth
  rw [hf, R.bind_ok]
  have e : insOf (.d F.D) m = some (("Form" : Str), (["faced", "moved_by", "first", "last"] : List Str), [.bl F.t, .int F.s, .tup (F.A.map enD), .tup (F.B.map enD)]) := rfl
  rw [e]
  have l : ([(("Form" : Str), g)] : List (Str × Fn)).lookup ("Form" : Str) = some g := by simp [List.lookup]
  dsimp only
  rw [l]
  dsimp only
  refine (if_neg hd).trans ?_
  show g [.d F.D] m = r
  exact hg
theorem inverse_call (w : World) {F G : Fm} {f : Ev} {ρ : Env} {m : Mem} (hf : f ρ m = .ok (.d F.D) m) (hg : m_Form_inverse w [.d F.D] m = .ok (.d G.D) m) : fMeth [("Form", m_Form_inverse w)] "inverse" f fNil ρ m = .ok (.d G.D) m := meth_form (by decide +kernel) hf hg
end GD
namespace GD
open PySem PySem.Spec PyProof.Rows L2
open FM
/-! ### equality of what the words and forms tell -/
/-! ### where two words differ -/
def dif (n : Int) (x y : List Mv) (p : Int) : Bool := !decide (sentF n x (p, false) = sentF n y (p, false))
/-- what a form does to a place in the middle -/
theorem mid_sent (x : List Mv) {n p : Int} (h0 : (reaches x : Int) ≤ p) (h1 : p + reaches x < n) : sentF n x (p, false) = (if (fmOf x).t then n - 1 - p + (fmOf x).s else p + (fmOf x).s, (fmOf x).t) := by
  have ok := fmOf_ok x
  have la := ok.lA
  obtain ⟨d, rfl⟩ := Int.eq_ofNat_of_zero_le (show 0 ≤ p by omega)
  have z := (fmOf_pl x).plays n true d (by omega) h1
  have e1 : (fmOf x).f true d = rul (fmOf x).t (fmOf x).s true d := look_out (by simp [tab]; omega)
  rw [e1] at z
  have z : sentF n x ((d : Int), false) = _ := z
  rw [z]
  unfold rul pl
  cases (fmOf x).t <;> simp <;> omega
/-- no difference in a great pile: the forms are one -/
theorem alike_great (x y : List Mv) (n : Int) (hn : 4 * ((reaches x : Int) + reaches y + 1) ≤ n) (h : ∀ p, 0 ≤ p → p < n → dif n x y p = false) : fmOf x = fmOf y := by
  have okx := fmOf_ok x
  have oky := fmOf_ok y
  have hm := h ((reaches x : Int) + reaches y) (by omega) (by omega)
  unfold dif at hm h
  rw [mid_sent x (by omega) (by omega), mid_sent y (by omega) (by omega)] at hm
  have ht : (fmOf x).t = (fmOf y).t := by
    revert hm
    cases (fmOf x).t <;> cases (fmOf y).t <;> simp
  have hs : (fmOf x).s = (fmOf y).s := by
    rw [ht] at hm
    revert hm
    cases (fmOf y).t <;> simp <;> omega
  refine Fm.ext' okx oky ht hs ?_
  funext e d
  by_cases hd : d < reaches x + reaches y
  · have px := (fmOf_pl x).plays n e d (by omega) (by omega)
    have py := (fmOf_pl y).plays n e d (by omega) (by omega)
    have hp := h (pl e d n) (pl_rng (by omega) (by omega)).1 (pl_rng (by omega) (by omega)).2
    have hp : sentF n x (pl e d n, false) = sentF n y (pl e d n, false) := by simpa using hp
    have hp := px.symm.trans (hp.trans py)
    have fx := (fmOf_pl x).far e d
    have fy := (fmOf_pl y).far e d
    have gx := (fmOf_pl x).pos e d
    have gy := (fmOf_pl y).pos e d
    clear px py
    generalize (fmOf x).f e d = u at hp fx gx ⊢
    generalize (fmOf y).f e d = v at hp fy gy ⊢
    obtain ⟨e1, d1, c1⟩ := u
    obtain ⟨e2, d2, c2⟩ := v
    dsimp only at hp fx fy gx gy
    rw [Prod.mk.injEq] at hp
    obtain ⟨hp, hc⟩ := hp
    unfold pl at hp
    rw [hc]
    cases e1 <;> cases e2 <;> simp at hp ⊢ <;> omega
  · have lx := okx.lA
    have lx' := okx.lB
    have ly := oky.lA
    have ly' := oky.lB
    have e1 : (fmOf x).f e d = rul (fmOf x).t (fmOf x).s e d := look_out (by cases e <;> simp [tab] <;> omega)
    have e2 : (fmOf y).f e d = rul (fmOf y).t (fmOf y).s e d := look_out (by cases e <;> simp [tab] <;> omega)
    rw [e1, e2, ht, hs]
end GD
/-! LZ: the frame of a law: its turns. -/
namespace GD
open PySem PySem.Spec PyProof.Rows L2
def RS.frz (i : Nat) (r : RS) : RS := match r with
  | .nx ρ' m' => match ρ'[i]? with
    | some (some (.m k)) => match m'[k]? with
      | some (.lst xs) => .nx (ρ'.set i (some (.d (.lst xs)))) (m'.set k .dead)
      | _ => .bad
    | _ => .bad
  | r => r
@[simp] theorem e_frz {i : Nat} {f : Ex} {ρ : Env} {m : Mem} : sFrz i f ρ m = (f ρ m).frz i := Eq.trans rfl rfl
/-! ### what a statement leads to -/
def Post (r : RS) (Q : RS → Prop) : Prop := Q r
theorem Post.of {r : RS} {Q : RS → Prop} (h : Q r) : Post r Q := h
theorem Post.out {r : RS} {Q : RS → Prop} (h : Post r Q) : Q r := h
/-- a loop that an error leaves -/
def ToXc (c : Str) (ns : List Str) (vs : List D) (J : Mem → Prop) : RS → Prop := fun r => ∃ ρ' m', r = .xc c ns vs ρ' m' ∧ J m'
/-- a def that an error leaves -/
theorem e_fnx2 {mu : Bool} {np N : Nat} {ws : List W} {c : Str} {ns : List Str} {vs : List D} {m : Mem} (p : Ex) (h : Post (p (ws.map some ++ List.replicate (N - ws.length) none) m) (ToXc c ns vs fun m' => m'.take m.length = m)) (hl : ws.length = np) : fnOf mu np N p ws m = .exc c ns vs m := by
  obtain ⟨ρ', m', e, hm⟩ := h
  unfold fnOf
  rw [if_pos hl, e]
  show R.exc c ns vs (m'.take m.length) = _
  rw [hm]
/-! ### changeable lists -/
@[simp] theorem e_bm {ty : W → Mem → Bool} {op : OM} {a : Ev} {la : EvL} {ρ : Env} {m : Mem} : fBM ty op a la ρ m = (a ρ m).bind fun o m => if ty o m then (la ρ m).bind fun ws m => op o ws m else .bad := Eq.trans rfl rfl
@[simp] theorem e_bm0 {ty : W → Mem → Bool} {op : OM} {a : Ev} {ρ : Env} {m : Mem} : fBM0 ty op a ρ m = (a ρ m).bind fun o m => if ty o m then op o [] m else .bad := Eq.trans rfl rfl
@[simp] theorem isL_m {k : Nat} {m : Mem} : isL (.m k) m = match m[k]? with
    | some (.lst _) => true
    | some (.own _ _ _) => true
    | _ => false := by
  show (match m[k]? with
    | some (.lst xs) => some xs
    | some (.own _ _ xs) => some xs
    | _ => none).isSome = _
  cases h : m[k]? with
  | none => rfl
  | some o => cases o <;> rfl
@[simp] theorem isL_d {xs : List D} {m : Mem} : isL (.d (.lst xs)) m = true := Eq.trans rfl rfl
@[simp] theorem push_m {k : Nat} {d : D} {m : Mem} : oAppend (.m k) [.d d] m = match m[k]? with
    | some (.lst xs) => if xs.length < 100000 then .ok (.d .non) (m.set k (.lst (xs ++ [d]))) else .bad
    | _ => .bad := Eq.trans rfl rfl
@[simp] theorem e_dfl {d : Option Int} {f : Fn} {ws : List W} {m : Mem} : dflFn d f ws m = f (ws ++ [.d (toDd d)]) m := Eq.trans rfl rfl
@[simp] theorem toDd_none : toDd none = .non := Eq.trans rfl rfl
@[simp] theorem toDd_some {i : Int} : toDd (some i) = .int i := Eq.trans rfl rfl
@[simp] theorem oIntB_b {b : Bool} {m : Mem} : oIntB [.d (.bl b)] m = .ok (.d (.int (if b then 1 else 0))) m := Eq.trans rfl rfl
@[simp] theorem oIntB_i {i : Int} {m : Mem} : oIntB [.d (.int i)] m = .ok (.d (.int i)) m := Eq.trans rfl rfl
@[simp] theorem e_parG {js : List Nat} {a : EvL} {ρ : Env} {m : Mem} : sParG js a ρ m = (a ρ m).lift ρ fun ws m => if ws.length = js.length then .nx (setAll ρ js ws) m else .bad := Eq.trans rfl rfl
@[simp] theorem setAll_nil {ρ : Env} {ws : List W} : setAll ρ [] ws = ρ := Eq.trans rfl rfl
@[simp] theorem setAll_cons {ρ : Env} {i : Nat} {js : List Nat} {w : W} {ws : List W} : setAll ρ (i :: js) (w :: ws) = setAll (ρ.set i (some w)) js ws := Eq.trans rfl rfl
theorem bag_set (ns : List Int) (ρ : Env) : sAsg (fCall m__law_bag (fCons (fVar 0) fNil)) (tgName 1) (some (.d (.fls (ns.map .int))) :: ρ) [] = .nx ((some (.d (.fls (ns.map .int))) :: ρ).set 1 (some (.m 0))) [(Bag.new ns).mo] := by
  have hb := bag_eq ns
  rw [e_asg, e_call]
  simp [hb]
end GD
namespace GD
open PySem PySem.Spec PyProof.Rows L2
open FM
/-! LWD: wide forms (printed by mklwd.py). -/
theorem new_form_x {A B : List En} (tuA tuB : Bool) (t : Bool) (s : Int) (hX : 400 < A.length ∨ 400 < B.length) (m : Mem) : ∃ m', m_Form [.d (.bl t), .d (.int s), .d (seqE tuA A), .d (seqE tuB B)] m = .exc "TooWide" ["limit", "code"] [.int 400, .str "TooWide"] m' ∧ m'.take m.length = m := by
  refine ⟨m, ?_, by simp⟩
  have con : oCon [("Form", D.int 400)] "WIDEST" (.m m.length) (m ++ [.ins "Form" [] []]) = .ok (.d (.int 400)) (m ++ [.ins "Form" [] []]) := by
    unfold oCon insOf
    simp
  have la : ∀ m, oLen [.d (seqE tuA A)] m = .ok (.d (.int (A.length : Int))) m := seqE_len tuA A
  have lb : ∀ m, oLen [.d (seqE tuB B)] m = .ok (.d (.int (B.length : Int))) m := seqE_len tuB B
  have fm : fmtB (.int 400) = true := fmt_of (by decide) (by decide)
  have e2 : m_Form___init__ [.m m.length, .d (.bl t), .d (.int s), .d (seqE tuA A), .d (seqE tuB B)] (m ++ [.ins "Form" [] []]) = .exc "TooWide" ["limit", "code"] [.int 400, .str "TooWide"] (m ++ [.ins "Form" [] []]) := by
    refine e_fnx (ws := [.m m.length, .d (.bl t), .d (.int s), .d (seqE tuA A), .d (seqE tuB B)]) (ρ' := [some (.m m.length), some (.d (.bl t)), some (.d (.int s)), some (.d (seqE tuA A)), some (.d (seqE tuB B)), none, none, none]) _ ?_ rfl
    show b_Form___init__ [some (.m m.length), some (.d (.bl t)), some (.d (.int s)), some (.d (seqE tuA A)), some (.d (seqE tuB B)), none, none, none] (m ++ [.ins "Form" [] []]) = _
    have hx : (decide ((400 : Int) < (A.length : Int)) || decide ((400 : Int) < (B.length : Int))) = true := by
      rcases hX with h | h
      · rw [decide_eq_true (by omega)]; rfl
      · rw [Bool.or_eq_true]; exact .inr (decide_eq_true (by omega))
    by_cases hA : (400 : Int) < (A.length : Int)
    · simp [b_Form___init__, la, con, hA, fm]
    · have hB : (400 : Int) < (B.length : Int) := by omega
      simp [b_Form___init__, la, lb, con, hA, hB, fm]
  unfold m_Form newO
  rw [e2]
  dsimp only
  simp
theorem mul_eq9 {t1 t2 : Bool} {s1 s2 : Int} {A1 B1 A2 B2 : List En} {n1 n2 : Nat} (h1 : FOk t1 s1 A1 B1 n1) (h2 : FOk t2 s2 A2 B2 n2) (hn : n1 + n2 ≤ 1000) (hA : (mulA t1 t2 s1 s2 A1 B1 A2 B2).length ≤ 400) (hB : (mulB t1 t2 s1 s2 A1 B1 A2 B2).length ≤ 400) (m : Mem) : m_Form___mul__ [.d (formD t1 s1 A1 B1), .d (formD t2 s2 A2 B2)] m = .ok (.d (formD (mulT t1 t2) (mulS t2 s1 s2) (mulA t1 t2 s1 s2 A1 B1 A2 B2) (mulB t1 t2 s1 s2 A1 B1 A2 B2))) m := by
  refine e_fnr (ws := [.d (formD t1 s1 A1 B1), .d (formD t2 s2 A2 B2)]) _ ?_ rfl
  have f := far_le h1 h2
  have k := h1.mul h2
  obtain ⟨x, hx⟩ : ∃ x, x = (far t1 s1 A1 B1 A2 B2).1 := ⟨_, rfl⟩
  obtain ⟨y, hy⟩ : ∃ y, y = (far t1 s1 A1 B1 A2 B2).2 := ⟨_, rfl⟩
  have x0 : 0 ≤ x := by rw [hx]; unfold far; simp; omega
  have y0 : 0 ≤ y := by rw [hy]; unfold far; simp; omega
  rw [← hx, ← hy] at f
  have re := reached_eq t1 t2 s1 s2 A1 B1 A2 B2 m
  rw [← hx, ← hy] at re
  have d0 : ¬ (("reached" : Str) ∈ (["faced", "moved_by", "first", "last"] : List Str)) := by decide +kernel
  have d1 : ¬ (("followed" : Str) ∈ (["faced", "moved_by", "first", "last"] : List Str)) := by decide +kernel
  have lc : ∀ (e : Bool) (z : Int) (i : Nat) (ρ : Env), 0 ≤ z → z ≤ 1000 → ρ[0]? = some (some (.d (formD t1 s1 A1 B1))) → ρ[1]? = some (some (.d (formD t2 s2 A2 B2))) → ρ[i]? = some (some (.d (.int z))) → 8 < ρ.length → fLc (iRange1 (fCons (fVar i) fNil)) (tgName 8) gYes (fMeth [("Form", m_Form_followed)] "followed" (fVar 0) (fCons (fVar 1) (fCons (fC (.str (endS e))) (fCons (fVar 8) fNil)))) [8] ρ m = .ok (.d (.lst ((mulTab (look t1 s1 A1 B1) (look t2 s2 A2 B2) e z).map enD))) m := by
    intro e z i ρ hz0 hz4 r0 r1 ri rl
    have hz' : ((z.toNat : Nat) : Int) = z := by omega
    have r := rng_eq (la := fCons (fVar i) fNil) (ρ := ρ) (m := m) (m1 := m) z.toNat (by omega) (by simp [ri, hz'])
    unfold mulTab
    rw [List.map_map]
    refine lc_map (l := List.range z.toNat) (fun k : Nat => W.d (.int (k : Int))) (enD ∘ fun d => comp (look t1 s1 A1 B1) (look t2 s2 A2 B2) e d) r (fun k _ => ⟨_, rfl, ?_⟩) (by rw [List.length_range]; omega)
    have fo := followed_eq t1 t2 s1 s2 A1 B1 A2 B2 h1.bij e k m
    simp [-List.mem_cons, wipeE, r0, r1, rl, fo, d1]
  have tT : (!decide (t1 = t2)) = mulT t1 t2 := rfl
  have lt1 := lc true x 2 [some (.d (formD t1 s1 A1 B1)), some (.d (formD t2 s2 A2 B2)), some (.d (.int x)), some (.d (.int y)), some (.d (.bl (mulT t1 t2))), some (.d (.int (mulS t2 s1 s2))), none, none, none] x0 (by omega) rfl rfl rfl (by simp)
  have tr1 := trimmed_eq (mulT t1 t2) (mulS t2 s1 s2) true (mulTab (look t1 s1 A1 B1) (look t2 s2 A2 B2) true x) m (by rw [mulTab_len]; omega)
  have mA : trim (mulT t1 t2) (mulS t2 s1 s2) true (mulTab (look t1 s1 A1 B1) (look t2 s2 A2 B2) true x) = mulA t1 t2 s1 s2 A1 B1 A2 B2 := by rw [hx]; rfl
  have mB : trim (mulT t1 t2) (mulS t2 s1 s2) false (mulTab (look t1 s1 A1 B1) (look t2 s2 A2 B2) false y) = mulB t1 t2 s1 s2 A1 B1 A2 B2 := by rw [hy]; rfl
  rw [mA] at tr1
  have lt2 := lc false y 3 [some (.d (formD t1 s1 A1 B1)), some (.d (formD t2 s2 A2 B2)), some (.d (.int x)), some (.d (.int y)), some (.d (.bl (mulT t1 t2))), some (.d (.int (mulS t2 s1 s2))), some (.d (.tup ((mulA t1 t2 s1 s2 A1 B1 A2 B2).map enD))), none, none] y0 (by omega) rfl rfl rfl (by simp)
  have tr2 := trimmed_eq (mulT t1 t2) (mulS t2 s1 s2) false (mulTab (look t1 s1 A1 B1) (look t2 s2 A2 B2) false y) m (by rw [mulTab_len]; omega)
  rw [mB] at tr2
  have nw := new_form true true k.bij.parts hA hB m
  rw [k.nA, k.nB] at nw
  have nw : m_Form [.d (.bl (mulT t1 t2)), .d (.int (mulS t2 s1 s2)), .d (.tup ((mulA t1 t2 s1 s2 A1 B1 A2 B2).map enD)), .d (.tup ((mulB t1 t2 s1 s2 A1 B1 A2 B2).map enD))] m = _ := nw
  have lt1 : fLc (iRange1 (fCons (fVar 2) fNil)) (tgName 8) gYes (fMeth [("Form", m_Form_followed)] "followed" (fVar 0) (fCons (fVar 1) (fCons (fC (.str "top")) (fCons (fVar 8) fNil)))) [8] [some (.d (formD t1 s1 A1 B1)), some (.d (formD t2 s2 A2 B2)), some (.d (.int x)), some (.d (.int y)), some (.d (.bl (mulT t1 t2))), some (.d (.int (mulS t2 s1 s2))), none, none, none] m = _ := lt1
  have lt2 : fLc (iRange1 (fCons (fVar 3) fNil)) (tgName 8) gYes (fMeth [("Form", m_Form_followed)] "followed" (fVar 0) (fCons (fVar 1) (fCons (fC (.str "bottom")) (fCons (fVar 8) fNil)))) [8] [some (.d (formD t1 s1 A1 B1)), some (.d (formD t2 s2 A2 B2)), some (.d (.int x)), some (.d (.int y)), some (.d (.bl (mulT t1 t2))), some (.d (.int (mulS t2 s1 s2))), some (.d (.tup ((mulA t1 t2 s1 s2 A1 B1 A2 B2).map enD))), none, none] m = _ := lt2
  have tr1 : m_trimmed [.d (.bl (mulT t1 t2)), .d (.int (mulS t2 s1 s2)), .d (.str "top"), .d (.lst ((mulTab (look t1 s1 A1 B1) (look t2 s2 A2 B2) true x).map enD))] m = _ := tr1
  have tr2 : m_trimmed [.d (.bl (mulT t1 t2)), .d (.int (mulS t2 s1 s2)), .d (.str "bottom"), .d (.lst ((mulTab (look t1 s1 A1 B1) (look t2 s2 A2 B2) false y).map enD))] m = _ := tr2
  have sS : fOp oAdd (fUn (oFld ["Form"] "moved_by") (fVar 1)) (fIf (gTest (fUn (oFld ["Form"] "faced") (fVar 1))) (fUn oNeg (fUn (oFld ["Form"] "moved_by") (fVar 0))) (fUn (oFld ["Form"] "moved_by") (fVar 0))) [some (.d (formD t1 s1 A1 B1)), some (.d (formD t2 s2 A2 B2)), some (.d (.int x)), some (.d (.int y)), some (.d (.bl (mulT t1 t2))), none, none, none, none] m = .ok (.d (.int (mulS t2 s1 s2))) m := by
    cases t2 <;> simp [truth, mulS]
  obtain ⟨U1, hU1⟩ : ∃ U : List D, U = (mulTab (look t1 s1 A1 B1) (look t2 s2 A2 B2) true x).map enD := ⟨_, rfl⟩
  obtain ⟨U2, hU2⟩ : ∃ U : List D, U = (mulTab (look t1 s1 A1 B1) (look t2 s2 A2 B2) false y).map enD := ⟨_, rfl⟩
  rw [← hU1] at lt1 tr1
  rw [← hU2] at lt2 tr2
  have oN : fOp oNe (fUn (oFld ["Form"] "faced") (fVar 0)) (fUn (oFld ["Form"] "faced") (fVar 1)) [some (.d (formD t1 s1 A1 B1)), some (.d (formD t2 s2 A2 B2)), some (.d (.int x)), some (.d (.int y)), none, none, none, none, none] m = .ok (.d (.bl (mulT t1 t2))) m := by
    simp [mulT]
  simp [-List.mem_cons, -e_op, b_Form___mul__, re, d0, oN, sS, lt1, tr1, lt2, tr2, nw]
theorem mul_x9 {t1 t2 : Bool} {s1 s2 : Int} {A1 B1 A2 B2 : List En} {n1 n2 : Nat} (h1 : FOk t1 s1 A1 B1 n1) (h2 : FOk t2 s2 A2 B2 n2) (hn : n1 + n2 ≤ 1000) (hX : 400 < (mulA t1 t2 s1 s2 A1 B1 A2 B2).length ∨ 400 < (mulB t1 t2 s1 s2 A1 B1 A2 B2).length) (m : Mem) : m_Form___mul__ [.d (formD t1 s1 A1 B1), .d (formD t2 s2 A2 B2)] m = .exc "TooWide" ["limit", "code"] [.int 400, .str "TooWide"] m := by
  obtain ⟨m9, nw, ht⟩ := new_form_x true true (mulT t1 t2) (mulS t2 s1 s2) hX m
  refine e_fnx2 (ws := [.d (formD t1 s1 A1 B1), .d (formD t2 s2 A2 B2)]) _ (Post.of ⟨[some (.d (formD t1 s1 A1 B1)), some (.d (formD t2 s2 A2 B2)), some (.d (.int (far t1 s1 A1 B1 A2 B2).1)), some (.d (.int (far t1 s1 A1 B1 A2 B2).2)), some (.d (.bl (mulT t1 t2))), some (.d (.int (mulS t2 s1 s2))), some (.d (.tup ((mulA t1 t2 s1 s2 A1 B1 A2 B2).map enD))), some (.d (.tup ((mulB t1 t2 s1 s2 A1 B1 A2 B2).map enD))), none], m9, ?_, ht⟩) rfl
  have f := far_le h1 h2
  have k := h1.mul h2
  obtain ⟨x, hx⟩ : ∃ x, x = (far t1 s1 A1 B1 A2 B2).1 := ⟨_, rfl⟩
  obtain ⟨y, hy⟩ : ∃ y, y = (far t1 s1 A1 B1 A2 B2).2 := ⟨_, rfl⟩
  have x0 : 0 ≤ x := by rw [hx]; unfold far; simp; omega
  have y0 : 0 ≤ y := by rw [hy]; unfold far; simp; omega
  rw [← hx, ← hy] at f ⊢
  have re := reached_eq t1 t2 s1 s2 A1 B1 A2 B2 m
  rw [← hx, ← hy] at re
  have d0 : ¬ (("reached" : Str) ∈ (["faced", "moved_by", "first", "last"] : List Str)) := by decide +kernel
  have d1 : ¬ (("followed" : Str) ∈ (["faced", "moved_by", "first", "last"] : List Str)) := by decide +kernel
  have lc : ∀ (e : Bool) (z : Int) (i : Nat) (ρ : Env), 0 ≤ z → z ≤ 1000 → ρ[0]? = some (some (.d (formD t1 s1 A1 B1))) → ρ[1]? = some (some (.d (formD t2 s2 A2 B2))) → ρ[i]? = some (some (.d (.int z))) → 8 < ρ.length → fLc (iRange1 (fCons (fVar i) fNil)) (tgName 8) gYes (fMeth [("Form", m_Form_followed)] "followed" (fVar 0) (fCons (fVar 1) (fCons (fC (.str (endS e))) (fCons (fVar 8) fNil)))) [8] ρ m = .ok (.d (.lst ((mulTab (look t1 s1 A1 B1) (look t2 s2 A2 B2) e z).map enD))) m := by
    intro e z i ρ hz0 hz4 r0 r1 ri rl
    have hz' : ((z.toNat : Nat) : Int) = z := by omega
    have r := rng_eq (la := fCons (fVar i) fNil) (ρ := ρ) (m := m) (m1 := m) z.toNat (by omega) (by simp [ri, hz'])
    unfold mulTab
    rw [List.map_map]
    refine lc_map (l := List.range z.toNat) (fun k : Nat => W.d (.int (k : Int))) (enD ∘ fun d => comp (look t1 s1 A1 B1) (look t2 s2 A2 B2) e d) r (fun k _ => ⟨_, rfl, ?_⟩) (by rw [List.length_range]; omega)
    have fo := followed_eq t1 t2 s1 s2 A1 B1 A2 B2 h1.bij e k m
    simp [-List.mem_cons, wipeE, r0, r1, rl, fo, d1]
  have tT : (!decide (t1 = t2)) = mulT t1 t2 := rfl
  have lt1 := lc true x 2 [some (.d (formD t1 s1 A1 B1)), some (.d (formD t2 s2 A2 B2)), some (.d (.int x)), some (.d (.int y)), some (.d (.bl (mulT t1 t2))), some (.d (.int (mulS t2 s1 s2))), none, none, none] x0 (by omega) rfl rfl rfl (by simp)
  have tr1 := trimmed_eq (mulT t1 t2) (mulS t2 s1 s2) true (mulTab (look t1 s1 A1 B1) (look t2 s2 A2 B2) true x) m (by rw [mulTab_len]; omega)
  have mA : trim (mulT t1 t2) (mulS t2 s1 s2) true (mulTab (look t1 s1 A1 B1) (look t2 s2 A2 B2) true x) = mulA t1 t2 s1 s2 A1 B1 A2 B2 := by rw [hx]; rfl
  have mB : trim (mulT t1 t2) (mulS t2 s1 s2) false (mulTab (look t1 s1 A1 B1) (look t2 s2 A2 B2) false y) = mulB t1 t2 s1 s2 A1 B1 A2 B2 := by rw [hy]; rfl
  rw [mA] at tr1
  have lt2 := lc false y 3 [some (.d (formD t1 s1 A1 B1)), some (.d (formD t2 s2 A2 B2)), some (.d (.int x)), some (.d (.int y)), some (.d (.bl (mulT t1 t2))), some (.d (.int (mulS t2 s1 s2))), some (.d (.tup ((mulA t1 t2 s1 s2 A1 B1 A2 B2).map enD))), none, none] y0 (by omega) rfl rfl rfl (by simp)
  have tr2 := trimmed_eq (mulT t1 t2) (mulS t2 s1 s2) false (mulTab (look t1 s1 A1 B1) (look t2 s2 A2 B2) false y) m (by rw [mulTab_len]; omega)
  rw [mB] at tr2
  have nw : m_Form [.d (.bl (mulT t1 t2)), .d (.int (mulS t2 s1 s2)), .d (.tup ((mulA t1 t2 s1 s2 A1 B1 A2 B2).map enD)), .d (.tup ((mulB t1 t2 s1 s2 A1 B1 A2 B2).map enD))] m = _ := nw
  have lt1 : fLc (iRange1 (fCons (fVar 2) fNil)) (tgName 8) gYes (fMeth [("Form", m_Form_followed)] "followed" (fVar 0) (fCons (fVar 1) (fCons (fC (.str "top")) (fCons (fVar 8) fNil)))) [8] [some (.d (formD t1 s1 A1 B1)), some (.d (formD t2 s2 A2 B2)), some (.d (.int x)), some (.d (.int y)), some (.d (.bl (mulT t1 t2))), some (.d (.int (mulS t2 s1 s2))), none, none, none] m = _ := lt1
  have lt2 : fLc (iRange1 (fCons (fVar 3) fNil)) (tgName 8) gYes (fMeth [("Form", m_Form_followed)] "followed" (fVar 0) (fCons (fVar 1) (fCons (fC (.str "bottom")) (fCons (fVar 8) fNil)))) [8] [some (.d (formD t1 s1 A1 B1)), some (.d (formD t2 s2 A2 B2)), some (.d (.int x)), some (.d (.int y)), some (.d (.bl (mulT t1 t2))), some (.d (.int (mulS t2 s1 s2))), some (.d (.tup ((mulA t1 t2 s1 s2 A1 B1 A2 B2).map enD))), none, none] m = _ := lt2
  have tr1 : m_trimmed [.d (.bl (mulT t1 t2)), .d (.int (mulS t2 s1 s2)), .d (.str "top"), .d (.lst ((mulTab (look t1 s1 A1 B1) (look t2 s2 A2 B2) true x).map enD))] m = _ := tr1
  have tr2 : m_trimmed [.d (.bl (mulT t1 t2)), .d (.int (mulS t2 s1 s2)), .d (.str "bottom"), .d (.lst ((mulTab (look t1 s1 A1 B1) (look t2 s2 A2 B2) false y).map enD))] m = _ := tr2
  have sS : fOp oAdd (fUn (oFld ["Form"] "moved_by") (fVar 1)) (fIf (gTest (fUn (oFld ["Form"] "faced") (fVar 1))) (fUn oNeg (fUn (oFld ["Form"] "moved_by") (fVar 0))) (fUn (oFld ["Form"] "moved_by") (fVar 0))) [some (.d (formD t1 s1 A1 B1)), some (.d (formD t2 s2 A2 B2)), some (.d (.int x)), some (.d (.int y)), some (.d (.bl (mulT t1 t2))), none, none, none, none] m = .ok (.d (.int (mulS t2 s1 s2))) m := by
    cases t2 <;> simp [truth, mulS]
  obtain ⟨U1, hU1⟩ : ∃ U : List D, U = (mulTab (look t1 s1 A1 B1) (look t2 s2 A2 B2) true x).map enD := ⟨_, rfl⟩
  obtain ⟨U2, hU2⟩ : ∃ U : List D, U = (mulTab (look t1 s1 A1 B1) (look t2 s2 A2 B2) false y).map enD := ⟨_, rfl⟩
  rw [← hU1] at lt1 tr1
  rw [← hU2] at lt2 tr2
  have oN : fOp oNe (fUn (oFld ["Form"] "faced") (fVar 0)) (fUn (oFld ["Form"] "faced") (fVar 1)) [some (.d (formD t1 s1 A1 B1)), some (.d (formD t2 s2 A2 B2)), some (.d (.int x)), some (.d (.int y)), none, none, none, none, none] m = .ok (.d (.bl (mulT t1 t2))) m := by
    simp [mulT]
  simp [-List.mem_cons, -e_op, b_Form___mul__, re, d0, oN, sS, lt1, tr1, lt2, tr2, nw]
theorem inverse_x (w : World) {F : Fm} {n : Nat} (h : F.Ok n) (hn : n ≤ 400) (hX : 400 < F.inv.A.length ∨ 400 < F.inv.B.length) (m : Mem) : m_Form_inverse w [.d F.D] m = .exc "TooWide" ["limit", "code"] [.int 400, .str "TooWide"] m := by
  obtain ⟨x, hx⟩ : ∃ x, x = (cnts F.t F.s F.A.length F.B.length).1 := ⟨_, rfl⟩
  obtain ⟨y, hy⟩ : ∃ y, y = (cnts F.t F.s F.A.length F.B.length).2 := ⟨_, rfl⟩
  have q := h.cnts_le
  rw [← hx, ← hy] at q
  obtain ⟨x0, y0, _, xn, yn⟩ := q
  have hA := h.lA
  have hB := h.lB
  have pA := h.bij.parts
  have bj : Bij F.f := h.bij
  obtain ⟨LL, hLL⟩ : ∃ LL, LL = spots true F.A.length ++ spots false F.B.length := ⟨_, rfl⟩
  have memL : ∀ (e : Bool) (d : Nat), d < (tab F.A F.B e).length → (e, d) ∈ LL := fun e d hd => by
    rw [hLL]
    cases e with
    | true => exact List.mem_append_left _ (mem_spots.mpr ⟨rfl, hd⟩)
    | false => exact List.mem_append_right _ (mem_spots.mpr ⟨rfl, hd⟩)
  -- the two comprehensions
  have lc : ∀ (e : Bool) (z : Int) (i : Nat) (ρ : Env), (z = if e then x else y) → ρ[3]? = some (some (.m m.length)) → ρ[i]? = some (some (.d (.int z))) → 6 < ρ.length → fLc (iRange1 (fCons (fVar i) fNil)) (tgName 6) gYes (fOp (oIxD w) (fVar 3) (fTup (fCons (fC (.str (endS e))) (fCons (fVar 6) fNil)))) [6] ρ (m ++ [.dic w (invK F.f LL)]) = .ok (.d (.lst ((invTab F.f e z).map enD))) (m ++ [.dic w (invK F.f LL)]) := by
    intro e z i ρ hz r3 ri rl
    have z0 : 0 ≤ z := by rw [hz]; cases e <;> simp <;> omega
    have z8 : z ≤ 800 := by rw [hz]; cases e <;> simp <;> omega
    have hz' : ((z.toNat : Nat) : Int) = z := by omega
    have r := rng_eq (la := fCons (fVar i) fNil) (ρ := ρ) (m := m ++ [.dic w (invK F.f LL)]) (m1 := m ++ [.dic w (invK F.f LL)]) z.toNat (by omega) (by simp [ri, hz'])
    unfold invTab
    rw [List.map_map]
    refine lc_map (l := List.range z.toNat) (fun k : Nat => W.d (.int (k : Int))) (enD ∘ fun d => FM.inv F.f e d) r (fun k hk => ⟨_, rfl, ?_⟩) (by rw [List.length_range]; omega)
    have hk' : (k : Int) < if e then (cnts F.t F.s F.A.length F.B.length).1 else (cnts F.t F.s F.A.length F.B.length).2 := by
      have := List.mem_range.mp hk
      rw [← hx, ← hy, ← hz]
      omega
    obtain ⟨e', d', g1, g2, g3⟩ := inv_entry pA hk'
    have at_ := invK_at bj (memL e' d' g1)
    have g2' : goal (F.f e' d') = (e, (k : Int)) := g2
    have g3' : FM.inv F.f e k = (e', (d' : Int), (F.f e' d').2.2) := g3
    rw [g2'] at at_
    show fOp (oIxD w) (fVar 3) (fTup (fCons (fC (.str (endS e))) (fCons (fVar 6) fNil))) ((wipeE ρ [6]).set 6 (some (.d (.int (k : Int))))) (m ++ [.dic w (invK F.f LL)]) = .ok (.d (enD (FM.inv F.f e k))) (m ++ [.dic w (invK F.f LL)])
    rw [g3']
    have r3' : ((wipeE ρ [6]).set 6 (some (.d (.int (k : Int)))))[3]? = some (some (.m m.length)) := by
      rw [List.getElem?_set_ne (by decide)]
      show ((wipeE ρ []).set 6 none)[3]? = _
      rw [List.getElem?_set_ne (by decide)]
      exact r3
    have r6' : ((wipeE ρ [6]).set 6 (some (.d (.int (k : Int)))))[6]? = some (some (.d (.int (k : Int)))) := List.getElem?_set_self (by show 6 < ((wipeE ρ []).set 6 none).length; rw [List.length_set]; exact rl)
    exact ev_op (ev_var r3') (ev_tup (ev_cons ev_c (ev_cons (ev_var r6') ev_nil)) rfl (by simp)) (ixD_ok (p := (e, (k : Int))) at_)
  obtain ⟨M1, hM1⟩ : ∃ M1, M1 = m ++ [MO.dic w (invK F.f LL)] := ⟨_, rfl⟩
  have cnt := counts_eq F.t F.s F.A.length F.B.length m
  have cnt : m_image_counts [.d (.bl F.t), .d (.int F.s), .d (.int (F.A.length : Int)), .d (.int (F.B.length : Int))] m = .ok (.d (.tup [.int x, .int y])) m := by
    rw [cnt, hx, hy]
    unfold cnts
    cases F.t <;> rfl
  have T0 : (sAsg (fCall m_image_counts (fCons (fUn (oFld ["Form"] "faced") (fVar 0)) (fCons (fUn (oFld ["Form"] "moved_by") (fVar 0)) (fCons (fCB oLen (fCons (fUn (oFld ["Form"] "first") (fVar 0)) fNil)) (fCons (fCB oLen (fCons (fUn (oFld ["Form"] "last") (fVar 0)) fNil)) fNil))))) (tgUn 2 (tgCons (tgName 1) (tgCons (tgName 2) tgNil)))) [some (.d F.D), none, none, none, none, none, none, none, none, none, none] m = .nx [some (.d F.D), some (.d (.int x)), some (.d (.int y)), none, none, none, none, none, none, none, none] m := by
    simp [Fm.D, cnt]
  have T1 : (sAsg (fDicN w) (tgName 3)) [some (.d F.D), some (.d (.int x)), some (.d (.int y)), none, none, none, none, none, none, none, none] m = .nx [some (.d F.D), some (.d (.int x)), some (.d (.int y)), some (.m m.length), none, none, none, none, none, none, none] (m ++ [.dic w (invK F.f [])]) := rfl
  have it2 : iSeq (fTup (fCons (fTup (fCons (fC (.str "top")) (fCons (fUn (oFld ["Form"] "first") (fVar 0)) fNil))) (fCons (fTup (fCons (fC (.str "bottom")) (fCons (fUn (oFld ["Form"] "last") (fVar 0)) fNil))) fNil))) [some (.d F.D), some (.d (.int x)), some (.d (.int y)), some (.m m.length), none, none, none, none, none, none, none] (m ++ [.dic w (invK F.f [])]) = .ok [.d (.tup [.str "top", .tup (F.A.map enD)]), .d (.tup [.str "bottom", .tup (F.B.map enD)])] (m ++ [.dic w (invK F.f [])]) := by
    simp [Fm.D]
  obtain ⟨p6, p7, t1⟩ := inv_table w bj [] true F.A (fun i h => by
    have z := look_in (t := F.t) (s := F.s) (A := F.A) (B := F.B) (e := true) (d := i) h
    exact z.symm) (fun x hx => nomatch hx) (by simp; omega) m (some (.d F.D)) (some (.d (.int x))) (some (.d (.int y))) none none none none none
  obtain ⟨q6, q7, t2⟩ := inv_table w bj ([] ++ spots true F.A.length) false F.B (fun i h => by
    have z := look_in (t := F.t) (s := F.s) (A := F.A) (B := F.B) (e := false) (d := i) h
    exact z.symm) (fun x hx z => by
      have := (mem_spots.mp (by simpa using hx)).1
      rw [this] at z
      cases z) (by simp [spots]; omega) m (some (.d F.D)) (some (.d (.int x))) (some (.d (.int y))) p6 p7 none none none
  rw [List.nil_append, ← hLL] at t2
  have T2 : (sFor (iSeq (fTup (fCons (fTup (fCons (fC (.str "top")) (fCons (fUn (oFld ["Form"] "first") (fVar 0)) fNil))) (fCons (fTup (fCons (fC (.str "bottom")) (fCons (fUn (oFld ["Form"] "last") (fVar 0)) fNil))) fNil)))) (tgUn 2 (tgCons (tgName 4) (tgCons (tgName 5) tgNil))) (L2_Form_inverse w)) [some (.d F.D), some (.d (.int x)), some (.d (.int y)), some (.m m.length), none, none, none, none, none, none, none] (m ++ [.dic w (invK F.f [])]) = .nx [some (.d F.D), some (.d (.int x)), some (.d (.int y)), some (.m m.length), some (.d (.str "bottom")), some (.d (.tup (F.B.map enD))), q6, q7, none, none, none] M1 := by
    refine es_for it2 (loop_cons (ρ1 := [some (.d F.D), some (.d (.int x)), some (.d (.int y)), some (.m m.length), some (.d (.str "top")), some (.d (.tup (F.A.map enD))), none, none, none, none, none]) rfl t1 (loop_cons (ρ1 := [some (.d F.D), some (.d (.int x)), some (.d (.int y)), some (.m m.length), some (.d (.str "bottom")), some (.d (.tup (F.B.map enD))), p6, p7, none, none, none]) rfl ?_ loop_nil))
    rw [hM1]
    exact t2
  have T3 : (sAsg (fIf (gTest (fUn (oFld ["Form"] "faced") (fVar 0))) (fUn (oFld ["Form"] "moved_by") (fVar 0)) (fUn oNeg (fUn (oFld ["Form"] "moved_by") (fVar 0)))) (tgName 8)) [some (.d F.D), some (.d (.int x)), some (.d (.int y)), some (.m m.length), some (.d (.str "bottom")), some (.d (.tup (F.B.map enD))), q6, q7, none, none, none] M1 = .nx [some (.d F.D), some (.d (.int x)), some (.d (.int y)), some (.m m.length), some (.d (.str "bottom")), some (.d (.tup (F.B.map enD))), q6, q7, some (.d (.int (invS F.t F.s))), none, none] M1 := by
    unfold invS
    cases hF : F.t <;> simp [Fm.D, hF, truth]
  have l1 := lc true x 1 [some (.d F.D), some (.d (.int x)), some (.d (.int y)), some (.m m.length), some (.d (.str "bottom")), some (.d (.tup (F.B.map enD))), q6, q7, some (.d (.int (invS F.t F.s))), none, none] rfl rfl rfl (by simp)
  have l2 := lc false y 2 [some (.d F.D), some (.d (.int x)), some (.d (.int y)), some (.m m.length), some (.d (.str "bottom")), some (.d (.tup (F.B.map enD))), q6, q7, some (.d (.int (invS F.t F.s))), some (.d (.tup (F.inv.A.map enD))), none] rfl rfl rfl (by simp)
  rw [← hM1] at l1 l2
  have tr1 := trimmed_eq F.t (invS F.t F.s) true (invTab F.f true x) M1 (by rw [invTab_len]; omega)
  have tr2 := trimmed_eq F.t (invS F.t F.s) false (invTab F.f false y) M1 (by rw [invTab_len]; omega)
  have mA : trim F.t (invS F.t F.s) true (invTab F.f true x) = F.inv.A := by rw [hx]; rfl
  have mB : trim F.t (invS F.t F.s) false (invTab F.f false y) = F.inv.B := by rw [hy]; rfl
  rw [mA] at tr1
  rw [mB] at tr2
  have fA : ∀ (ρ : Env), ρ[0]? = some (some (.d F.D)) → fUn (oFld ["Form"] "faced") (fVar 0) ρ M1 = .ok (.d (.bl F.t)) M1 := fun ρ h => by
    refine ev_un (ev_var h) ?_
    simp [Fm.D]
  have T4 := es_set (n := 9) (ev_call (f := m_trimmed) (ev_cons (fA _ rfl) (ev_cons (ev_var (n := 8) rfl) (ev_cons (ev_c (d := .str "top")) (ev_cons l1 ev_nil)))) tr1)
  have T5 := es_set (n := 10) (ev_call (f := m_trimmed) (ev_cons (fA _ rfl) (ev_cons (ev_var (n := 8) rfl) (ev_cons (ev_c (d := .str "bottom")) (ev_cons l2 ev_nil)))) tr2)
  obtain ⟨m9, nw, ht⟩ := new_form_x true true F.t (invS F.t F.s) hX M1
  have T6 := es_retX (ev_call (f := m_Form) (ρ := [some (.d F.D), some (.d (.int x)), some (.d (.int y)), some (.m m.length), some (.d (.str "bottom")), some (.d (.tup (F.B.map enD))), q6, q7, some (.d (.int (invS F.t F.s))), some (.d (.tup (F.inv.A.map enD))), some (.d (.tup (F.inv.B.map enD)))]) (ev_cons (fA _ rfl) (ev_cons (ev_var (n := 8) rfl) (ev_cons (ev_var (n := 9) rfl) (ev_cons (ev_var (n := 10) rfl) ev_nil)))) nw)
  unfold m_Form_inverse
  refine e_fnx2 (ws := [.d F.D]) _ (Post.of ⟨[some (.d F.D), some (.d (.int x)), some (.d (.int y)), some (.m m.length), some (.d (.str "bottom")), some (.d (.tup (F.B.map enD))), q6, q7, some (.d (.int (invS F.t F.s))), some (.d (.tup (F.inv.A.map enD))), some (.d (.tup (F.inv.B.map enD)))], m9, ?_, ?_⟩) rfl
  · show b_Form_inverse w [some (.d F.D), none, none, none, none, none, none, none, none, none, none] m = _
    unfold b_Form_inverse
    exact es_seq T0 (es_seq T1 (es_seq T2 (es_seq T3 (es_seq T4 (es_seq T5 T6)))))
  · have z : m9.take m.length = (m9.take M1.length).take m.length := by
      rw [List.take_take, hM1]
      congr 1
      simp
    show m9.take m.length = m
    rw [z, ht, hM1]
    simp
end GD
namespace GD
open PySem PySem.Spec PyProof.Rows L2
noncomputable section
def b__law_odd_moves : Ex :=
    (sSeq (sAsg (fTup (fCons (fTup (fCons (fC (.str "top")) (fCons (fC (.int 0)) fNil))) (fCons (fTup (fCons (fC (.str "bottom")) (fCons (fC (.int 400)) fNil))) fNil))) (tgUn 2 (tgCons (tgName 0) (tgCons (tgName 1) tgNil))))
    (sSeq (sAsg (fLst (fCons (fTup fNil) (fCons (fTup (fCons (fC (.str "swap")) fNil)) (fCons (fTup (fCons (fC (.str "swap")) (fCons (fVar 0) fNil))) (fCons (fTup (fCons (fC (.str "swap")) (fCons (fVar 0) (fCons (fTup (fCons (fC (.str "left")) (fCons (fC (.int 0)) fNil))) fNil)))) (fCons (fTup (fCons (fC (.str "swap")) (fCons (fVar 0) (fCons (fVar 1) fNil)))) (fCons (fTup (fCons (fC (.str "swap")) (fCons (fTup (fCons (fC (.str "top")) (fCons (fUn oNeg (fC (.int 1))) fNil))) (fCons (fVar 0) fNil)))) fNil))))))) (tgName 2))
    (sSeq (sAsg (fOp oAdd (fVar 2) (fLst (fCons (fTup (fCons (fC (.str "carry")) (fCons (fVar 0) (fCons (fVar 0) (fCons (fVar 0) fNil))))) (fCons (fTup (fCons (fC (.str "carry")) (fCons (fVar 1) (fCons (fVar 0) fNil)))) (fCons (fTup (fCons (fC (.str "cut")) (fCons (fC (.int 401)) fNil))) (fCons (fTup (fCons (fC (.str "cut")) (fCons (fUn oNeg (fC (.int 401))) fNil))) (fCons (fTup (fCons (fC (.str "cut")) fNil)) (fCons (fTup (fCons (fC (.str "cut")) (fCons (fC (.int 3)) (fCons (fC (.int 4)) fNil)))) fNil)))))))) (tgName 2))
    (sSeq (sAsg (fOp oAdd (fVar 2) (fLst (fCons (fTup (fCons (fC (.str "turn")) (fCons (fC (.str "top")) (fCons (fC (.int 401)) fNil)))) (fCons (fTup (fCons (fC (.str "turn")) (fCons (fC (.str "top")) (fCons (fUn oNeg (fC (.int 1))) fNil)))) (fCons (fTup (fCons (fC (.str "turn")) (fCons (fC (.str "mid")) (fCons (fC (.int 1)) fNil)))) (fCons (fTup (fCons (fC (.str "turn")) (fCons (fC (.str "top")) fNil))) (fCons (fTup (fCons (fC (.str "turn")) (fCons (fC (.int 1)) (fCons (fC (.int 1)) fNil)))) fNil))))))) (tgName 2))
    (sSeq (sAsg (fOp oAdd (fVar 2) (fLst (fCons (fTup (fCons (fC (.str "over")) (fCons (fC (.int 0)) fNil))) (fCons (fTup (fCons (fC (.str "over")) (fCons (fC (.str "top")) fNil))) (fCons (fTup (fCons (fC (.str "face")) fNil)) (fCons (fTup (fCons (fC (.str "face")) (fCons (fVar 1) fNil))) (fCons (fTup (fCons (fC (.str "face")) (fCons (fC (.int 3)) fNil))) (fCons (fTup (fCons (fC (.str "flip")) (fCons (fVar 0) fNil))) (fCons (fTup (fCons (fC (.str "")) (fCons (fVar 0) fNil))) fNil))))))))) (tgName 2))
    (sSeq (sAsg (fOp oAdd (fVar 2) (fLst (fCons (fTup (fCons (fC (.str "cut")) (fCons (fC (.str "3")) fNil))) (fCons (fTup (fCons (fC (.str "swap")) (fCons (fC (.str "t0")) (fCons (fC (.str "b0")) fNil)))) (fCons (fTup (fCons (fC (.str "cut")) (fCons (fVar 0) fNil))) (fCons (fTup (fCons (fC (.str "turn")) (fCons (fVar 0) (fCons (fC (.int 1)) fNil)))) (fCons (fTup (fCons (fC (.int 5)) (fCons (fC (.int 1)) fNil))) (fCons (fTup (fCons (fVar 0) fNil)) (fCons (fTup (fCons (fVar 0) (fCons (fVar 0) fNil))) fNil))))))))) (tgName 2))
    (sRet (fOp oAdd (fVar 2) (fLst (fCons (fTup (fCons (fC (.str "turn")) (fCons (fC (.str "top")) (fCons (fC (.str "1")) fNil)))) (fCons (fTup (fCons (fC (.str "turn")) (fCons (fC (.str "top")) (fCons (fVar 0) fNil)))) (fCons (fTup (fCons (fC (.str "face")) (fCons (fC (.str "top")) fNil))) (fCons (fTup (fCons (fC (.str "swap")) (fCons (fC (.int 1)) (fCons (fC (.int 2)) fNil)))) (fCons (fTup (fCons (fC (.str "Over")) fNil)) (fCons (fTup (fCons (fC (.str "over ")) fNil)) fNil)))))))))))))))
def m__law_odd_moves : Fn := fnOf false 0 3 b__law_odd_moves
end
def oddM : List D := [.tup [], .tup [.str "swap"], .tup [.str "swap", .tup [.str "top", .int 0]], .tup [.str "swap", .tup [.str "top", .int 0], .tup [.str "left", .int 0]], .tup [.str "swap", .tup [.str "top", .int 0], .tup [.str "bottom", .int 400]], .tup [.str "swap", .tup [.str "top", .int (-1)], .tup [.str "top", .int 0]], .tup [.str "carry", .tup [.str "top", .int 0], .tup [.str "top", .int 0], .tup [.str "top", .int 0]], .tup [.str "carry", .tup [.str "bottom", .int 400], .tup [.str "top", .int 0]], .tup [.str "cut", .int 401], .tup [.str "cut", .int (-401)], .tup [.str "cut"], .tup [.str "cut", .int 3, .int 4], .tup [.str "turn", .str "top", .int 401], .tup [.str "turn", .str "top", .int (-1)], .tup [.str "turn", .str "mid", .int 1], .tup [.str "turn", .str "top"], .tup [.str "turn", .int 1, .int 1], .tup [.str "over", .int 0], .tup [.str "over", .str "top"], .tup [.str "face"], .tup [.str "face", .tup [.str "bottom", .int 400]], .tup [.str "face", .int 3], .tup [.str "flip", .tup [.str "top", .int 0]], .tup [.str "", .tup [.str "top", .int 0]], .tup [.str "cut", .str "3"], .tup [.str "swap", .str "t0", .str "b0"], .tup [.str "cut", .tup [.str "top", .int 0]], .tup [.str "turn", .tup [.str "top", .int 0], .int 1], .tup [.int 5, .int 1], .tup [.tup [.str "top", .int 0]], .tup [.tup [.str "top", .int 0], .tup [.str "top", .int 0]], .tup [.str "turn", .str "top", .str "1"], .tup [.str "turn", .str "top", .tup [.str "top", .int 0]], .tup [.str "face", .str "top"], .tup [.str "swap", .int 1, .int 2], .tup [.str "Over"], .tup [.str "over "]]
theorem odd_eq (x y : MO) : m__law_odd_moves [] [x, y] = .ok (.d (.lst oddM)) [x, y] := by kernel_rfl
theorem odd_len : oddM.length = 37 := rfl
theorem odd_bad2 {d : D} (h : d ∈ oddM) (x y : MO) : m_is_move [.d d] [x, y] = .ok (.d (.bl false)) [x, y] := by
  simp only [oddM, List.mem_cons, List.not_mem_nil, or_false] at h
  rcases h with rfl | rfl | rfl | rfl | rfl | rfl | rfl | rfl | rfl | rfl | rfl | rfl | rfl | rfl | rfl | rfl | rfl | rfl | rfl | rfl | rfl | rfl | rfl | rfl | rfl | rfl | rfl | rfl | rfl | rfl | rfl | rfl | rfl | rfl | rfl | rfl | rfl
  all_goals kernel_rfl
end GD
/-! GL5: [z(y(a), ..) for a in asks] (printed by mkgl5.py). -/
namespace GD
open PySem PySem.Spec PyProof.Rows L2 LamX
/-- in a block: the slots but j are those of the frame -/
def tDw (K : PySem.W.Frag) (mg : Str → Option Value) (σ : L2.St) (j : Nat) (f : Ev) : TE := fun σ2 H2 Q => L2.wipe σ2 [j] = L2.wipe σ [j] ∧ tD K mg W0 f σ2 H2 Q
def tDAw (K : PySem.W.Frag) (mg : Str → Option Value) (σ : L2.St) (j : Nat) (f : EvL) : TA := fun σ2 H2 Q => L2.wipe σ2 [j] = L2.wipe σ [j] ∧ tDA K mg W0 f σ2 H2 Q
section
variable {X : Cx} {Wx : WX} {kk : Nat}
theorem pad_consW {σ0 : L2.St} {j : Nat} {e : Expr} {es : List Expr} {f : Ev} {g : EvL} (ha : PE X e (tDw X.K X.mg σ0 j f)) (hr : PA X es (tDA X.K X.mg W0 g)) (hs : starEach (e :: es) X.env = (false, eval e X.env) :: starEach es X.env := by rfl) : PA X (e :: es) (tDAw X.K X.mg σ0 j (fCons f g)) :=
  PA.imp (pa_cons ha hr hs) fun σ H Q t => by
    obtain ⟨hw, Hi, ι, ρ, m, R, g⟩ := t
    refine ⟨hw, Hi, ι, ρ, m, R, good_bind g fun w m1 Hi1 ι1 v H1 st M rv g1 => ⟨Hi1, ι1, ρ, m1, R.step st M, good_bind g1 fun ws m2 Hi2 ι2 vs H2 st2 M2 rvs g2 => ?_⟩⟩
    exact g2.here M2 (.cons (rv.step st2) rvs)
theorem pd_callW {σ0 : L2.St} {j i : Nat} {x : Str} {e : Expr} {es : List Expr} {g : Fn} {a : EvL} {p pos : Pos} (c : Cc X W0 kk) (F : DefOk X.prog X.w X.K X.mg X.base x i g) (hj : i ≤ kk) (hg : Gl X x) (ha : PA X (e :: es) (tDAw X.K X.mg σ0 j a)) (hdb : (x == ("__debug__" : Str)) = false := by decide)
    (he : starEach (e :: es) X.env = (false, eval e X.env) :: starEach es X.env := by rfl) (hpl : (backTo pos (starEach es X.env)).any (·.1) = false := by rfl) : PE X (.Call (.Name x p) (e :: es) [] pos) (tDw X.K X.mg σ0 j (fCall g a)) := by
  obtain ⟨f, F, hm, hk⟩ := F.ex
  refine ⟨fun pins s σ H Q I h => ?_⟩
  obtain ⟨hw, h⟩ := h
  refine wpAny_Call_Name_kw (ld_glob I hg hm ?_ hdb)
  refine PySem.W.callWith_K (h₀ := X.base) I.ok.mod.kin hk (thn (ha.run pos pins s σ H _ I ⟨hw, call_imp h⟩) fun us s1 ⟨vs, H1, I1, r, q⟩ => ⟨I1.kIn, ?_⟩) he hpl
  exact wpAny_call (run_fnRS F (c.room.mono hj) (passAt c.tk σ) I1 r q)
theorem pd_tryLc {elt : Expr} {f : Ev} {y a : Str} {cs : List Str} {fh : XT → Fn} {k kf j : Nat} {Z : LamZ} {P : Addr} {tbl : List Ev} {iter : Expr} {it : EvL} {scope : Scope} {p p1 p2 p3 pos : Pos} (c : Cc X Wx kk) (T : TryOk X.prog X.w X.K X.mg X.base y cs fh kf) (LC : LamC X Z P) (L : LamsOk X Z k 0 tbl) (hk : k + 2 ≤ kk) (hkf : kf ≤ k + 1)
    (hi : PI X (.Name a p3) iter (tDI X.K X.mg Wx it)) (ok : BlkOk X.N X.env.scope scope [(a, j)]) (hg : ∀ (s : Shared) (H : Hp) (C : Addr) (cl : List (Str × Addr)) (fp : List Addr), PG (X.blk s H scope (compEnvC scope cl C X.env) fp) (.Name a p3) (tDGv X.K X.mg [j] (tgName j)))
    (hj : X.N[j]? = some a) (hv : ∀ cl C, Vis (compEnvC scope cl C X.env).scope a) (hy : ∀ cl C, (compEnvC scope cl C X.env).kindOf y = some .globalImplicit) (he : ∀ (σ : L2.St) (s : Shared) (H : Hp) (C : Addr) (cl : List (Str × Addr)) (fp : List Addr), PE (X.blk s H scope (compEnvC scope cl C X.env) fp) (.Call (.Name y p) [.Name a p1] [] p2) (tDw X.K X.mg σ j (eTry cs fh Z tbl j)) → PE (X.blk s H scope (compEnvC scope cl C X.env) fp) elt (tDw X.K X.mg σ j f)) (hs : ∀ x, foldedSetIterable iter X.env x = pure x := by intro _; rfl)
    (hdb : (y == ("__debug__" : Str)) = false := by decide) (hda : (a == ("__debug__" : Str)) = false := by decide) (hca : (a == ("__classdict__" : Str)) = false := by decide) :
    PE X (.ListComp elt [⟨.Name a p3, iter, [], 0⟩] scope pos) (tD X.K X.mg Wx (fLc it (tgName j) gYes f [j])) := by
  refine ⟨fun pins s σ H Q I h => ?_⟩
  rw [eval_ListComp]
  have z := lc_imp (mu := false) h
  obtain ⟨gf, hm, hkp⟩ := T.at_
  refine lc_frame (Q := Q) (own := [(a, j)]) (tt := tDT X.K X.mg W0 gYes) (te := tDw X.K X.mg σ j f) c.calm c.nd I hi ok hg (fun _ _ _ _ _ => ptsd_nil) (fun s3 H3 C cl fp I3 hfp => he σ s3 H3 C cl fp ?_) hs ?_ fun D C s' m H' I' q hn f => ⟨m, hn, fun h'' sb => ?_⟩
  · refine ⟨fun pins2 s4 σ2 H4 Q2 I4 h4 => ?_⟩
    obtain ⟨hw, Hi, ι, ρ, m, RR, g⟩ := h4
    unfold eTry at g
    split at g
    case h_2 => exact g.elim
    rename_i i Z' hρ
    split at g
    case isFalse => exact g.elim
    rename_i hZ
    subst hZ
    split at g
    case h_2 => exact g.elim
    rename_i f hf
    obtain ⟨v, hv1, rv⟩ := RR.slots.2 j _ hρ
    cases rv with
    | lam h1 h2 h3 =>
      rename_i fa c' dV
      refine wpAny_Call_Name_kw (ld_glob I4 (hy cl C) hm ?_ hdb)
      refine PySem.W.callWith_K (h₀ := X.base) I4.ok.mod.kin hkp (thn ((pa_cons (pe_var (X := X.blk s3 H3 scope (compEnvC scope cl C X.env) fp) (pos := p1) (i := j) hj (hv cl C) hda hca) pa_nil).run p2 pins2 s4 σ2 H4 (fun xs H1 => xs = [.ref fa] ∧ H1 = H4) I4 ⟨_, hv1, rfl, rfl⟩) fun us s5 ⟨xs, H5, I5, r, e1, e2⟩ => ⟨I5.kIn, ?_⟩) rfl rfl
      subst e1
      rw [e2] at I5
      cases r with
      | cons r1 r2 =>
        cases r2
        cases r1
        have hS : RepS X.K X.mg Hi ι (ρ.set j none) σ := by
          have hl : σ2.length = σ.length := by have := congrArg List.length hw; rwa [wipe_length, wipe_length] at this
          refine ⟨by rw [List.length_set, RR.slots.1, hl], fun i w e => ?_⟩
          by_cases hij : j = i
          · subst hij
            by_cases hlt : j < ρ.length
            · rw [List.getElem?_set_self hlt] at e
              cases e
            · rw [List.getElem?_eq_none (by rw [List.length_set]; omega)] at e
              cases e
          · rw [List.getElem?_set_ne hij] at e
            obtain ⟨v, q1, q2⟩ := RR.slots.2 i w e
            refine ⟨v, ?_, q2⟩
            have q3 : (L2.wipe σ2 [j])[i]? = some (some v) := by
              show ((σ2 : List (Option V)).set j none)[i]? = _
              rw [List.getElem?_set_ne hij]
              exact q1
            rw [hw] at q3
            exact (wipe_some q3).1
        obtain ⟨gf', hm', _, rc⟩ := try_at (ex := fp) (sM := s3) T LC.cells L c.nd (c.room.mono hk) hkf hf I3 I5.env0 I5.base (fun y c e z => hfp c z y c e rfl) RR.mok hS (.lam h1 h2 h3) (good_no0 g)
        rw [hm] at hm'
        cases hm'
        refine wpAny_call (codeAny_mono rc fun r s' z => ?_)
        cases r with
        | error er => exact (show False from z).elim
        | ok fl =>
          cases fl with
          | ret u => exact I5.after z
          | next => exact z.elim
          | brk => exact z.elim
          | cont => exact z.elim
  · show tDI X.K X.mg Wx it σ H _
    obtain ⟨Hi, ι, ρ, m, RR, gd⟩ := z
    refine ⟨Hi, ι, ρ, m, RR, ?_⟩
    cases e : it ρ m with
    | bad => rw [e] at gd; exact gd
    | exc c ns vs m' => rw [e] at gd; exact gd
    | ok ws m' =>
      rw [e] at gd
      intro Hi1 ι1 J H1 st M rJ D hD
      obtain ⟨Wt, h0, turn⟩ := gd Hi1 ι1 J H1 st M rJ D hD
      refine ⟨Wt, h0, fun i n H5 w5 => ?_⟩
      rcases turn i n H5 w5 with z | ⟨go, Nx, hNx, step⟩
      · exact .inl z
      · refine .inr ⟨go, Nx, hNx, fun x H6 y6 => ?_⟩
        obtain ⟨Hi2, ι2, ρ2, m2, w2, R2, rw2, g2⟩ := step x H6 y6
        refine ⟨Hi2, ι2, ρ2, m2, w2, R2, rw2, ?_⟩
        intro Hi3 ι3 σ3 H7 st3 R3 hw3
        obtain ⟨q1, Hi4, ι4, ρ4, m4, R4, q2⟩ := g2 Hi3 ι3 σ3 H7 st3 R3 hw3
        refine ⟨q1, Hi4, ι4, ρ4, m4, R4, fun Hi5 ι5 b H8 st5 M5 rb => ?_⟩
        have q3 := q2 Hi5 ι5 b H8 st5 M5 rb
        cases rb
        exact ⟨q1, q3⟩
  · obtain ⟨f0, f1, f2, f3, f4, f5⟩ := f
    exact ⟨.ref D, H', I'.turned (t' := s'.toks) (fun b o hb e => (sb.2 b hb).trans e) f0 f1 f3 f4 f5, rfl, q⟩
end
end GD
namespace GD
open PySem PySem.Spec PyProof.Rows L2
noncomputable section
def errs : List Str := ["TooWide", "BadForm", "BadMove"]
def ml_law_0 : Ev :=
    (fUn (oProp [("Form", m_Form_least)]) (fCMeth true [("Form", m_Form_of)] (fC (.gl "Form")) (fCons (fLst (fCons (fTup (fCons (fC (.str "cut")) (fCons (fVar 2) fNil))) (fCons (fTup (fCons (fC (.str "cut")) (fCons (fVar 3) fNil))) fNil))) fNil)))
def ml_law_1 : Ev :=
    (fUn (oProp [("Form", m_Form_least)]) (fOp (oOwn [("Form", m_Form___mul__)]) (fCMeth true [("Form", m_Form_of)] (fC (.gl "Form")) (fCons (fLst (fCons (fTup (fCons (fC (.str "cut")) (fCons (fVar 2) fNil))) fNil)) fNil)) (fCMeth true [("Form", m_Form_of)] (fC (.gl "Form")) (fCons (fLst (fCons (fTup (fCons (fC (.str "cut")) (fCons (fVar 3) fNil))) fNil)) fNil))))
def ml_law_2 : Ev :=
    (fUn (oProp [("Form", m_Form_least)]) (fCMeth true [("Form", m_Form_of)] (fC (.gl "Form")) (fCons (fLst (fCons (fTup (fCons (fC (.str "cut")) (fCons (fUn oNeg (fVar 2)) fNil))) (fCons (fTup (fCons (fC (.str "cut")) (fCons (fUn oNeg (fVar 3)) fNil))) fNil))) fNil)))
def ml_law_3 : Ev :=
    (fUn (oProp [("Form", m_Form_least)]) (fCMeth true [("Form", m_Form_of)] (fC (.gl "Form")) (fCons (fLst (fCons (fTup (fCons (fC (.str "cut")) (fCons (fVar 2) fNil))) (fCons (fTup (fCons (fC (.str "cut")) (fCons (fVar 3) fNil))) (fCons (fTup (fCons (fC (.str "cut")) (fCons (fUn oNeg (fVar 3)) fNil))) fNil)))) fNil)))
def ml_law_4 : Ev :=
    (fCMeth true [("Form", m_Form_of)] (fC (.gl "Form")) (fCons (fLst (fCons (fTup (fCons (fC (.str "cut")) (fCons (fC (.int 400)) fNil))) (fCons (fTup (fCons (fC (.str "cut")) (fCons (fC (.int 400)) fNil))) (fCons (fVar 7) (fCons (fVar 7) fNil))))) fNil))
def ml_law_5 (Wd : PySem.World) : Ev :=
    (fUn (oProp [("Form", m_Form_least)]) (fMeth [("Form", (m_Form_inverse Wd))] "inverse" (fVar 9) fNil))
def ml_law_6 (Wd : PySem.World) : Ev :=
    (fCB oLen (fCons (fMeth [("Form", m_Form_top)] "top" (fMeth [("Form", (m_Form_inverse Wd))] "inverse" (fVar 10) fNil) fNil) fNil))
def lams_law (Wd : PySem.World) (Z : LamZ) (P : Addr) : List Ev := [ml_law_0, ml_law_1, ml_law_2, ml_law_3, ml_law_4, (ml_law_5 Wd), (ml_law_6 Wd)]
def b_law (Wd : PySem.World) (Z : LamZ) (P : Addr) : Ex :=
    (sTab P "law.<locals>.<lambda>" (sAsg (fCall m__law_bag (fCons (fVar 0) fNil)) (tgName 1))
    (sSeq (sAsg (fTup (fCons (fCall m__law_of (fCons (fVar 1) (fCons (fLst (fCons (fC (.int 396)) (fCons (fC (.int 399)) (fCons (fC (.int 400)) fNil)))) fNil))) (fCons (fCall m__law_pull (fCons (fVar 1) (fCons (fC (.int 5)) fNil))) fNil))) (tgUn 2 (tgCons (tgName 2) (tgCons (tgName 3) tgNil))))
    (sSeq (sAsg (fLst (fCons (fLam 1 P "law.<locals>.<lambda>" Z 1) (fCons (fLam 1 P "law.<locals>.<lambda>" Z 0) fNil))) (tgName 4))
    (sSeq (sAsg (fIf (gBool (fOp oLt (fOp oAdd (fVar 2) (fVar 3)) (fC (.int 401)))) (fTup (fCons (fC (.str "value")) (fCons (fOp oAdd (fVar 2) (fVar 3)) fNil))) (fTup (fCons (fC (.str "TooWide")) (fCons (fC (.int 400)) fNil)))) (tgName 5))
    (sSeq (sIf (gNot (gTest (fCB oAll (fCons (fLc (iSeq (fVar 4)) (tgName 13) gYes (fCall (m__law_same 6) (fCons (eTry errs m__law_field Z ((lams_law Wd) Z P) 13) (fCons (fVar 5) fNil))) [13]) fNil))))
    (sRet (fC (.bl false)))
    sNext)
    (sSeq (sIf (gNot (gTest (fCall (m__law_same 6) (fCons (fTry errs m__law_field Z ((lams_law Wd) Z P) (fLam 1 P "law.<locals>.<lambda>" Z 2)) (fCons (fVar 5) fNil)))))
    (sRet (fC (.bl false)))
    sNext)
    (sSeq (sAsg (fTry errs m__law_field Z ((lams_law Wd) Z P) (fLam 1 P "law.<locals>.<lambda>" Z 3)) (tgName 6))
    (sSeq (sIf (gNot (gTest (fCall (m__law_same 6) (fCons (fVar 6) (fCons (fIf (gBool (fOp oLt (fOp oAdd (fVar 2) (fVar 3)) (fC (.int 401)))) (fTup (fCons (fC (.str "value")) (fCons (fVar 2) fNil))) (fTup (fCons (fC (.str "TooWide")) (fCons (fC (.int 400)) fNil)))) fNil)))))
    (sRet (fC (.bl false)))
    sNext)
    (sSeq (sAsg (fCall m__law_of (fCons (fVar 1) (fCons (fCall m__law_odd_moves fNil) fNil))) (tgName 7))
    (sSeq (sIf (gBool (fOp oNe (fTry errs m__law_field Z ((lams_law Wd) Z P) (fLam 1 P "law.<locals>.<lambda>" Z 4)) (fTup (fCons (fC (.str "BadMove")) (fCons (fC (.int 2)) fNil)))))
    (sRet (fC (.bl false)))
    sNext)
    (sSeq (sIf (gBool (fOp (oOwnNe [("Form", m_Form___eq__)]) (fCMeth true [("Form", m_Form_of)] (fC (.gl "Form")) (fCons (fLst (fCons (fTup (fCons (fC (.str "cut")) (fCons (fC (.int 400)) fNil))) (fCons (fTup (fCons (fC (.str "cut")) (fCons (fUn oNeg (fC (.int 400))) fNil))) (fCons (fTup (fCons (fC (.str "over")) fNil)) (fCons (fTup (fCons (fC (.str "over")) fNil)) fNil))))) fNil)) (fCMeth false [("Form", m_Form_still)] (fC (.gl "Form")) fNil)))
    (sRet (fC (.bl false)))
    sNext)
    (sSeq (sAsg (fOp oAdd (fC (.int 1)) (fVar 3)) (tgName 8))
    (sSeq (sAsg (fCall m_Form (fCons (fC (.bl false)) (fCons (fVar 8) (fCons (fLc (iRange1 (fCons (fC (.int 400)) fNil)) (tgName 11) gYes (fTup (fCons (fC (.str "top")) (fCons (fVar 11) (fCons (fC (.bl false)) fNil)))) [11]) (fCons (fLc (iRange1 (fCons (fVar 8) fNil)) (tgName 12) gYes (fTup (fCons (fC (.str "top")) (fCons (fOp oAdd (fC (.int 400)) (fVar 12)) (fCons (fC (.bl false)) fNil)))) [12]) fNil))))) (tgName 9))
    (sSeq (sAsg (fCall m_Form (fCons (fC (.bl false)) (fCons (fVar 8) (fCons (fLc (iRange1 (fCons (fOp oSub (fC (.int 400)) (fVar 8)) fNil)) (tgName 11) gYes (fTup (fCons (fC (.str "top")) (fCons (fVar 11) (fCons (fC (.bl false)) fNil)))) [11]) (fCons (fLc (iRange1 (fCons (fVar 8) fNil)) (tgName 12) gYes (fTup (fCons (fC (.str "top")) (fCons (fOp oAdd (fOp oSub (fC (.int 400)) (fVar 8)) (fVar 12)) (fCons (fC (.bl false)) fNil)))) [12]) fNil))))) (tgName 10))
    (sSeq (sIf (gOr (gBool (fOp oNe (fUn (oProp [("Form", m_Form_least)]) (fVar 9)) (fOp oAdd (fC (.int 400)) (fVar 8)))) (gBool (fOp oNe (fTry errs m__law_field Z ((lams_law Wd) Z P) (fLam 1 P "law.<locals>.<lambda>" Z 5)) (fTup (fCons (fC (.str "TooWide")) (fCons (fC (.int 400)) fNil))))))
    (sRet (fC (.bl false)))
    sNext)
    (sRet (fAnd (fOp oEq (fTry errs m__law_field Z ((lams_law Wd) Z P) (fLam 1 P "law.<locals>.<lambda>" Z 6)) (fTup (fCons (fC (.str "value")) (fCons (fC (.int 400)) fNil)))) (fOp (oOwnEq [("Form", m_Form___eq__)]) (fMeth [("Form", (m_Form_inverse Wd))] "inverse" (fMeth [("Form", (m_Form_inverse Wd))] "inverse" (fVar 10) fNil) fNil) (fVar 10)))))))))))))))))))
def m_law (Wd : PySem.World) (Z : LamZ) (P : Addr) : Fn := fnOf false 1 14 ((b_law Wd) Z P)
end
open FM
theorem loop_xc9 {g : Tg} {p : Ex} {w : W} {ws : List W} {ρ ρ1 ρ2 : Env} {m m1 m2 : Mem} {c : Str} {ns : List Str} {vs : List D} (h1 : g w ρ m = .ok ρ1 m1) (h2 : p ρ1 m1 = .xc c ns vs ρ2 m2) : loop g p (w :: ws) ρ m = .xc c ns vs ρ2 m2 := by
  unfold loop
  rw [h1]
  simp only [noX_ok, R.lift_ok]
  rw [h2]
theorem dif_no {n : Int} {x y : List Mv} {p : Int} (h : sentF n x (p, false) = sentF n y (p, false)) : dif n x y p = false := by
  unfold dif
  rw [h]
  simp
def wid (F : Fm) : Prop := F.A.length ≤ 400 ∧ F.B.length ≤ 400
theorem wid_ok {F : Fm} {n : Nat} (h : F.Ok n) (w : wid F) : F.Ok 400 := ⟨h.bij, h.nA, h.nB, w.1, w.2⟩
theorem own_mul9 {F G : Fm} {n k : Nat} (hF : F.Ok n) (hG : G.Ok k) (wF : wid F) (wG : wid G) (w : wid (F.mul G)) (m : Mem) : oOwn [("Form", m_Form___mul__)] (.d F.D) (.d G.D) m = .ok (.d (F.mul G).D) m := by
  have z := mul_eq9 (wid_ok hF wF) (wid_ok hG wG) (by decide) w.1 w.2 m
  unfold oOwn Fm.D
  simp [z]
  rfl
theorem own_mul_x {F G : Fm} {n k : Nat} (hF : F.Ok n) (hG : G.Ok k) (wF : wid F) (wG : wid G) (w : ¬ wid (F.mul G)) (m : Mem) : oOwn [("Form", m_Form___mul__)] (.d F.D) (.d G.D) m = .exc "TooWide" ["limit", "code"] [.int 400, .str "TooWide"] m := by
  have hX : 400 < (F.mul G).A.length ∨ 400 < (F.mul G).B.length := by
    unfold wid at w
    omega
  have z := mul_x9 (wid_ok hF wF) (wid_ok hG wG) (by decide) hX m
  unfold oOwn Fm.D
  simp [z]
theorem wid_fm (mv : Mv) (h : mv.reach ≤ 400) : wid mv.fm := ⟨Nat.le_trans mv.fm_ok.lA h, Nat.le_trans mv.fm_ok.lB h⟩
theorem of_step9 (a : List Mv) (mv : Mv) (o0 o1 o2 o5 o6 o7 o8 : Option W) (m : Mem) (hr : mv.reach ≤ 400) (wa : wid (fmOf a)) (wb : wid (fmOf (a ++ [mv]))) : ∃ p5 p6 p7 p8 : Option W, L2_Form_of [o0, o1, o2, some (.d mv.D), some (.d (fmOf a).D), o5, o6, o7, o8] m = .nx [o0, o1, o2, some (.d mv.D), some (.d (fmOf (a ++ [mv])).D), p5, p6, p7, p8] m := by
  have e1 := move_parts_eq mv m (by omega)
  have e2 := fm_new mv m (by omega)
  rw [fmOf_snoc] at wb
  have e3 := own_mul9 (fmOf_ok a) mv.fm_ok wa (wid_fm mv hr) wb m
  rw [← fmOf_snoc] at e3
  exact ⟨_, _, _, _, by simp [L2_Form_of, e1, e2, e3]; exact ⟨rfl, rfl, rfl, rfl⟩⟩
theorem of_step_x (a : List Mv) (mv : Mv) (o0 o1 o2 o5 o6 o7 o8 : Option W) (m : Mem) (hr : mv.reach ≤ 400) (wa : wid (fmOf a)) (wb : ¬ wid (fmOf (a ++ [mv]))) : ∃ ρ' : Env, L2_Form_of [o0, o1, o2, some (.d mv.D), some (.d (fmOf a).D), o5, o6, o7, o8] m = .xc "TooWide" ["limit", "code"] [.int 400, .str "TooWide"] ρ' m := by
  have e1 := move_parts_eq mv m (by omega)
  have e2 := fm_new mv m (by omega)
  rw [fmOf_snoc] at wb
  have e3 := own_mul_x (fmOf_ok a) mv.fm_ok wa (wid_fm mv hr) wb m
  exact ⟨[o0, o1, o2, some (.d mv.D), some (.d (fmOf a).D), some (.d (.bl mv.ft)), some (.d (.int mv.fs)), some (.d (.lst (mv.fA.map enD))), some (.d (.lst (mv.fB.map enD)))], by simp [L2_Form_of, e1, e2, e3]⟩
theorem of_loop (g ls o2 : Option W) (m : Mem) : ∀ (b a : List Mv) (o3 o5 o6 o7 o8 : Option W), (∀ mv ∈ b, mv.reach ≤ 400) → (∀ c d, b = c ++ d → wid (fmOf (a ++ c))) → ∃ p3 p5 p6 p7 p8 : Option W, loop (tgName 3) L2_Form_of (b.map (W.d ∘ Mv.D)) [g, ls, o2, o3, some (.d (fmOf a).D), o5, o6, o7, o8] m = .nx [g, ls, o2, p3, some (.d (fmOf (a ++ b)).D), p5, p6, p7, p8] m
  | [], a, o3, o5, o6, o7, o8, _, _ => by rw [List.append_nil]; exact ⟨_, _, _, _, _, rfl⟩
  | mv :: b, a, o3, o5, o6, o7, o8, hr, hp => by
    have w0 := hp [] (mv :: b) rfl
    rw [List.append_nil] at w0
    obtain ⟨p5, p6, p7, p8, e⟩ := of_step9 a mv g ls o2 o5 o6 o7 o8 m (hr mv (List.mem_cons_self ..)) w0 (hp [mv] b rfl)
    obtain ⟨q3, q5, q6, q7, q8, e2⟩ := of_loop g ls o2 m b (a ++ [mv]) (some (.d mv.D)) p5 p6 p7 p8 (fun x hx => hr x (List.mem_cons_of_mem _ hx)) (fun c d hcd => by
      have := hp (mv :: c) d (by rw [hcd]; rfl)
      rw [List.append_assoc]
      exact this)
    rw [List.append_assoc] at e2
    exact ⟨q3, q5, q6, q7, q8, loop_cons rfl e e2⟩
theorem of_loop_x (g ls o2 : Option W) (m : Mem) (mv : Mv) (post : List Mv) (hm : mv.reach ≤ 400) : ∀ (b a : List Mv) (o3 o5 o6 o7 o8 : Option W), (∀ mv ∈ b, mv.reach ≤ 400) → (∀ c d, b = c ++ d → wid (fmOf (a ++ c))) → ¬ wid (fmOf (a ++ b ++ [mv])) → ∃ ρ' : Env, loop (tgName 3) L2_Form_of ((b ++ mv :: post).map (W.d ∘ Mv.D)) [g, ls, o2, o3, some (.d (fmOf a).D), o5, o6, o7, o8] m = .xc "TooWide" ["limit", "code"] [.int 400, .str "TooWide"] ρ' m
  | [], a, o3, o5, o6, o7, o8, _, hp, hx => by
    have w0 := hp [] [] rfl
    rw [List.append_nil] at w0 hx
    obtain ⟨ρ', e⟩ := of_step_x a mv g ls o2 o5 o6 o7 o8 m hm w0 hx
    exact ⟨ρ', loop_xc9 rfl e⟩
  | x :: b, a, o3, o5, o6, o7, o8, hr, hp, hx => by
    have w0 := hp [] (x :: b) rfl
    rw [List.append_nil] at w0
    obtain ⟨p5, p6, p7, p8, e⟩ := of_step9 a x g ls o2 o5 o6 o7 o8 m (hr x (List.mem_cons_self ..)) w0 (hp [x] b rfl)
    obtain ⟨ρ', e2⟩ := of_loop_x g ls o2 m mv post hm b (a ++ [x]) (some (.d x.D)) p5 p6 p7 p8 (fun y hy => hr y (List.mem_cons_of_mem _ hy)) (fun c d hcd => by
      have := hp (x :: c) d (by rw [hcd]; rfl)
      rw [List.append_assoc]
      exact this) (by rw [List.append_assoc a [x] b]; exact hx)
    exact ⟨ρ', loop_cons rfl e e2⟩
theorem ofchk_loop (g ls : Option W) (m : Mem) : ∀ (l : List Mv) (i : Nat) (o2 o3 : Option W), (∀ mv ∈ l, mv.ok) → ∃ p2 p3, loop (tgUn 2 (tgCons (tgName 2) (tgCons (tgName 3) tgNil))) L1_Form_of (enumD i (l.map Mv.D)) [g, ls, o2, o3, none, none, none, none, none] m = .nx [g, ls, p2, p3, none, none, none, none, none] m
  | [], i, o2, o3, _ => ⟨o2, o3, rfl⟩
  | mv :: l, i, o2, o3, h => by
    have im := is_move_eq mv m (h mv (List.mem_cons_self ..))
    obtain ⟨p2, p3, e⟩ := ofchk_loop g ls m l (i + 1) (some (.d (.int (i : Int)))) (some (.d mv.D)) (fun x hx => h x (List.mem_cons_of_mem _ hx))
    refine ⟨p2, p3, loop_cons (ρ1 := [g, ls, some (.d (.int (i : Int))), some (.d mv.D), none, none, none, none, none]) (m1 := m) (tg_un2t rfl rfl) ?_ e⟩
    unfold L1_Form_of
    exact es_ifF (et_not (x := true) (et_test (ev_call (ev_cons (ev_var rfl) ev_nil) im) rfl)) es_next
theorem ofchk_bad (g ls : Option W) (m : Mem) (d : D) (rest : List D) (hd : m_is_move [.d d] m = .ok (.d (.bl false)) m) : ∀ (l : List Mv) (i : Nat) (o2 o3 : Option W), i + l.length ≤ 100 → (∀ mv ∈ l, mv.ok) → ∃ ρ' : Env, loop (tgUn 2 (tgCons (tgName 2) (tgCons (tgName 3) tgNil))) L1_Form_of (enumD i (l.map Mv.D ++ d :: rest)) [g, ls, o2, o3, none, none, none, none, none] m = .xc "BadMove" ["at", "code"] [.int ((i + l.length : Nat) : Int), .str "BadMove"] ρ' m
  | [], i, o2, o3, hi, _ => by
    have fm : fmtB (.int (i : Int)) = true := fmt_of (by omega) (by simp at hi; omega)
    refine ⟨[g, ls, some (.d (.int (i : Int))), some (.d d), none, none, none, none, none], loop_xc9 (ρ1 := [g, ls, some (.d (.int (i : Int))), some (.d d), none, none, none, none, none]) (m1 := m) (tg_un2t rfl rfl) ?_⟩
    unfold L1_Form_of
    refine es_ifT (et_not (x := false) (et_test (ev_call (ev_cons (ev_var rfl) ev_nil) hd) rfl)) ?_
    simp [fm]
  | mv :: l, i, o2, o3, hi, h => by
    have im := is_move_eq mv m (h mv (List.mem_cons_self ..))
    rw [List.length_cons] at hi
    obtain ⟨ρ', e⟩ := ofchk_bad g ls m d rest hd l (i + 1) (some (.d (.int (i : Int)))) (some (.d mv.D)) (by omega) (fun x hx => h x (List.mem_cons_of_mem _ hx))
    rw [show i + 1 + l.length = i + (mv :: l).length by rw [List.length_cons]; omega] at e
    refine ⟨ρ', loop_cons (ρ1 := [g, ls, some (.d (.int (i : Int))), some (.d mv.D), none, none, none, none, none]) (m1 := m) (tg_un2t rfl rfl) ?_ e⟩
    unfold L1_Form_of
    exact es_ifF (et_not (x := true) (et_test (ev_call (ev_cons (ev_var rfl) ev_nil) im) rfl)) es_next
theorem cm_still (o1 o2 o3 : Option W) (m : Mem) : fCMeth false [("Form", m_Form_still)] (fVar 0) fNil [some (.d (.gl "Form")), o1, o2, o3, none, none, none, none, none] m = .ok (.d (fmOf []).D) m := by
  have st := still_eq m
  simp [fCMeth, st]
  rfl
theorem it_lst (xs : List D) (i : Nat) (ρ : Env) (m : Mem) (h : ρ[i]? = some (some (.d (.lst xs)))) : iSeq (fVar i) ρ m = .ok (xs.map W.d) m := by
  unfold iSeq
  rw [ev_var h]
  rfl
theorem it_en (xs : List D) (ρ : Env) (m : Mem) (h : ρ[1]? = some (some (.d (.lst xs)))) : iEnumA (fCons (fVar 1) fNil) ρ m = .ok (enumD 0 xs) m := by
  unfold iEnumA
  rw [ev_cons (ev_var h) ev_nil]
  rfl
theorem fof9 (l : List Mv) (m : Mem) (ho : ∀ mv ∈ l, mv.ok) (hr : ∀ mv ∈ l, mv.reach ≤ 400) (hp : ∀ c d, l = c ++ d → wid (fmOf c)) : m_Form_of [.d (.gl "Form"), .d (.lst (l.map Mv.D))] m = .ok (.d (fmOf l).D) m := by
  refine e_fnr (ws := [.d (.gl "Form"), .d (.lst (l.map Mv.D))]) _ ?_ rfl
  obtain ⟨p2, p3, e1⟩ := ofchk_loop (some (.d (.gl "Form"))) (some (.d (.lst (l.map Mv.D)))) m l 0 none none ho
  obtain ⟨q3, q5, q6, q7, q8, e2⟩ := of_loop (some (.d (.gl "Form"))) (some (.d (.lst (l.map Mv.D)))) p2 m l [] p3 none none none none hr (fun c d h => hp c d h)
  rw [List.nil_append, ← List.map_map] at e2
  show b_Form_of [some (.d (.gl "Form")), some (.d (.lst (l.map Mv.D))), none, none, none, none, none, none, none] m = _
  unfold b_Form_of
  exact es_seq (es_for (it_en _ _ _ rfl) e1) (es_seq (es_set (cm_still _ _ _ _)) (es_seq (es_for (it_lst _ 1 _ _ rfl) e2) (es_ret (ev_var rfl))))
theorem fofx (l : List Mv) (mv : Mv) (post : List Mv) (m : Mem) (ho : ∀ x ∈ l ++ mv :: post, x.ok) (hr : ∀ x ∈ l, x.reach ≤ 400) (hm : mv.reach ≤ 400) (hp : ∀ c d, l = c ++ d → wid (fmOf c)) (hx : ¬ wid (fmOf (l ++ [mv]))) : m_Form_of [.d (.gl "Form"), .d (.lst ((l ++ mv :: post).map Mv.D))] m = .exc "TooWide" ["limit", "code"] [.int 400, .str "TooWide"] m := by
  obtain ⟨p2, p3, e1⟩ := ofchk_loop (some (.d (.gl "Form"))) (some (.d (.lst ((l ++ mv :: post).map Mv.D)))) m (l ++ mv :: post) 0 none none ho
  obtain ⟨ρ', e2⟩ := of_loop_x (some (.d (.gl "Form"))) (some (.d (.lst ((l ++ mv :: post).map Mv.D)))) p2 m mv post hm l [] p3 none none none none hr (fun c d h => hp c d h) hx
  rw [← List.map_map] at e2
  refine e_fnx (ws := [.d (.gl "Form"), .d (.lst ((l ++ mv :: post).map Mv.D))]) (ρ' := ρ') _ ?_ rfl
  show b_Form_of [some (.d (.gl "Form")), some (.d (.lst ((l ++ mv :: post).map Mv.D))), none, none, none, none, none, none, none] m = _
  unfold b_Form_of
  exact es_seq (es_for (it_en _ _ _ rfl) e1) (es_seq (es_set (cm_still _ _ _ _)) (es_seqX (es_for (it_lst _ 1 _ _ rfl) e2)))
theorem fofb (l : List Mv) (d : D) (rest : List D) (m : Mem) (hl : l.length ≤ 50) (ho : ∀ x ∈ l, x.ok) (hd : m_is_move [.d d] m = .ok (.d (.bl false)) m) : m_Form_of [.d (.gl "Form"), .d (.lst (l.map Mv.D ++ d :: rest))] m = .exc "BadMove" ["at", "code"] [.int (l.length : Int), .str "BadMove"] m := by
  obtain ⟨ρ', e1⟩ := ofchk_bad (some (.d (.gl "Form"))) (some (.d (.lst (l.map Mv.D ++ d :: rest)))) m d rest hd l 0 none none (by omega) ho
  rw [Nat.zero_add] at e1
  refine e_fnx (ws := [.d (.gl "Form"), .d (.lst (l.map Mv.D ++ d :: rest))]) (ρ' := ρ') _ ?_ rfl
  show b_Form_of [some (.d (.gl "Form")), some (.d (.lst (l.map Mv.D ++ d :: rest))), none, none, none, none, none, none, none] m = _
  unfold b_Form_of
  exact es_seqX (es_for (it_en _ _ _ rfl) e1)
/-! ### the forms of cuts -/
theorem img_cut (k n p : Int) (h : (k.natAbs : Int) ≤ n) : (Mv.cut k).img n p = ((p - k) % n, false) := by
  rw [Mv.img_go (show ((Mv.cut k).reach : Int) ≤ n from h)]
  rfl
theorem img_over (n p : Int) (h : 0 ≤ n) : Mv.over.img n p = (n - 1 - p, true) := by
  rw [Mv.img_go (show ((Mv.over).reach : Int) ≤ n from h)]
  rfl
theorem two_cuts (a b : Int) : fmOf [.cut a, .cut b] = fmOf [.cut (a + b)] := by
  refine alike_great _ _ (4 * ((reaches [Mv.cut a, .cut b] : Int) + reaches [Mv.cut (a + b)] + 1)) (by omega) fun p p0 p1 => ?_
  have r1 : (reaches [Mv.cut a, .cut b] : Int) = a.natAbs + b.natAbs := by simp [reaches, Mv.reach]
  have r2 : (reaches [Mv.cut (a + b)] : Int) = (a + b).natAbs := by simp [reaches, Mv.reach]
  rw [r1, r2] at p1 ⊢
  obtain ⟨n, hn⟩ : ∃ n : Int, n = 4 * ((a.natAbs : Int) + b.natAbs + (a + b).natAbs + 1) := ⟨_, rfl⟩
  rw [← hn] at p1 ⊢
  have e : ∀ x : Int, (x % n - b) % n = (x - b) % n := fun x => by rw [Int.sub_emod, Int.emod_emod, ← Int.sub_emod]
  refine dif_no ?_
  unfold sentF
  simp only [List.foldl_cons, List.foldl_nil]
  rw [img_cut a n p (by omega), img_cut b n _ (by omega), img_cut (a + b) n p (by omega)]
  dsimp only
  rw [e, show p - a - b = p - (a + b) by omega]
  simp
theorem no_cut : fmOf [.cut 0] = fmOf [] := by
  refine alike_great _ _ 100 (by decide) fun p p0 p1 => ?_
  refine dif_no ?_
  unfold sentF
  simp only [List.foldl_cons, List.foldl_nil]
  rw [img_cut 0 100 p (by decide)]
  dsimp only
  rw [Int.sub_zero, Int.emod_eq_of_lt p0 p1]
  simp
theorem two_overs : fmOf [.over, .over] = fmOf [] := by
  refine alike_great _ _ 100 (by decide) fun p p0 p1 => ?_
  refine dif_no ?_
  unfold sentF
  simp only [List.foldl_cons, List.foldl_nil]
  rw [img_over 100 p (by decide), img_over 100 _ (by decide)]
  dsimp only
  rw [show (100 : Int) - 1 - (100 - 1 - p) = p by omega]
  simp
theorem trim_full {t : Bool} {s : Int} {e : Bool} {T : List En} {n : Nat} {x : En} (hn : T.length = n + 1) (hx : T[n]? = some x) (h : x ≠ rul t s e (n : Nat)) : trim t s e T = T := by
  unfold trim
  rw [hn]
  unfold trimN
  rw [hx, if_neg (fun z => h (Option.some.inj z)), ← hn, List.take_length]
theorem trim_none {t : Bool} {s : Int} {e : Bool} {T : List En} (h : ∀ n, n < T.length → T[n]? = some (rul t s e (n : Nat))) : trim t s e T = [] := by
  have key : ∀ n, n ≤ T.length → trimN t s e T n = 0 := by
    intro n
    induction n with
    | zero => intro _; rfl
    | succ n ih =>
      intro hn
      unfold trimN
      rw [if_pos (h n (by omega))]
      exact ih (by omega)
  unfold trim
  rw [key _ (Nat.le_refl _), List.take_zero]
theorem cut_ft (k : Int) : (Mv.cut k).ft = false ∧ (Mv.cut k).fs = -k := by
  have N : (Mv.cut k).N = 4 * (k.natAbs : Int) + 3 := rfl
  have e := img_cut k (4 * (k.natAbs : Int) + 3) (2 * (k.natAbs : Int) + 1) (by omega)
  rw [Int.emod_eq_of_lt (by omega) (by omega)] at e
  unfold Mv.ft Mv.fs
  rw [N, show ((Mv.cut k).reach : Int) = (k.natAbs : Int) from rfl, e]
  exact ⟨rfl, by dsimp only; omega⟩
theorem cut_fm (k : Int) : fmOf [.cut k] = (Mv.cut k).fm := by
  show Fm.one.mul (Mv.cut k).fm = _
  exact Fm.one_mul (Mv.cut k).fm_ok
theorem cut_len (k : Int) : (fmOf [.cut k]).A.length = k.toNat ∧ (fmOf [.cut k]).B.length = (-k).toNat := by
  obtain ⟨h1, h2⟩ := cut_ft k
  have N : (Mv.cut k).N = 4 * (k.natAbs : Int) + 3 := rfl
  have rc : (Mv.cut k).reach = k.natAbs := rfl
  obtain ⟨c, hc⟩ : ∃ c : Nat, c = k.natAbs := ⟨_, rfl⟩
  rw [cut_fm]
  show (trim (Mv.cut k).ft (Mv.cut k).fs true (Mv.cut k).fA).length = _ ∧ (trim (Mv.cut k).ft (Mv.cut k).fs false (Mv.cut k).fB).length = _
  rw [h1, h2]
  have im : ∀ p : Int, 0 ≤ p - k → p - k < 4 * (c : Int) + 3 → (Mv.cut k).img (4 * (c : Int) + 3) p = (p - k, false) := fun p a b => by rw [img_cut k _ p (by omega), Int.emod_eq_of_lt a b]
  have imL : ∀ p : Int, -(4 * (c : Int) + 3) ≤ p - k → p - k < 0 → (Mv.cut k).img (4 * (c : Int) + 3) p = (p - k + (4 * (c : Int) + 3), false) := fun p a b => by
    rw [img_cut k _ p (by omega), ← Int.add_emod_right, Int.emod_eq_of_lt (by omega) (by omega)]
  have imG : ∀ p : Int, 4 * (c : Int) + 3 ≤ p - k → p - k < 2 * (4 * (c : Int) + 3) → (Mv.cut k).img (4 * (c : Int) + 3) p = (p - k - (4 * (c : Int) + 3), false) := fun p a b => by
    rw [img_cut k _ p (by omega), ← Int.sub_emod_right, Int.emod_eq_of_lt (by omega) (by omega)]
  have lA : (Mv.cut k).fA.length = c := by unfold Mv.fA; rw [List.length_map, List.length_range, rc, hc]
  have lB : (Mv.cut k).fB.length = c := by unfold Mv.fB; rw [List.length_map, List.length_range, rc, hc]
  have gA : ∀ d, d < c → (Mv.cut k).fA[d]? = some (entAt (.cut k) (4 * (c : Int) + 3) (d : Int)) := fun d hd => by
    unfold Mv.fA
    rw [List.getElem?_map, List.getElem?_range (by rw [rc]; omega), N, ← hc]
    rfl
  have gB : ∀ d, d < c → (Mv.cut k).fB[d]? = some (entAt (.cut k) (4 * (c : Int) + 3) (4 * (c : Int) + 3 - 1 - (d : Int))) := fun d hd => by
    unfold Mv.fB
    rw [List.getElem?_map, List.getElem?_range (by rw [rc]; omega), N, ← hc]
    rfl
  by_cases hk : 0 ≤ k
  · have ck : (c : Int) = k := by omega
    constructor
    · by_cases c0 : c = 0
      · have : (Mv.cut k).fA = [] := List.eq_nil_of_length_eq_zero (by rw [lA, c0])
        rw [this]
        show 0 = _
        omega
      · obtain ⟨d, rfl⟩ : ∃ d, c = d + 1 := ⟨c - 1, by omega⟩
        have e := imL (d : Int) (by omega) (by omega)
        rw [trim_full lA (gA d (by omega)) ?_, lA]
        · omega
        · unfold entAt
          rw [e, if_neg (by dsimp only; omega)]
          intro z
          have := congrArg Prod.fst z
          simp [rul] at this
    · rw [trim_none (fun d hd => ?_)]
      · show 0 = _
        omega
      · rw [lB] at hd
        have e := im (4 * (c : Int) + 3 - 1 - (d : Int)) (by omega) (by omega)
        rw [gB d hd]
        unfold entAt
        rw [e, if_neg (by dsimp only; omega)]
        simp [rul]
        omega
  · have ck : (c : Int) = -k := by omega
    constructor
    · rw [trim_none (fun d hd => ?_)]
      · show 0 = _
        omega
      · rw [lA] at hd
        have e := im (d : Int) (by omega) (by omega)
        rw [gA d hd]
        unfold entAt
        rw [e, if_pos (by dsimp only; omega)]
        simp [rul]
        omega
    · by_cases c0 : c = 0
      · omega
      · obtain ⟨d, rfl⟩ : ∃ d, c = d + 1 := ⟨c - 1, by omega⟩
        have e := imG (4 * ((d + 1 : Nat) : Int) + 3 - 1 - (d : Int)) (by omega) (by omega)
        rw [trim_full lB (gB d (by omega)) ?_, lB]
        · omega
        · unfold entAt
          rw [e, if_pos (by dsimp only; omega)]
          intro z
          have := congrArg Prod.fst z
          simp [rul] at this
/-! ### the wide and the slim form -/
def wTop (n : Nat) : List En := (List.range n).map fun d : Nat => (true, (d : Int), false)
def wBot (n s : Nat) : List En := (List.range s).map fun k : Nat => (true, (n : Int) + (k : Int), false)
def wF (n s : Nat) : Fm := ⟨false, (s : Int), wTop n, wBot n s⟩
theorem wTop_len (n : Nat) : (wTop n).length = n := by simp [wTop]
theorem wBot_len (n s : Nat) : (wBot n s).length = s := by simp [wBot]
theorem wParts (n s : Nat) : Parts false (s : Int) (wTop n) (wBot n s) where
  p1 := by simp [cnts, wTop_len]; omega
  p2 := by simp [cnts, wBot_len]
  perm := by
    have e : ((wTop n ++ wBot n s).map goal) = wanted (cnts false (s : Int) (wTop n).length (wBot n s).length).1 (cnts false (s : Int) (wTop n).length (wBot n s).length).2 := by
      have c1 : (cnts false (s : Int) (wTop n).length (wBot n s).length).1 = ((n + s : Nat) : Int) := by simp [cnts, wTop_len]
      have c2 : (cnts false (s : Int) (wTop n).length (wBot n s).length).2 = 0 := by simp [cnts, wBot_len]
      rw [c1, c2]
      unfold wanted wTop wBot
      rw [Int.toNat_natCast, List.range_add, List.map_append, List.map_append, List.map_map, List.map_map, List.map_map]
      simp only [Int.toNat_zero, List.range_zero, List.map_nil, List.append_nil]
      congr 1
    rw [e]
theorem wTrimA (n s : Nat) (hn : 1 ≤ n) (hs : 1 ≤ s) : trim false (s : Int) true (wTop n) = wTop n := by
  obtain ⟨k, rfl⟩ : ∃ k, n = k + 1 := ⟨n - 1, by omega⟩
  refine trim_full (n := k) (x := (true, (k : Int), false)) (wTop_len _) ?_ ?_
  · unfold wTop
    rw [List.getElem?_map, List.getElem?_range (by omega)]
    rfl
  · intro z
    have := congrArg (fun e : En => e.2.1) z
    simp [rul] at this
    exact absurd this (by omega)
theorem wTrimB (n s : Nat) (hs : 1 ≤ s) : trim false (s : Int) false (wBot n s) = wBot n s := by
  obtain ⟨k, hk⟩ : ∃ k, s = k + 1 := ⟨s - 1, by omega⟩
  refine trim_full (n := k) (x := (true, (n : Int) + (k : Int), false)) (by rw [wBot_len, hk]) ?_ ?_
  · unfold wBot
    rw [List.getElem?_map, List.getElem?_range (by omega)]
    rfl
  · intro z
    have := congrArg Prod.fst z
    simp [rul] at this
theorem wNew (n s : Nat) (hn : 1 ≤ n) (hs : 1 ≤ s) (n4 : n ≤ 400) (s4 : s ≤ 400) (m : Mem) : m_Form [.d (.bl false), .d (.int (s : Int)), .d (.lst ((wTop n).map enD)), .d (.lst ((wBot n s).map enD))] m = .ok (.d (wF n s).D) m := by
  have z := new_form false false (wParts n s) (by rw [wTop_len]; exact n4) (by rw [wBot_len]; exact s4) m
  rw [wTrimA n s hn hs, wTrimB n s hs] at z
  exact z
theorem wOk (n s : Nat) (hn : 1 ≤ n) (hs : 1 ≤ s) (n4 : n ≤ 400) (s4 : s ≤ 400) : (wF n s).Ok 400 := ⟨(wParts n s).bij, wTrimA n s hn hs, wTrimB n s hs, by show (wTop n).length ≤ _; rw [wTop_len]; exact n4, by show (wBot n s).length ≤ _; rw [wBot_len]; exact s4⟩
theorem wInv (n s : Nat) (hs : 1 ≤ s) : (wF n s).inv.A.length = n + s ∧ (wF n s).inv.B.length = 0 := by
  have c1 : (cnts (wF n s).t (wF n s).s (wF n s).A.length (wF n s).B.length).1 = ((n + s : Nat) : Int) := by show (cnts false (s : Int) (wTop n).length (wBot n s).length).1 = _; simp [cnts, wTop_len]
  have c2 : (cnts (wF n s).t (wF n s).s (wF n s).A.length (wF n s).B.length).2 = 0 := by show (cnts false (s : Int) (wTop n).length (wBot n s).length).2 = _; simp [cnts, wBot_len]
  constructor
  · show (trim (wF n s).t (invS (wF n s).t (wF n s).s) true (invTab (wF n s).f true (cnts (wF n s).t (wF n s).s (wF n s).A.length (wF n s).B.length).1)).length = _
    obtain ⟨k, hk⟩ : ∃ k, n + s = k + 1 := ⟨n + s - 1, by omega⟩
    have lT : (invTab (wF n s).f true (cnts (wF n s).t (wF n s).s (wF n s).A.length (wF n s).B.length).1).length = k + 1 := by rw [invTab_len, c1, hk]; rfl
    obtain ⟨e', d', h1, h2, h3⟩ := inv_entry (wParts n s) (e := true) (d := k) (by
      show (k : Int) < (cnts false (s : Int) (wTop n).length (wBot n s).length).1
      have : (cnts false (s : Int) (wTop n).length (wBot n s).length).1 = ((n + s : Nat) : Int) := c1
      rw [this]
      omega)
    have he : e' = false := by
      cases e' with
      | false => rfl
      | true =>
        exfalso
        have l1 : d' < n := by
          have : d' < (wTop n).length := h1
          rw [wTop_len] at this
          exact this
        have lk : look false (s : Int) (wTop n) (wBot n s) true d' = (true, (d' : Int), false) := by
          show ((wTop n)[d']?).getD _ = _
          unfold wTop
          rw [List.getElem?_map, List.getElem?_range l1]
          rfl
        rw [lk] at h2
        have := congrArg Prod.snd h2
        have this : (d' : Int) = (k : Int) := this
        omega
    have hx : (invTab (wF n s).f true (cnts (wF n s).t (wF n s).s (wF n s).A.length (wF n s).B.length).1)[k]? = some (FM.inv (wF n s).f true k) := by
      unfold invTab
      rw [List.getElem?_map, List.getElem?_range (by rw [c1]; omega)]
      rfl
    rw [trim_full lT hx ?_, lT, hk]
    have h3' : FM.inv (wF n s).f true k = (e', (d' : Int), (look false (s : Int) (wTop n) (wBot n s) e' d').2.2) := h3
    rw [h3', he]
    intro z
    have := congrArg Prod.fst z
    have t0 : (wF n s).t = false := rfl
    rw [t0] at this
    simp [rul] at this
  · show (trim (wF n s).t (invS (wF n s).t (wF n s).s) false (invTab (wF n s).f false (cnts (wF n s).t (wF n s).s (wF n s).A.length (wF n s).B.length).2)).length = _
    rw [c2]
    rfl
/-! ### the law -/
theorem pre2 {x y : Mv} {Q : List Mv → Prop} (h0 : Q []) (h1 : Q [x]) (h2 : Q [x, y]) : ∀ c d, [x, y] = c ++ d → Q c := fun c d h => by
  rcases c with _ | ⟨a, _ | ⟨b, _ | ⟨e, c⟩⟩⟩
  · exact h0
  · simp at h; rw [← h.1]; exact h1
  · simp at h; rw [← h.1, ← h.2.1]; exact h2
  · simp at h
theorem pre1 {x : Mv} {Q : List Mv → Prop} (h0 : Q []) (h1 : Q [x]) : ∀ c d, [x] = c ++ d → Q c := fun c d h => by
  rcases c with _ | ⟨a, _ | ⟨b, c⟩⟩
  · exact h0
  · simp at h; rw [← h.1]; exact h1
  · simp at h
theorem pre3 {x y z : Mv} {Q : List Mv → Prop} (h0 : Q []) (h1 : Q [x]) (h2 : Q [x, y]) (h3 : Q [x, y, z]) : ∀ c d, [x, y, z] = c ++ d → Q c := fun c d h => by
  rcases c with _ | ⟨a, _ | ⟨b, _ | ⟨e, _ | ⟨f, c⟩⟩⟩⟩
  · exact h0
  · simp at h; rw [← h.1]; exact h1
  · simp at h; rw [← h.1, ← h.2.1]; exact h2
  · simp at h; rw [← h.1, ← h.2.1, ← h.2.2.1]; exact h3
  · simp at h
theorem pre4 {x y z v : Mv} {Q : List Mv → Prop} (h0 : Q []) (h1 : Q [x]) (h2 : Q [x, y]) (h3 : Q [x, y, z]) (h4 : Q [x, y, z, v]) : ∀ c d, [x, y, z, v] = c ++ d → Q c := fun c d h => by
  rcases c with _ | ⟨a, _ | ⟨b, _ | ⟨e, _ | ⟨f, _ | ⟨g, c⟩⟩⟩⟩⟩
  · exact h0
  · simp at h; rw [← h.1]; exact h1
  · simp at h; rw [← h.1, ← h.2.1]; exact h2
  · simp at h; rw [← h.1, ← h.2.1, ← h.2.2.1]; exact h3
  · simp at h; rw [← h.1, ← h.2.1, ← h.2.2.1, ← h.2.2.2.1]; exact h4
  · simp at h
theorem wid0 : wid (fmOf []) := ⟨Nat.zero_le _, Nat.zero_le _⟩
theorem wid1 {k : Int} (h0 : -400 ≤ k) (h1 : k ≤ 400) : wid (fmOf [.cut k]) := by
  obtain ⟨a, b⟩ := cut_len k
  exact ⟨by rw [a]; omega, by rw [b]; omega⟩
theorem cut_no {a c : Int} : fmOf [.cut a, .cut c, .cut (-c)] = fmOf [.cut a] := by
  have e : fmOf ([.cut a] ++ [.cut c, .cut (-c)]) = (fmOf [.cut a]).mul (fmOf [.cut c, .cut (-c)]) := (fmOf_append _ _).symm
  have e2 : fmOf [Mv.cut c, .cut (-c)] = Fm.one := by
    rw [two_cuts, show c + -c = 0 by omega, no_cut]
    rfl
  rw [e2, Fm.mul_one (fmOf_ok _)] at e
  exact e
theorem back4 : fmOf [.cut 400, .cut (-400)] = fmOf [] := by rw [two_cuts]; exact no_cut
theorem back_over : fmOf [.cut 400, .cut (-400), .over] = fmOf [.over] := by
  have e : fmOf ([.cut 400, .cut (-400)] ++ [.over]) = (fmOf [.cut 400, .cut (-400)]).mul (fmOf [.over]) := (fmOf_append _ _).symm
  rw [back4] at e
  have e2 : (fmOf []).mul (fmOf [.over]) = fmOf [.over] := Fm.one_mul (fmOf_ok _)
  rw [e2] at e
  exact e
theorem back_overs : fmOf [.cut 400, .cut (-400), .over, .over] = fmOf [] := by
  have e : fmOf ([.cut 400, .cut (-400)] ++ [.over, .over]) = (fmOf [.cut 400, .cut (-400)]).mul (fmOf [.over, .over]) := (fmOf_append _ _).symm
  rw [back4, two_overs] at e
  exact e
theorem ev_unX {o : O1} {a : Ev} {ρ : Env} {m m1 : Mem} {c : Str} {ns : List Str} {vs : List D} (h : a ρ m = .exc c ns vs m1) : fUn o a ρ m = .exc c ns vs m1 := by
  unfold fUn
  rw [h]
  rfl
theorem cm_of {a : EvL} {ρ : Env} {m m1 : Mem} {ws : List W} {r : R W} (ha : a ρ m = .ok ws m1) (hg : m_Form_of (.d (.gl "Form") :: ws) m1 = r) : fCMeth true [("Form", m_Form_of)] (fC (.gl "Form")) a ρ m = r := by
  unfold fCMeth
  rw [ev_c, GD.R.bind_ok]
  dsimp only
  have lk : List.lookup ("Form" : Str) [("Form", m_Form_of)] = some m_Form_of := rfl
  rw [lk]
  dsimp only
  rw [ha, GD.R.bind_ok]
  exact hg
def dueD (x k : Int) : D := if x < 401 then .tup [.str "value", .int k] else .tup [.str "TooWide", .int 400]
def oneL : List D := [.int 396, .int 399, .int 400]
theorem cut_ok {k : Int} (h0 : -400 ≤ k) (h1 : k ≤ 400) : (Mv.cut k).ok := by show k.natAbs ≤ 400; omega
theorem cut_reach (k : Int) : (Mv.cut k).reach = k.natAbs := rfl
theorem lst2 {ρ : Env} {m : Mem} {a b : Ev} {x y : Int} (ha : a ρ m = .ok (.d (.int x)) m) (hb : b ρ m = .ok (.d (.int y)) m) : fCons (fLst (fCons (fTup (fCons (fC (.str "cut")) (fCons a fNil))) (fCons (fTup (fCons (fC (.str "cut")) (fCons b fNil))) fNil))) fNil ρ m = .ok [.d (.lst ([Mv.cut x, .cut y].map Mv.D))] m :=
  ev_cons (ev_lst (ev_cons (ev_tup (ev_cons ev_c (ev_cons ha ev_nil)) rfl (show 2 ≤ 100000 by decide)) (ev_cons (ev_tup (ev_cons ev_c (ev_cons hb ev_nil)) rfl (show 2 ≤ 100000 by decide)) ev_nil)) rfl (show 2 ≤ 100000 by decide)) ev_nil
theorem lst1 {ρ : Env} {m : Mem} {a : Ev} {x : Int} (ha : a ρ m = .ok (.d (.int x)) m) : fCons (fLst (fCons (fTup (fCons (fC (.str "cut")) (fCons a fNil))) fNil)) fNil ρ m = .ok [.d (.lst ([Mv.cut x].map Mv.D))] m :=
  ev_cons (ev_lst (ev_cons (ev_tup (ev_cons ev_c (ev_cons ha ev_nil)) rfl (show 2 ≤ 100000 by decide)) ev_nil) rfl (show 1 ≤ 100000 by decide)) ev_nil
theorem try_due {m : Mem} {r : R W} {x k : Int} (h1 : x ≤ 400 → r = .ok (.d (.int k)) m) (h2 : 400 < x → r = .exc "TooWide" ["limit", "code"] [.int 400, .str "TooWide"] m) : noX (tryR errs m__law_field r) = .ok (.d (dueD x k)) m := by
  unfold dueD
  by_cases h : x ≤ 400
  · rw [if_pos (by omega)]
    exact try_ok (h1 h)
  · rw [if_neg (by omega)]
    exact try_TooWide (h2 (by omega)) (by decide +kernel)
section
variable {a c : Int} (a0 : 396 ≤ a) (a1 : a ≤ 400) (c0 : 0 ≤ c) (c1 : c < 5) (ρ : Env) (m : Mem) (h2 : ρ[2]? = some (some (.d (.int a)))) (h3 : ρ[3]? = some (some (.d (.int c))))
include a0 a1 c0 c1 h2 h3
theorem lam0 : noX (tryR errs m__law_field (ml_law_0 ρ m)) = .ok (.d (dueD (a + c) (a + c))) m := by
  have ho : ∀ x ∈ [Mv.cut a, .cut c], x.ok := by
    intro x hx
    simp at hx
    rcases hx with rfl | rfl
    · exact cut_ok (by omega) (by omega)
    · exact cut_ok (by omega) (by omega)
  refine try_due (fun h => ?_) fun h => ?_
  · obtain ⟨l1, l2⟩ := cut_len (a + c)
    have z := fof9 [Mv.cut a, .cut c] m ho (by intro x hx; simp at hx; rcases hx with rfl | rfl <;> rw [cut_reach] <;> omega) (pre2 wid0 (wid1 (by omega) (by omega)) (by rw [two_cuts]; exact wid1 (by omega) (by omega)))
    have p := p_least (fmOf [Mv.cut a, .cut c]) m
    have e : ((fmOf [Mv.cut a, .cut c]).lst : Int) = a + c := by unfold Fm.lst; rw [two_cuts, l1, l2]; omega
    rw [e] at p
    exact ev_un (cm_of (lst2 (ev_var h2) (ev_var h3)) z) p
  · obtain ⟨l1, l2⟩ := cut_len (a + c)
    have z := fofx [Mv.cut a] (.cut c) [] m ho (by intro x hx; simp at hx; rw [hx, cut_reach]; omega) (by rw [cut_reach]; omega) (pre1 wid0 (wid1 (by omega) (by omega))) (by
      show ¬ wid (fmOf [Mv.cut a, .cut c])
      rw [two_cuts]
      unfold wid
      omega)
    exact ev_unX (cm_of (lst2 (ev_var h2) (ev_var h3)) z)
theorem lam1 : noX (tryR errs m__law_field (ml_law_1 ρ m)) = .ok (.d (dueD (a + c) (a + c))) m := by
  have z1 := fof9 [Mv.cut a] m (by intro x hx; simp at hx; rw [hx]; exact cut_ok (by omega) (by omega)) (by intro x hx; simp at hx; rw [hx, cut_reach]; omega) (pre1 wid0 (wid1 (by omega) (by omega)))
  have z2 := fof9 [Mv.cut c] m (by intro x hx; simp at hx; rw [hx]; exact cut_ok (by omega) (by omega)) (by intro x hx; simp at hx; rw [hx, cut_reach]; omega) (pre1 wid0 (wid1 (by omega) (by omega)))
  have e0 : (fmOf [Mv.cut a]).mul (fmOf [.cut c]) = fmOf [.cut (a + c)] := by rw [fmOf_append]; exact two_cuts a c
  obtain ⟨l1, l2⟩ := cut_len (a + c)
  refine try_due (fun h => ?_) fun h => ?_
  · have w := own_mul9 (fmOf_ok [Mv.cut a]) (fmOf_ok [.cut c]) (wid1 (by omega) (by omega)) (wid1 (by omega) (by omega)) (by rw [e0]; exact wid1 (by omega) (by omega)) m
    rw [e0] at w
    have p := p_least (fmOf [Mv.cut (a + c)]) m
    have e : ((fmOf [Mv.cut (a + c)]).lst : Int) = a + c := by unfold Fm.lst; rw [l1, l2]; omega
    rw [e] at p
    exact ev_un (ev_op (cm_of (lst1 (ev_var h2)) z1) (cm_of (lst1 (ev_var h3)) z2) w) p
  · have w := own_mul_x (fmOf_ok [Mv.cut a]) (fmOf_ok [.cut c]) (wid1 (by omega) (by omega)) (wid1 (by omega) (by omega)) (by rw [e0]; unfold wid; omega) m
    exact ev_unX (ev_op (cm_of (lst1 (ev_var h2)) z1) (cm_of (lst1 (ev_var h3)) z2) w)
theorem lam2 : noX (tryR errs m__law_field (ml_law_2 ρ m)) = .ok (.d (dueD (a + c) (a + c))) m := by
  have ho : ∀ x ∈ [Mv.cut (-a), .cut (-c)], x.ok := by
    intro x hx
    simp at hx
    rcases hx with rfl | rfl
    · exact cut_ok (by omega) (by omega)
    · exact cut_ok (by omega) (by omega)
  obtain ⟨l1, l2⟩ := cut_len (-a + -c)
  refine try_due (fun h => ?_) fun h => ?_
  · have z := fof9 [Mv.cut (-a), .cut (-c)] m ho (by intro x hx; simp at hx; rcases hx with rfl | rfl <;> rw [cut_reach] <;> omega) (pre2 wid0 (wid1 (by omega) (by omega)) (by rw [two_cuts]; exact wid1 (by omega) (by omega)))
    have p := p_least (fmOf [Mv.cut (-a), .cut (-c)]) m
    have e : ((fmOf [Mv.cut (-a), .cut (-c)]).lst : Int) = a + c := by unfold Fm.lst; rw [two_cuts, l1, l2]; omega
    rw [e] at p
    exact ev_un (cm_of (lst2 (ev_un (ev_var h2) rfl) (ev_un (ev_var h3) rfl)) z) p
  · have z := fofx [Mv.cut (-a)] (.cut (-c)) [] m ho (by intro x hx; simp at hx; rw [hx, cut_reach]; omega) (by rw [cut_reach]; omega) (pre1 wid0 (wid1 (by omega) (by omega))) (by
      show ¬ wid (fmOf [Mv.cut (-a), .cut (-c)])
      rw [two_cuts]
      unfold wid
      omega)
    exact ev_unX (cm_of (lst2 (ev_un (ev_var h2) rfl) (ev_un (ev_var h3) rfl)) z)
theorem lam3 : noX (tryR errs m__law_field (ml_law_3 ρ m)) = .ok (.d (dueD (a + c) a)) m := by
  have ho : ∀ x ∈ [Mv.cut a, .cut c, .cut (-c)], x.ok := by
    intro x hx
    simp at hx
    rcases hx with rfl | rfl | rfl
    · exact cut_ok (by omega) (by omega)
    · exact cut_ok (by omega) (by omega)
    · exact cut_ok (by omega) (by omega)
  have ls : fCons (fLst (fCons (fTup (fCons (fC (.str "cut")) (fCons (fVar 2) fNil))) (fCons (fTup (fCons (fC (.str "cut")) (fCons (fVar 3) fNil))) (fCons (fTup (fCons (fC (.str "cut")) (fCons (fUn oNeg (fVar 3)) fNil))) fNil)))) fNil ρ m = .ok [.d (.lst ([Mv.cut a, .cut c, .cut (-c)].map Mv.D))] m :=
    ev_cons (ev_lst (ev_cons (ev_tup (ev_cons ev_c (ev_cons (ev_var h2) ev_nil)) rfl (show 2 ≤ 100000 by decide)) (ev_cons (ev_tup (ev_cons ev_c (ev_cons (ev_var h3) ev_nil)) rfl (show 2 ≤ 100000 by decide)) (ev_cons (ev_tup (ev_cons ev_c (ev_cons (ev_un (ev_var h3) rfl) ev_nil)) rfl (show 2 ≤ 100000 by decide)) ev_nil))) rfl (show 3 ≤ 100000 by decide)) ev_nil
  obtain ⟨l1, l2⟩ := cut_len a
  obtain ⟨k1, k2⟩ := cut_len (a + c)
  refine try_due (fun h => ?_) fun h => ?_
  · have z := fof9 [Mv.cut a, .cut c, .cut (-c)] m ho (by intro x hx; simp at hx; rcases hx with rfl | rfl | rfl <;> rw [cut_reach] <;> omega) (pre3 wid0 (wid1 (by omega) (by omega)) (by rw [two_cuts]; exact wid1 (by omega) (by omega)) (by rw [cut_no]; exact wid1 (by omega) (by omega)))
    have p := p_least (fmOf [Mv.cut a, .cut c, .cut (-c)]) m
    have e : ((fmOf [Mv.cut a, .cut c, .cut (-c)]).lst : Int) = a := by unfold Fm.lst; rw [cut_no, l1, l2]; omega
    rw [e] at p
    exact ev_un (cm_of ls z) p
  · have z := fofx [Mv.cut a] (.cut c) [.cut (-c)] m ho (by intro x hx; simp at hx; rw [hx, cut_reach]; omega) (by rw [cut_reach]; omega) (pre1 wid0 (wid1 (by omega) (by omega))) (by
      show ¬ wid (fmOf [Mv.cut a, .cut c])
      rw [two_cuts]
      unfold wid
      omega)
    exact ev_unX (cm_of ls z)
end
def nmL : Str := "law.<locals>.<lambda>"
def M2 (b : Bag) (P : Addr) : Mem := [b.mo, .tab P nmL]
theorem la_eq (Z : LamZ) (P : Addr) (i : Nat) (ρ : Env) (b : Bag) : fLam 1 P "law.<locals>.<lambda>" Z i ρ (M2 b P) = .ok (.d (.lam i Z)) (M2 b P) := by
  simp [M2, nmL]
theorem k5v : PyData.strOk "value" = true := by decide +kernel
theorem k5w : PyData.strOk "TooWide" = true := by decide +kernel
theorem k5m : PyData.strOk "BadMove" = true := by decide +kernel
theorem plain_due (x k : Int) : plainD 6 (dueD x k) = true := by unfold dueD; split <;> rfl
theorem bad_moves (d : D) (m : Mem) (ρ : Env) (h7 : ρ[7]? = some (some (.d d))) (hd : m_is_move [.d d] m = .ok (.d (.bl false)) m) : noX (tryR errs m__law_field (ml_law_4 ρ m)) = .ok (.d (.tup [.str "BadMove", .int 2])) m := by
  have z := fofb [Mv.cut 400, .cut 400] d [d] m (by decide) (by intro x hx; simp at hx; rw [hx]; exact cut_ok (by omega) (by omega)) hd
  exact try_BadMove (cm_of (ev_cons (ev_lst (ev_cons (ev_tup (xs := [.str "cut", .int 400]) (ev_cons ev_c (ev_cons ev_c ev_nil)) rfl (show 2 ≤ 100000 by decide)) (ev_cons (ev_tup (xs := [.str "cut", .int 400]) (ev_cons ev_c (ev_cons ev_c ev_nil)) rfl (show 2 ≤ 100000 by decide)) (ev_cons (ev_var h7) (ev_cons (ev_var h7) ev_nil)))) rfl (show 4 ≤ 100000 by decide)) ev_nil) z) (by decide +kernel)
theorem wide_inv (w : World) (s : Nat) (s1 : 1 ≤ s) (s4 : s ≤ 5) (m : Mem) (ρ : Env) (h9 : ρ[9]? = some (some (.d (wF 400 s).D))) : noX (tryR errs m__law_field (ml_law_5 w ρ m)) = .ok (.d (.tup [.str "TooWide", .int 400])) m := by
  obtain ⟨l1, l2⟩ := wInv 400 s s1
  have z := inverse_x w (wOk 400 s (by decide) s1 (by decide) (by omega)) (by decide) (by omega) m
  refine try_TooWide (ev_unX ?_) (by decide +kernel)
  exact meth_form (by decide +kernel) (ev_var h9) z
theorem slim_inv (w : World) (n s : Nat) (hn : n + s = 400) (s1 : 1 ≤ s) (s4 : s ≤ 5) (m : Mem) : m_Form_inverse w [.d (wF n s).D] m = .ok (.d (wF n s).inv.D) m := by
  obtain ⟨l1, l2⟩ := wInv n s s1
  exact inverse_eq w (wOk n s (by omega) s1 (by omega) (by omega)) (by decide) (by omega) (by omega) m
theorem slim_top (w : World) (n s : Nat) (hn : n + s = 400) (s1 : 1 ≤ s) (s4 : s ≤ 5) (m : Mem) (ρ : Env) (h10 : ρ[10]? = some (some (.d (wF n s).D))) : noX (tryR errs m__law_field (ml_law_6 w ρ m)) = .ok (.d (.tup [.str "value", .int 400])) m := by
  obtain ⟨l1, l2⟩ := wInv n s s1
  have z := slim_inv w n s hn s1 s4 m
  have t := top_eq (wF n s).inv m
  have ln : oLen [.d (.lst ((wF n s).inv.A.map enD))] m = .ok (.d (.int 400)) m := by
    have z : oLen [.d (.lst ((wF n s).inv.A.map enD))] m = .ok (.d (.int (((wF n s).inv.A.map enD).length : Int))) m := rfl
    rw [z, List.length_map, l1, hn]
    rfl
  exact try_ok (ev_cb (ev_cons (meth_form (by decide +kernel) (inverse_call w (ev_var h10) z) t) ev_nil) ln)
theorem slim_back (w : World) (n s : Nat) (hn : n + s = 400) (s1 : 1 ≤ s) (s4 : s ≤ 5) (m : Mem) : m_Form_inverse w [.d (wF n s).inv.D] m = .ok (.d (wF n s).D) m := by
  obtain ⟨l1, l2⟩ := wInv n s s1
  have ok := wOk n s (by omega) s1 (by omega) (by omega)
  have ii := Fm.inv_inv ok
  have z := inverse_eq w (Fm.inv_ok' ok (k := 400) (by omega) (by omega)) (by decide) (by rw [ii]; show (wTop n).length ≤ 400; rw [wTop_len]; omega) (by rw [ii]; show (wBot n s).length ≤ 400; rw [wBot_len]; omega) m
  rw [ii] at z
  exact z
theorem still4 (m : Mem) (ρ : Env) : fOp (oOwnNe [("Form", m_Form___eq__)]) (fCMeth true [("Form", m_Form_of)] (fC (.gl "Form")) (fCons (fLst (fCons (fTup (fCons (fC (.str "cut")) (fCons (fC (.int 400)) fNil))) (fCons (fTup (fCons (fC (.str "cut")) (fCons (fUn oNeg (fC (.int 400))) fNil))) (fCons (fTup (fCons (fC (.str "over")) fNil)) (fCons (fTup (fCons (fC (.str "over")) fNil)) fNil))))) fNil)) (fCMeth false [("Form", m_Form_still)] (fC (.gl "Form")) fNil) ρ m = .ok (.d (.bl false)) m := by
  have wo : wid (fmOf [Mv.over]) := ⟨Nat.le_trans (fmOf_ok [Mv.over]).lA (by decide), Nat.le_trans (fmOf_ok [Mv.over]).lB (by decide)⟩
  have z := fof9 [Mv.cut 400, .cut (-400), .over, .over] m (by
    intro x hx
    simp at hx
    rcases hx with rfl | rfl | rfl
    · exact cut_ok (by omega) (by omega)
    · exact cut_ok (by omega) (by omega)
    · trivial) (by
    intro x hx
    simp at hx
    rcases hx with rfl | rfl | rfl
    · rw [cut_reach]; omega
    · rw [cut_reach]; omega
    · exact Nat.zero_le _) (pre4 wid0 (wid1 (by omega) (by omega)) (by rw [back4]; exact wid0) (by rw [back_over]; exact wo) (by rw [back_overs]; exact wid0))
  rw [back_overs] at z
  have s0 := still_eq m
  have st : fCMeth false [("Form", m_Form_still)] (fC (.gl "Form")) fNil ρ m = .ok (.d Fm.one.D) m := by simp [fCMeth, s0]
  have q1 := feq_refl Fm.one m
  have ne : oOwnNe [("Form", m_Form___eq__)] (.d (fmOf []).D) (.d Fm.one.D) m = .ok (.d (.bl false)) m := by
    have e : (fmOf []).D = Fm.one.D := rfl
    unfold oOwnEq at q1
    unfold oOwnNe
    rw [e]
    cases h : oOwn [("Form", m_Form___eq__)] (.d Fm.one.D) (.d Fm.one.D) m with
    | ok w m' => rw [h] at q1; cases q1; rfl
    | exc c ns vs m' => rw [h] at q1; cases q1
    | bad => rw [h] at q1; cases q1
  exact ev_op (cm_of (ev_cons (ev_lst (ev_cons (ev_tup (xs := [.str "cut", .int 400]) (ev_cons ev_c (ev_cons ev_c ev_nil)) rfl (show 2 ≤ 100000 by decide)) (ev_cons (ev_tup (xs := [.str "cut", .int (-400)]) (ev_cons ev_c (ev_cons (ev_un ev_c rfl) ev_nil)) rfl (show 2 ≤ 100000 by decide)) (ev_cons (ev_tup (xs := [.str "over"]) (ev_cons ev_c ev_nil) rfl (show 1 ≤ 100000 by decide)) (ev_cons (ev_tup (xs := [.str "over"]) (ev_cons ev_c ev_nil) rfl (show 1 ≤ 100000 by decide)) ev_nil)))) rfl (show 4 ≤ 100000 by decide)) ev_nil) z) st ne
theorem pair_ok {x : Str} {k : Int} (hs : PyData.strOk x = true) (m : Mem) : oNe (.d (.tup [.str x, .int k])) (.d (.tup [.str x, .int k])) m = .ok (.d (.bl false)) m := oNe_refl (n := 5) (by simp [eqP, hs]) (by decide)
theorem main_law : ∀ (w : World) (Z : LamZ) (P : Addr) (ns : List Int), ns.length ≤ 63 → ∃ m, m_law w Z P [.d (.fls (ns.map .int))] [] = .ok (.d (.bl true)) m := by
  intro w Z P ns _
  obtain ⟨o0, ho0⟩ : ∃ o0 : Option W, o0 = some (.d (.fls (ns.map .int))) := ⟨_, rfl⟩
  have hb0 := bag_set ns [none, none, none, none, none, none, none, none, none, none, none, none, none]
  rw [← ho0] at hb0
  obtain ⟨b1, x, d1, hx⟩ := of_any (Bag.new ns) [.tab P nmL] oneL (by decide) (show 3 ≤ 100000 by decide)
  obtain ⟨a, rfl, a0, a1⟩ : ∃ a : Int, x = .int a ∧ 396 ≤ a ∧ a ≤ 400 := by
    simp [oneL] at hx
    rcases hx with rfl | rfl | rfl
    · exact ⟨_, rfl, by omega, by omega⟩
    · exact ⟨_, rfl, by omega, by omega⟩
    · exact ⟨_, rfl, by omega, by omega⟩
  obtain ⟨b2, c, d2, c0, c1⟩ := pull_any b1 [.tab P nmL] 5 (by decide) (by decide +kernel)
  obtain ⟨b3, bd, d3, hbd⟩ := of_any b2 [.tab P nmL] oddM (by rw [odd_len]; decide) (by rw [odd_len]; decide)
  have hM0 : [(Bag.new ns).mo, MO.tab P nmL] = M2 (Bag.new ns) P := rfl
  have hM1 : [b1.mo, MO.tab P nmL] = M2 b1 P := rfl
  have hM2 : [b2.mo, MO.tab P nmL] = M2 b2 P := rfl
  have hM3 : [b3.mo, MO.tab P nmL] = M2 b3 P := rfl
  rw [hM0, hM1] at d1
  rw [hM1, hM2] at d2
  rw [hM2, hM3] at d3
  have od : m__law_odd_moves [] (M2 b2 P) = .ok (.d (.lst oddM)) (M2 b2 P) := odd_eq _ _
  have ob : m_is_move [.d bd] (M2 b3 P) = .ok (.d (.bl false)) (M2 b3 P) := odd_bad2 hbd _ _
  obtain ⟨s, hs⟩ := Int.eq_ofNat_of_zero_le (show 0 ≤ 1 + c by omega)
  obtain ⟨n, hn⟩ := Int.eq_ofNat_of_zero_le (show 0 ≤ 400 - (1 + c) by omega)
  have ns4 : n + s = 400 := by omega
  have s1 : 1 ≤ s := by omega
  have s5 : s ≤ 5 := by omega
  obtain ⟨due, hdue⟩ : ∃ due, due = dueD (a + c) (a + c) := ⟨_, rfl⟩
  obtain ⟨agn, hagn⟩ : ∃ agn, agn = dueD (a + c) a := ⟨_, rfl⟩
  have p1 : plainD 6 due = true := by rw [hdue]; exact plain_due _ _
  have p2 : plainD 6 agn = true := by rw [hagn]; exact plain_due _ _
  have same1 := same_refl 6 due (M2 b2 P) p1
  have same2 := same_refl 6 agn (M2 b2 P) p2
  have duv : ∀ (k : Int) (e : Ev) (ρ : Env), ρ[2]? = some (some (.d (.int a))) → ρ[3]? = some (some (.d (.int c))) → e ρ (M2 b2 P) = .ok (.d (.int k)) (M2 b2 P) → fIf (gBool (fOp oLt (fOp oAdd (fVar 2) (fVar 3)) (fC (.int 401)))) (fTup (fCons (fC (.str "value")) (fCons e fNil))) (fTup (fCons (fC (.str "TooWide")) (fCons (fC (.int 400)) fNil))) ρ (M2 b2 P) = .ok (.d (dueD (a + c) k)) (M2 b2 P) := fun k e ρ h2 h3 he => by
    refine ev_if (et_bool (ev_op (ev_op (ev_var h2) (ev_var h3) oAdd_ii) ev_c oLt_ii)) ?_
    unfold dueD
    by_cases h : a + c < 401
    · rw [decide_eq_true h, if_pos h]
      exact ev_tup (xs := [.str "value", .int k]) (ev_cons ev_c (ev_cons he ev_nil)) rfl (show 2 ≤ 100000 by decide)
    · rw [decide_eq_false h, if_neg h]
      exact ev_tup (xs := [.str "TooWide", .int 400]) (ev_cons ev_c (ev_cons ev_c ev_nil)) rfl (show 2 ≤ 100000 by decide)
  obtain ⟨asks, hasks⟩ : ∃ asks : D, asks = .lst [.lam 1 Z, .lam 0 Z] := ⟨_, rfl⟩
  have T1 : (sAsg (fTup (fCons (fCall m__law_of (fCons (fVar 1) (fCons (fLst (fCons (fC (.int 396)) (fCons (fC (.int 399)) (fCons (fC (.int 400)) fNil)))) fNil))) (fCons (fCall m__law_pull (fCons (fVar 1) (fCons (fC (.int 5)) fNil))) fNil))) (tgUn 2 (tgCons (tgName 2) (tgCons (tgName 3) tgNil)))) [o0, some (.m 0), none, none, none, none, none, none, none, none, none, none, none, none] (M2 (Bag.new ns) P)
      = .nx [o0, some (.m 0), some (.d (.int a)), some (.d (.int c)), none, none, none, none, none, none, none, none, none, none] (M2 b2 P) :=
    es_asg (ev_tup (xs := [.int a, .int c]) (ev_cons (ev_call (ev_cons (ev_var rfl) (ev_cons (ev_lst (xs := oneL) (ev_cons ev_c (ev_cons ev_c (ev_cons ev_c ev_nil))) rfl (show 3 ≤ 100000 by decide)) ev_nil)) d1) (ev_cons (ev_call (ev_cons (ev_var rfl) (ev_cons ev_c ev_nil)) d2) ev_nil)) rfl (show 2 ≤ 100000 by decide)) (tg_un2t rfl rfl)
  have T2 : (sAsg (fLst (fCons (fLam 1 P "law.<locals>.<lambda>" Z 1) (fCons (fLam 1 P "law.<locals>.<lambda>" Z 0) fNil))) (tgName 4)) [o0, some (.m 0), some (.d (.int a)), some (.d (.int c)), none, none, none, none, none, none, none, none, none, none] (M2 b2 P)
      = .nx [o0, some (.m 0), some (.d (.int a)), some (.d (.int c)), some (.d asks), none, none, none, none, none, none, none, none, none] (M2 b2 P) := by
    rw [hasks]
    exact es_set (ev_lst (xs := [.lam 1 Z, .lam 0 Z]) (ev_cons (la_eq Z P 1 _ b2) (ev_cons (la_eq Z P 0 _ b2) ev_nil)) rfl (show 2 ≤ 100000 by decide))
  have T3 : (sAsg (fIf (gBool (fOp oLt (fOp oAdd (fVar 2) (fVar 3)) (fC (.int 401)))) (fTup (fCons (fC (.str "value")) (fCons (fOp oAdd (fVar 2) (fVar 3)) fNil))) (fTup (fCons (fC (.str "TooWide")) (fCons (fC (.int 400)) fNil)))) (tgName 5)) [o0, some (.m 0), some (.d (.int a)), some (.d (.int c)), some (.d asks), none, none, none, none, none, none, none, none, none] (M2 b2 P)
      = .nx [o0, some (.m 0), some (.d (.int a)), some (.d (.int c)), some (.d asks), some (.d due), none, none, none, none, none, none, none, none] (M2 b2 P) := by
    rw [hdue]
    exact es_set (duv (a + c) _ _ rfl rfl (ev_op (ev_var rfl) (ev_var rfl) oAdd_ii))
  have lc : fLc (iSeq (fVar 4)) (tgName 13) gYes (fCall (m__law_same 6) (fCons (eTry errs m__law_field Z ((lams_law w) Z P) 13) (fCons (fVar 5) fNil))) [13] [o0, some (.m 0), some (.d (.int a)), some (.d (.int c)), some (.d asks), some (.d due), none, none, none, none, none, none, none, none] (M2 b2 P) = .ok (.d (.lst ([1, 0].map fun _ : Nat => D.bl true))) (M2 b2 P) := by
    refine lc_map (l := [1, 0]) (fun i : Nat => W.d (.lam i Z)) (fun _ : Nat => D.bl true) (by rw [hasks]; rfl) (fun i hi => ⟨[o0, some (.m 0), some (.d (.int a)), some (.d (.int c)), some (.d asks), some (.d due), none, none, none, none, none, none, none, some (.d (.lam i Z))], rfl, ?_⟩) (show 2 ≤ 100000 by decide)
    simp at hi
    rcases hi with rfl | rfl
    · have z := lam1 a0 a1 c0 c1 [o0, some (.m 0), some (.d (.int a)), some (.d (.int c)), some (.d asks), some (.d due), none, none, none, none, none, none, none, none] (M2 b2 P) rfl rfl
      rw [← hdue] at z
      exact ev_call (ev_cons (e_etry (f := ml_law_1) rfl rfl z) (ev_cons (ev_var rfl) ev_nil)) same1
    · have z := lam0 a0 a1 c0 c1 [o0, some (.m 0), some (.d (.int a)), some (.d (.int c)), some (.d asks), some (.d due), none, none, none, none, none, none, none, none] (M2 b2 P) rfl rfl
      rw [← hdue] at z
      exact ev_call (ev_cons (e_etry (f := ml_law_0) rfl rfl z) (ev_cons (ev_var rfl) ev_nil)) same1
  have T4 : gNot (gTest (fCB oAll (fCons (fLc (iSeq (fVar 4)) (tgName 13) gYes (fCall (m__law_same 6) (fCons (eTry errs m__law_field Z ((lams_law w) Z P) 13) (fCons (fVar 5) fNil))) [13]) fNil))) [o0, some (.m 0), some (.d (.int a)), some (.d (.int c)), some (.d asks), some (.d due), none, none, none, none, none, none, none, none] (M2 b2 P) = .ok false (M2 b2 P) :=
    et_not (et_test (ev_cb (ev_cons lc ev_nil) (show oAll _ _ = R.ok (W.d (.bl true)) _ from rfl)) rfl)
  have z2 := lam2 a0 a1 c0 c1 [o0, some (.m 0), some (.d (.int a)), some (.d (.int c)), some (.d asks), some (.d due), none, none, none, none, none, none, none, none] (M2 b2 P) rfl rfl
  rw [← hdue] at z2
  have T5 : gNot (gTest (fCall (m__law_same 6) (fCons (fTry errs m__law_field Z ((lams_law w) Z P) (fLam 1 P "law.<locals>.<lambda>" Z 2)) (fCons (fVar 5) fNil)))) [o0, some (.m 0), some (.d (.int a)), some (.d (.int c)), some (.d asks), some (.d due), none, none, none, none, none, none, none, none] (M2 b2 P) = .ok false (M2 b2 P) :=
    et_not (et_test (ev_call (ev_cons (e_try (la_eq Z P 2 _ b2) rfl z2) (ev_cons (ev_var rfl) ev_nil)) same1) rfl)
  have z3 := lam3 a0 a1 c0 c1 [o0, some (.m 0), some (.d (.int a)), some (.d (.int c)), some (.d asks), some (.d due), none, none, none, none, none, none, none, none] (M2 b2 P) rfl rfl
  rw [← hagn] at z3
  have T6 : (sAsg (fTry errs m__law_field Z ((lams_law w) Z P) (fLam 1 P "law.<locals>.<lambda>" Z 3)) (tgName 6)) [o0, some (.m 0), some (.d (.int a)), some (.d (.int c)), some (.d asks), some (.d due), none, none, none, none, none, none, none, none] (M2 b2 P)
      = .nx [o0, some (.m 0), some (.d (.int a)), some (.d (.int c)), some (.d asks), some (.d due), some (.d agn), none, none, none, none, none, none, none] (M2 b2 P) := es_set (e_try (la_eq Z P 3 _ b2) rfl z3)
  have T7 : gNot (gTest (fCall (m__law_same 6) (fCons (fVar 6) (fCons (fIf (gBool (fOp oLt (fOp oAdd (fVar 2) (fVar 3)) (fC (.int 401)))) (fTup (fCons (fC (.str "value")) (fCons (fVar 2) fNil))) (fTup (fCons (fC (.str "TooWide")) (fCons (fC (.int 400)) fNil)))) fNil)))) [o0, some (.m 0), some (.d (.int a)), some (.d (.int c)), some (.d asks), some (.d due), some (.d agn), none, none, none, none, none, none, none] (M2 b2 P) = .ok false (M2 b2 P) := by
    have q := duv a (fVar 2) [o0, some (.m 0), some (.d (.int a)), some (.d (.int c)), some (.d asks), some (.d due), some (.d agn), none, none, none, none, none, none, none] rfl rfl (ev_var rfl)
    rw [← hagn] at q
    exact et_not (et_test (ev_call (ev_cons (ev_var rfl) (ev_cons q ev_nil)) same2) rfl)
  have T8 : (sAsg (fCall m__law_of (fCons (fVar 1) (fCons (fCall m__law_odd_moves fNil) fNil))) (tgName 7)) [o0, some (.m 0), some (.d (.int a)), some (.d (.int c)), some (.d asks), some (.d due), some (.d agn), none, none, none, none, none, none, none] (M2 b2 P)
      = .nx [o0, some (.m 0), some (.d (.int a)), some (.d (.int c)), some (.d asks), some (.d due), some (.d agn), some (.d bd), none, none, none, none, none, none] (M2 b3 P) := es_set (ev_call (ev_cons (ev_var rfl) (ev_cons (ev_call ev_nil od) ev_nil)) d3)
  have T9 : gBool (fOp oNe (fTry errs m__law_field Z ((lams_law w) Z P) (fLam 1 P "law.<locals>.<lambda>" Z 4)) (fTup (fCons (fC (.str "BadMove")) (fCons (fC (.int 2)) fNil)))) [o0, some (.m 0), some (.d (.int a)), some (.d (.int c)), some (.d asks), some (.d due), some (.d agn), some (.d bd), none, none, none, none, none, none] (M2 b3 P) = .ok false (M2 b3 P) :=
    et_bool (ev_op (e_try (la_eq Z P 4 _ b3) rfl (bad_moves bd (M2 b3 P) _ rfl ob)) (ev_tup (xs := [.str "BadMove", .int 2]) (ev_cons ev_c (ev_cons ev_c ev_nil)) rfl (show 2 ≤ 100000 by decide)) (pair_ok k5m _))
  obtain ⟨E, hE⟩ : ∃ E : Option W → Option W → Option W → Env, E = fun o8 o9 o10 => [o0, some (.m 0), some (.d (.int a)), some (.d (.int c)), some (.d asks), some (.d due), some (.d agn), some (.d bd), o8, o9, o10, none, none, none] := ⟨_, rfl⟩
  have T11 : (sAsg (fOp oAdd (fC (.int 1)) (fVar 3)) (tgName 8)) (E none none none) (M2 b3 P) = .nx (E (some (.d (.int (s : Int)))) none none) (M2 b3 P) := by
    rw [hE]
    exact es_set (ev_op ev_c (ev_var rfl) (by rw [oAdd_ii, hs]))
  have lcT : ∀ (e : Ev) (n : Nat) (ρ : Env), n ≤ 400 → ρ.length = 14 → e ρ (M2 b3 P) = .ok (.d (.int (n : Int))) (M2 b3 P) → fLc (iRange1 (fCons e fNil)) (tgName 11) gYes (fTup (fCons (fC (.str "top")) (fCons (fVar 11) (fCons (fC (.bl false)) fNil)))) [11] ρ (M2 b3 P) = .ok (.d (.lst ((wTop n).map enD))) (M2 b3 P) := fun e n ρ hn hl he => by
    unfold wTop
    rw [List.map_map]
    have l11 : 11 < (wipeE ρ [11]).length := by simp [wipeE, hl]
    exact lc_map (l := List.range n) (fun j : Nat => W.d (.int (j : Int))) _ (rng_eq n (by omega) (ev_cons he ev_nil)) (fun j _ => ⟨(wipeE ρ [11]).set 11 (some (.d (.int (j : Int)))), rfl, ev_tup (xs := [.str "top", .int (j : Int), .bl false]) (ev_cons ev_c (ev_cons (ev_var (List.getElem?_set_self l11)) (ev_cons ev_c ev_nil))) rfl (show 3 ≤ 100000 by decide)⟩) (by rw [List.length_range]; omega)
  have lcB : ∀ (e : Ev) (n : Nat) (ρ : Env), n ≤ 400 → ρ.length = 14 → ρ[8]? = some (some (.d (.int (s : Int)))) → (∀ ρ', (∀ i, i < 11 → ρ'[i]? = ρ[i]?) → e ρ' (M2 b3 P) = .ok (.d (.int (n : Int))) (M2 b3 P)) → fLc (iRange1 (fCons (fVar 8) fNil)) (tgName 12) gYes (fTup (fCons (fC (.str "top")) (fCons (fOp oAdd e (fVar 12)) (fCons (fC (.bl false)) fNil)))) [12] ρ (M2 b3 P) = .ok (.d (.lst ((wBot n s).map enD))) (M2 b3 P) := fun e n ρ hn hl h8 he => by
    unfold wBot
    rw [List.map_map]
    have l12 : 12 < (wipeE ρ [12]).length := by simp [wipeE, hl]
    refine lc_map (l := List.range s) (fun j : Nat => W.d (.int (j : Int))) _ (rng_eq s (by omega) (ev_cons (ev_var h8) ev_nil)) (fun j _ => ⟨(wipeE ρ [12]).set 12 (some (.d (.int (j : Int)))), rfl, ?_⟩) (by rw [List.length_range]; omega)
    have ag : ∀ i, i < 11 → ((wipeE ρ [12]).set 12 (some (.d (.int (j : Int)))))[i]? = ρ[i]? := fun i hi => by
      rw [List.getElem?_set_ne (by omega)]
      show (ρ.set 12 none)[i]? = _
      rw [List.getElem?_set_ne (by omega)]
    exact ev_tup (xs := [.str "top", .int ((n : Int) + (j : Int)), .bl false]) (ev_cons ev_c (ev_cons (ev_op (he _ ag) (ev_var (List.getElem?_set_self l12)) oAdd_ii) (ev_cons ev_c ev_nil))) rfl (show 3 ≤ 100000 by decide)
  have w1 := wNew 400 s (by decide) s1 (by decide) (by omega) (M2 b3 P)
  have w2 := wNew n s (by omega) s1 (by omega) (by omega) (M2 b3 P)
  have T12 : (sAsg (fCall m_Form (fCons (fC (.bl false)) (fCons (fVar 8) (fCons (fLc (iRange1 (fCons (fC (.int 400)) fNil)) (tgName 11) gYes (fTup (fCons (fC (.str "top")) (fCons (fVar 11) (fCons (fC (.bl false)) fNil)))) [11]) (fCons (fLc (iRange1 (fCons (fVar 8) fNil)) (tgName 12) gYes (fTup (fCons (fC (.str "top")) (fCons (fOp oAdd (fC (.int 400)) (fVar 12)) (fCons (fC (.bl false)) fNil)))) [12]) fNil))))) (tgName 9)) (E (some (.d (.int (s : Int)))) none none) (M2 b3 P) = .nx (E (some (.d (.int (s : Int)))) (some (.d (wF 400 s).D)) none) (M2 b3 P) := by
    rw [hE]
    exact es_set (ev_call (ev_cons ev_c (ev_cons (ev_var rfl) (ev_cons (lcT _ 400 _ (by decide) rfl ev_c) (ev_cons (lcB _ 400 _ (by decide) rfl rfl (fun _ _ => ev_c)) ev_nil)))) w1)
  have T13 : (sAsg (fCall m_Form (fCons (fC (.bl false)) (fCons (fVar 8) (fCons (fLc (iRange1 (fCons (fOp oSub (fC (.int 400)) (fVar 8)) fNil)) (tgName 11) gYes (fTup (fCons (fC (.str "top")) (fCons (fVar 11) (fCons (fC (.bl false)) fNil)))) [11]) (fCons (fLc (iRange1 (fCons (fVar 8) fNil)) (tgName 12) gYes (fTup (fCons (fC (.str "top")) (fCons (fOp oAdd (fOp oSub (fC (.int 400)) (fVar 8)) (fVar 12)) (fCons (fC (.bl false)) fNil)))) [12]) fNil))))) (tgName 10)) (E (some (.d (.int (s : Int)))) (some (.d (wF 400 s).D)) none) (M2 b3 P) = .nx (E (some (.d (.int (s : Int)))) (some (.d (wF 400 s).D)) (some (.d (wF n s).D))) (M2 b3 P) := by
    rw [hE]
    have sb : ∀ ρ : Env, ρ[8]? = some (some (.d (.int (s : Int)))) → fOp oSub (fC (.int 400)) (fVar 8) ρ (M2 b3 P) = .ok (.d (.int (n : Int))) (M2 b3 P) := fun ρ h => ev_op ev_c (ev_var h) (by rw [oSub_ii, show (400 : Int) - (s : Int) = (n : Int) by omega])
    exact es_set (ev_call (ev_cons ev_c (ev_cons (ev_var rfl) (ev_cons (lcT _ n _ (by omega) rfl (sb _ rfl)) (ev_cons (lcB _ n _ (by omega) rfl rfl (fun ρ' h => sb ρ' (by rw [h 8 (by decide)]; rfl))) ev_nil)))) w2)
  have pl := p_least (wF 400 s) (M2 b3 P)
  have el : ((wF 400 s).lst : Int) = 400 + (s : Int) := by
    unfold Fm.lst
    show (((wTop 400).length + (wBot 400 s).length : Nat) : Int) = _
    rw [wTop_len, wBot_len]
    omega
  rw [el] at pl
  have sm : ∀ (i : Int) (m : Mem), oNe (.d (.int i)) (.d (.int i)) m = .ok (.d (.bl false)) m := fun i m => by rw [oNe_ii, decide_eq_true rfl]; rfl
  have T14 : gOr (gBool (fOp oNe (fUn (oProp [("Form", m_Form_least)]) (fVar 9)) (fOp oAdd (fC (.int 400)) (fVar 8)))) (gBool (fOp oNe (fTry errs m__law_field Z ((lams_law w) Z P) (fLam 1 P "law.<locals>.<lambda>" Z 5)) (fTup (fCons (fC (.str "TooWide")) (fCons (fC (.int 400)) fNil))))) (E (some (.d (.int (s : Int)))) (some (.d (wF 400 s).D)) (some (.d (wF n s).D))) (M2 b3 P) = .ok false (M2 b3 P) := by
    rw [hE]
    exact et_orF (et_bool (ev_op (ev_un (ev_var rfl) pl) (ev_op ev_c (ev_var rfl) oAdd_ii) (sm _ _))) (et_bool (ev_op (e_try (la_eq Z P 5 _ b3) rfl (wide_inv w s s1 s5 (M2 b3 P) _ rfl)) (ev_tup (xs := [.str "TooWide", .int 400]) (ev_cons ev_c (ev_cons ev_c ev_nil)) rfl (show 2 ≤ 100000 by decide)) (pair_ok k5w _)))
  have q4 : eqP 5 (.tup [.str "value", .int 400]) = true := by simp [eqP, k5v]
  have e4 := oEq_P (n := 5) (m := M2 b3 P) q4 q4 (by decide)
  rw [eqvW_refl q4] at e4
  have T15 : (sRet (fAnd (fOp oEq (fTry errs m__law_field Z ((lams_law w) Z P) (fLam 1 P "law.<locals>.<lambda>" Z 6)) (fTup (fCons (fC (.str "value")) (fCons (fC (.int 400)) fNil)))) (fOp (oOwnEq [("Form", m_Form___eq__)]) (fMeth [("Form", (m_Form_inverse w))] "inverse" (fMeth [("Form", (m_Form_inverse w))] "inverse" (fVar 10) fNil) fNil) (fVar 10)))) (E (some (.d (.int (s : Int)))) (some (.d (wF 400 s).D)) (some (.d (wF n s).D))) (M2 b3 P) = .rt (.d (.bl true)) (M2 b3 P) := by
    rw [hE]
    exact es_ret (ev_andT (ev_op (e_try (la_eq Z P 6 _ b3) rfl (slim_top w n s ns4 s1 s5 (M2 b3 P) _ rfl)) (ev_tup (xs := [.str "value", .int 400]) (ev_cons ev_c (ev_cons ev_c ev_nil)) rfl (show 2 ≤ 100000 by decide)) e4) (ev_op (inverse_call w (inverse_call w (ev_var rfl) (slim_inv w n s ns4 s1 s5 _)) (slim_back w n s ns4 s1 s5 _)) (ev_var rfl) (feq_refl _ _)))
  have E0 : E none none none = [o0, some (.m 0), some (.d (.int a)), some (.d (.int c)), some (.d asks), some (.d due), some (.d agn), some (.d bd), none, none, none, none, none, none] := by rw [hE]
  have h : b_law w Z P [o0, none, none, none, none, none, none, none, none, none, none, none, none, none] [] = .rt (.d (.bl true)) (M2 b3 P) := by
    unfold b_law sTab
    rw [hb0]
    dsimp only
    show sSeq _ _ [o0, some (.m 0), none, none, none, none, none, none, none, none, none, none, none, none] (M2 (Bag.new ns) P) = _
    refine es_seq T1 (es_seq T2 (es_seq T3 (es_seq (es_ifF T4 es_next) (es_seq (es_ifF T5 es_next) (es_seq T6 (es_seq (es_ifF T7 es_next) (es_seq T8 (es_seq (es_ifF T9 es_next) (es_seq (es_ifF (et_bool (still4 _ _)) es_next) ?_)))))))))
    rw [← E0]
    exact es_seq T11 (es_seq T12 (es_seq T13 (es_seq (es_ifF T14 es_next) T15)))
  subst ho0
  have z := fn_ret (mu := false) (np := 1) (N := 14) (ws := [.d (.fls (ns.map .int))]) (m := []) rfl h
  refine ⟨[], ?_⟩
  unfold m_law
  rw [z]
  rfl
end GD
/-! GFC: the keys of a written dict, told by the run of the top. -/
/-! GF3: the facts of an error without a field. -/
namespace GD
open PySem PySem.Spec PyProof.Rows L2 LamX NdefX
open He (ga ma eqO eqO_ok ba)
structure ErrT0 (P : Program) (st : Stmt) (c : Str) : Prop where
  body : ∃ msg p0 p1 p2 p3 p7 p8 p9 p10 p11 p12 j0 j1, defBody st = errBody0 c msg p0 p1 p2 p3 p7 p8 p9 p10 p11 p12 j0 j1 ∧ (p2.endLine == p7.line) = true
  sc : nscB ["self", "__class__"] ["self"] ["__class__"] (defScope st) = true
  hd : ∃ ar, ((defArgs st).posonlyargs ++ (defArgs st).args).head? = some ar ∧ ar.arg = ("self" : Str)
  bind : ∀ (qual : Str) (cl : List (Str × Addr)) (kV doc pm : Value) (an : Option Addr) (cdv ct : Value) (us : List Value), us.length = 1 → bindArgs (PySem.W.fnX "__init__" qual (defArgs st) (defBody st) (defScope st) cl .none kV doc pm an cdv ct) ⟨us, []⟩ = pure (List.zip (["self"] : List Str) us)
  ks : (defScope st).names.lookup ("super" : Str) = some .globalImplicit
  top : (P.main.scope.names.lookup ("super" : Str)).isSome = false
theorem err_of0 {P : Program} {w : World} {K : PySem.W.Frag} {mg : Str → Option Value} {base h : Heap} {c : Str} {st : Stmt} (X : K.In h) (G : h.Ns mainGlobals mg) (B : errB K P.main.file c = true) (V : fnE K c = (ErrG.mk c st).val) (T : ErrT0 P st c) (hs : mg "super" = none) (n1 : (Fg.noat c "code").ok K = true) : ErrOk P w K mg base c none := by
  obtain ⟨b0, B⟩ := ba B
  obtain ⟨b1, B⟩ := ba B
  obtain ⟨b2, B⟩ := ba B
  obtain ⟨b3, B⟩ := ba B
  obtain ⟨b4, B⟩ := ba B
  obtain ⟨b5, B⟩ := ba B
  obtain ⟨b6, B⟩ := ba B
  have O := oexB_ok b1
  unfold fnE at V
  split at B
  case h_2 => cases B
  rename_i oc od fd osl lk
  rw [lk] at V
  obtain ⟨m1, m2, m3, m4, m5, m6, m7, m8, m9, m10, m11, m12, m13, m14, m15⟩ := fd
  have V : some (m1, m2, m3, m4, m5, m6, m7.map (·.1), m15) = (ErrG.mk c st).val := V
  unfold ErrG.val at V
  simp only [Option.some.injEq, Prod.mk.injEq] at V
  obtain ⟨rfl, rfl, rfl, rfl, rfl, rfl, v7, rfl⟩ := V
  obtain ⟨B1, B⟩ := ba B
  dsimp only at B1 B
  have e8 : m8 = .none := by
    split at B1
    · rfl
    · cases B1
  subst e8
  obtain ⟨cc, rfl⟩ : ∃ cc, m7 = [(("__class__" : Str), cc)] := by
    match m7, v7 with
    | [(nm, cc)], v => exact ⟨cc, by have v : [nm] = [("__class__" : Str)] := v; cases v; rfl⟩
  obtain ⟨cda, rfl⟩ : ∃ cda, m13 = .ref cda := by
    cases m13 with
    | ref a => exact ⟨a, rfl⟩
    | _ => cases B
  have B : (PySem.W.codeIn K (.ref cda) (c ++ ".__init__") && ((match K.lookup cda with
          | some ⟨_, _, .fields vs, _⟩ => (match (vs[2]? : Option Value) with
            | some (.str fl _) => P.main.file == fl
            | _ => false)
          | _ => false) && (match K.lookup cc with
            | some ⟨_, _, .cell (some (.ref C')), _⟩ => C' == ga K c
            | _ => false))) = true := B
  obtain ⟨B2, B⟩ := ba B
  obtain ⟨B3, B4⟩ := ba B
  obtain ⟨msg, p0, p1, p2, p3, p7, p8, p9, p10, p11, p12, j0, j1, hb, hpos⟩ := T.body
  have S := nscope_by T.sc
  have cell : ∃ cl cld csl, K.lookup cc = some (⟨cl, cld, .cell (some (.ref (ga K c))), csl⟩ : Obj) := by
    split at B4
    · rename_i q1 q2 C' q3 q4
      rw [beq_iff_eq] at B4
      exact ⟨_, _, _, by rw [q4, B4]⟩
    · cases B4
  have code : ∃ ccl cdd vs ccs file tf, K.lookup cda = some (⟨ccl, cdd, .fields vs, ccs⟩ : Obj) ∧ vs[2]? = some (.str file tf) ∧ ((P.main.file : Str) == file) = true := by
    split at B3
    · rename_i q1 q2 vs q3 q4
      split at B3
      · rename_i fl t q5
        exact ⟨_, _, _, _, _, _, q4, q5, B3⟩
      · cases B3
    · cases B3
  obtain ⟨ar, a1, a2⟩ := T.hd
  have SF : SupF P K mg (ga K c) (ma K (ga K c) "__init__") cda cc (defScope st) "self" := ⟨⟨_, _, _, _, ar, lk, a1, a2⟩, code, cell, hs, T.top, T.ks, S.frk _ (by simp), S.par _ (by simp), S.kind, eqO_ok b4, of_decide_eq_true b5, eqO_ok b6⟩
  exact ⟨_, _, _, ["self"], He.glo_ok X G b0, O, eqO_ok b2, of_decide_eq_true b3, Binds.all fun us hu => T.bind _ _ _ _ _ _ _ _ us hu,
    err_init0 (w := w) (base := base) O SF lk B2 S hb hpos (He.noat_ok n1)⟩
end GD
/-! GDI: sets of whole numbers; sorted(d) of a dict with tuples as keys. -/
/-! GDJ: count, extend and pop of lists. -/
/-! GDK: list(d) of a dict with tuples as keys. -/
/-! GDL: sum(lists, []). -/
namespace GD
open PySem PySem.Spec PyProof.Rows L2
inductive LLs (H : Hp) : List V → List (List V) → Prop
  | nil : LLs H [] []
  | cons {l : Addr} {vs : List V} {xs : List V} {xss : List (List V)} : H l = some (.lst xs) → LLs H vs xss → LLs H (.ref l :: vs) (xs :: xss)
theorem LLs.length {H : Hp} : ∀ {vs : List V} {xss : List (List V)}, LLs H vs xss → vs.length = xss.length
  | _, _, .nil => rfl
  | _, _, .cons _ r => by rw [List.length_cons, List.length_cons, LLs.length r]
theorem LLs.get {H : Hp} : ∀ {vs : List V} {xss : List (List V)}, LLs H vs xss → ∀ (i : Nat) (v : V), vs[i]? = some v → ∃ (l : Addr) (xs : List V), v = V.ref l ∧ xss[i]? = some xs ∧ H l = some (.lst xs)
  | _, _, .nil, i, v, h => by cases h
  | _, _, .cons e r, 0, v, h => by
    cases h
    exact ⟨_, _, rfl, rfl, e⟩
  | _, _, .cons e r, i + 1, v, h => LLs.get r i v h
end GD
/-! GDM: lists of changeable lists. -/
/-! GDN: comprehensions of changeable lists; defs that hand back such a list; its len and append; sorted as a changeable list. -/
namespace GD
open PySem PySem.Spec PyProof.Rows L2
theorem Mok.push {K : PySem.W.Frag} {mg : Str → Option Value} {Hi H : Hp} {ι : List Addr} {m : Mem} (M : Mok K mg Hi ι m H) {a : Addr} {mo : MO} (nin : a ∉ ι) (hi : Hi a = none) (r : RepO K mg Hi ι H a mo) (hm : mo.free := by trivial) : Mok K mg Hi (ι ++ [a]) (m ++ [mo]) H := by
  have at_ : ∀ {k : Nat} {mo' : MO} {b : Addr}, (m ++ [mo])[k]? = some mo' → (ι ++ [a])[k]? = some b → (m[k]? = some mo' ∧ ι[k]? = some b) ∨ (mo' = mo ∧ b = a ∧ k = ι.length) := by
    intro k mo' b h1 h2
    by_cases hk : k < m.length
    · rw [List.getElem?_append_left hk] at h1
      rw [List.getElem?_append_left (by rw [M.len]; exact hk)] at h2
      exact .inl ⟨h1, h2⟩
    · rw [List.getElem?_append_right (by omega)] at h1
      rw [List.getElem?_append_right (by rw [M.len]; omega)] at h2
      have e1 := List.mem_of_getElem? h1
      have e2 := List.mem_of_getElem? h2
      rw [List.mem_singleton] at e1 e2
      have e3 := (List.getElem?_eq_some_iff.mp h1).1
      have e4 := M.len
      rw [List.length_singleton] at e3
      exact .inr ⟨e1, e2, by omega⟩
  refine ⟨M.sub, by simp [M.len], ?_, fun k mo' b h1 h2 h3 => ?_, fun k mo' b h1 h2 => ?_, M.lnk.push M.len hm⟩
  · rw [List.nodup_append]
    exact ⟨M.nd, by simp, fun b hb b' hb' => by rw [List.mem_singleton] at hb'; subst hb'; exact fun z => nin (by rw [← z]; exact hb)⟩
  · rcases at_ h1 h2 with ⟨h1, h2⟩ | ⟨_, h2, _⟩
    · exact M.free k mo' b h1 h2 h3
    · subst h2; exact hi
  · rcases at_ h1 h2 with ⟨h1, h2⟩ | ⟨h1, h2, h3⟩
    · rw [take_app (Nat.le_of_lt (List.getElem?_eq_some_iff.mp h2).1)]
      exact M.obj k mo' b h1 h2
    · subst h1 h2 h3
      rw [take_app (Nat.le_refl _), List.take_length]
      exact r
end GD
/-! GDO: attributes that hold lists of their own; defs, methods and classes whose own objects stay. -/
namespace GD
open PySem PySem.Spec PyProof.Rows L2
/-! ### mirrors -/
/-! ### defs whose own objects stay -/
section
variable {P : Program} {w : World} {K : PySem.W.Frag} {mg : Str → Option Value} {base : Heap}
/-- what is so for each function of this def, by bound values -/
def DefFn (P : Program) (w : World) (K : PySem.W.Frag) (mg : Str → Option Value) (base : Heap) (x qual : Str) (st : Stmt) (ps : List Str) (k : Nat) (g : Fn) : Prop := ∀ (f : Addr) (fd : FuncData), Fun K x qual st f fd → FnOk P w K mg base (L2.CX P w) k f fd ps (spN K mg g)
theorem DefFn.is {x qual : Str} {st : Stmt} {ps : List Str} {k : Nat} {g : Fn} (G : DefFn P w K mg base x qual st ps k g)
    (hb : ∀ (kV doc pm : Value) (an : Option Addr) (cdv ct : Value) (us : List Value), us.length = ps.length → bindArgs (PySem.W.fnOf x qual (defArgs st) (defBody st) (defScope st) .none kV doc pm an cdv ct) ⟨us, []⟩ = pure (ps.zip us)) : DefIs P w K mg base x qual st k g := fun f fd F => by
  have z := fnR_of (G f fd F) (F.binds hb) .nil
  simp only [List.append_nil] at z
  exact z
end
/-! ### x == [], x != [] -/
end GD
/-! GFD: methods with keyword-only defaults, as facts. -/
namespace GD
open PySem PySem.Spec PyProof.Rows L2
abbrev N_Form_parts : List Str := ["self"]
theorem sc_Form_parts : FnScope N_Form_parts ["self"] (defScope s_Form_parts) := ⟨rfl, rfl, rfl, by decide +kernel, rfl, by decide +kernel, by decide +kernel⟩
abbrev N_Form___eq__ : List Str := ["self", "other"]
theorem sc_Form___eq__ : FnScope N_Form___eq__ ["self", "other"] (defScope s_Form___eq__) := ⟨rfl, rfl, rfl, by decide +kernel, rfl, by decide +kernel, by decide +kernel⟩
abbrev N_image_counts : List Str := ["turned", "shift", "above", "below"]
theorem sc_image_counts : FnScope N_image_counts ["turned", "shift", "above", "below"] (defScope s_image_counts) := ⟨rfl, rfl, rfl, by decide +kernel, rfl, by decide +kernel, by decide +kernel⟩
abbrev N_are_parts : List Str := ["turned", "shift", "top", "bottom", "above", "below", "wanted", "depth", "entry"]
theorem sc_are_parts : FnScope N_are_parts ["turned", "shift", "top", "bottom"] (defScope s_are_parts) := ⟨rfl, rfl, rfl, by decide +kernel, rfl, by decide +kernel, by decide +kernel⟩
abbrev N_ruled : List Str := ["turned", "shift", "end", "depth"]
theorem sc_ruled : FnScope N_ruled ["turned", "shift", "end", "depth"] (defScope s_ruled) := ⟨rfl, rfl, rfl, by decide +kernel, rfl, by decide +kernel, by decide +kernel⟩
abbrev N_trimmed : List Str := ["turned", "shift", "end", "table", "many"]
theorem sc_trimmed : FnScope N_trimmed ["turned", "shift", "end", "table"] (defScope s_trimmed) := ⟨rfl, rfl, rfl, by decide +kernel, rfl, by decide +kernel, by decide +kernel⟩
abbrev N_Form___init__ : List Str := ["self", "turned", "shift", "top", "bottom", "first", "last", "entry"]
theorem sc_Form___init__ : FnScope N_Form___init__ ["self", "turned", "shift", "top", "bottom"] (defScope s_Form___init__) := ⟨rfl, rfl, rfl, by decide +kernel, rfl, by decide +kernel, by decide +kernel⟩
abbrev N_Form_inverse : List Str := ["self", "above", "below", "found", "end", "table", "depth", "entry", "shift", "top", "bottom"]
theorem sc_Form_inverse : FnScope N_Form_inverse ["self"] (defScope s_Form_inverse) := ⟨rfl, rfl, rfl, by decide +kernel, rfl, by decide +kernel, by decide +kernel⟩
abbrev N_Form_least : List Str := ["self"]
theorem sc_Form_least : FnScope N_Form_least ["self"] (defScope s_Form_least) := ⟨rfl, rfl, rfl, by decide +kernel, rfl, by decide +kernel, by decide +kernel⟩
abbrev N_Form_entry : List Str := ["self", "end", "depth", "table"]
theorem sc_Form_entry : FnScope N_Form_entry ["self", "end", "depth"] (defScope s_Form_entry) := ⟨rfl, rfl, rfl, by decide +kernel, rfl, by decide +kernel, by decide +kernel⟩
abbrev N_Form_followed : List Str := ["self", "other", "end", "depth", "middle", "goal"]
theorem sc_Form_followed : FnScope N_Form_followed ["self", "other", "end", "depth"] (defScope s_Form_followed) := ⟨rfl, rfl, rfl, by decide +kernel, rfl, by decide +kernel, by decide +kernel⟩
abbrev N_Form_reached : List Str := ["self", "other", "first", "last"]
theorem sc_Form_reached : FnScope N_Form_reached ["self", "other"] (defScope s_Form_reached) := ⟨rfl, rfl, rfl, by decide +kernel, rfl, by decide +kernel, by decide +kernel⟩
abbrev N_Form___mul__ : List Str := ["self", "other", "above", "below", "turned", "shift", "top", "bottom", "depth"]
theorem sc_Form___mul__ : FnScope N_Form___mul__ ["self", "other"] (defScope s_Form___mul__) := ⟨rfl, rfl, rfl, by decide +kernel, rfl, by decide +kernel, by decide +kernel⟩
abbrev N_Form_still : List Str := []
theorem sc_Form_still : FnScope N_Form_still [] (defScope s_Form_still) := ⟨rfl, rfl, rfl, by decide +kernel, rfl, by decide +kernel, by decide +kernel⟩
abbrev N_is_item : List Str := ["sign", "item"]
theorem sc_is_item : FnScope N_is_item ["sign", "item"] (defScope s_is_item) := ⟨rfl, rfl, rfl, by decide +kernel, rfl, by decide +kernel, by decide +kernel⟩
abbrev N_is_move : List Str := ["move", "sign", "item"]
theorem sc_is_move : FnScope N_is_move ["move"] (defScope s_is_move) := ⟨rfl, rfl, rfl, by decide +kernel, rfl, by decide +kernel, by decide +kernel⟩
abbrev N_depth_of : List Str := ["move"]
theorem sc_depth_of : FnScope N_depth_of ["move"] (defScope s_depth_of) := ⟨rfl, rfl, rfl, by decide +kernel, rfl, by decide +kernel, by decide +kernel⟩
abbrev N_carried : List Str := ["source", "goal", "place"]
theorem sc_carried : FnScope N_carried ["source", "goal", "place"] (defScope s_carried) := ⟨rfl, rfl, rfl, by decide +kernel, rfl, by decide +kernel, by decide +kernel⟩
abbrev N_placed : List Str := ["end_place", "size", "end", "depth"]
theorem sc_placed : FnScope N_placed ["end_place", "size"] (defScope s_placed) := ⟨rfl, rfl, rfl, by decide +kernel, rfl, by decide +kernel, by decide +kernel⟩
abbrev N_moved : List Str := ["move", "size", "place", "spots", "end", "many", "depth"]
theorem sc_moved : FnScope N_moved ["move", "size", "place"] (defScope s_moved) := ⟨rfl, rfl, rfl, by decide +kernel, rfl, by decide +kernel, by decide +kernel⟩
abbrev N_end_entry : List Str := ["move", "size", "place", "goal", "changed"]
theorem sc_end_entry : FnScope N_end_entry ["move", "size", "place"] (defScope s_end_entry) := ⟨rfl, rfl, rfl, by decide +kernel, rfl, by decide +kernel, by decide +kernel⟩
abbrev N_move_parts : List Str := ["move", "deep", "size", "middle", "turned", "shift", "top", "bottom", "depth"]
theorem sc_move_parts : FnScope N_move_parts ["move"] (defScope s_move_parts) := ⟨rfl, rfl, rfl, by decide +kernel, rfl, by decide +kernel, by decide +kernel⟩
abbrev N_Form_of : List Str := ["cls", "moves", "at", "move", "found", "turned", "shift", "top", "bottom"]
theorem sc_Form_of : FnScope N_Form_of ["cls", "moves"] (defScope s_Form_of) := ⟨rfl, rfl, rfl, by decide +kernel, rfl, by decide +kernel, by decide +kernel⟩
abbrev N__law_bag : List Str := ["_law_script", "_law_salt", "_law_cell"]
theorem sc__law_bag : FnScope N__law_bag ["_law_script"] (defScope s__law_bag) := ⟨rfl, rfl, rfl, by decide +kernel, rfl, by decide +kernel, by decide +kernel⟩
abbrev N__law_odd_moves : List Str := ["_law_one", "_law_far", "_law_found"]
theorem sc__law_odd_moves : FnScope N__law_odd_moves [] (defScope s__law_odd_moves) := ⟨rfl, rfl, rfl, by decide +kernel, rfl, by decide +kernel, by decide +kernel⟩
abbrev N__law_pull : List Str := ["_law_bag_here", "_law_amount", "_law_cell", "_law_got", "_law_seed"]
theorem sc__law_pull : FnScope N__law_pull ["_law_bag_here", "_law_amount"] (defScope s__law_pull) := ⟨rfl, rfl, rfl, by decide +kernel, rfl, by decide +kernel, by decide +kernel⟩
abbrev N__law_of : List Str := ["_law_bag_here", "_law_things"]
theorem sc__law_of : FnScope N__law_of ["_law_bag_here", "_law_things"] (defScope s__law_of) := ⟨rfl, rfl, rfl, by decide +kernel, rfl, by decide +kernel, by decide +kernel⟩
abbrev N__law_same : List Str := ["_law_found", "_law_due", "_law_one", "_law_other", "_law_key"]
theorem sc__law_same : FnScope N__law_same ["_law_found", "_law_due"] (defScope s__law_same) := ⟨rfl, rfl, rfl, by decide +kernel, rfl, by decide +kernel, by decide +kernel⟩
abbrev N_Form_top : List Str := ["self"]
theorem sc_Form_top : FnScope N_Form_top ["self"] (defScope s_Form_top) := ⟨rfl, rfl, rfl, by decide +kernel, rfl, by decide +kernel, by decide +kernel⟩
abbrev N_law : List Str := ["_law_script", "_law_bag_here", "_law_one", "_law_other", "_law_asks", "_law_due", "_law_again", "_law_bad", "_law_shift", "_law_wide", "_law_slim", "_law_depth", "_law_k", "_law_ask"]
theorem sc_law : FnScope N_law ["_law_script"] (defScope s_law) := ⟨rfl, rfl, rfl, by decide +kernel, rfl, by decide +kernel, by decide +kernel⟩
abbrev N__law_field : List Str := ["_law_e"]
theorem sc__law_field : FnScope N__law_field ["_law_e"] (defScope s__law_field) := ⟨rfl, rfl, rfl, by decide +kernel, rfl, by decide +kernel, by decide +kernel⟩
abbrev N__law_try : List Str := ["_law_ask", "_law_e"]
theorem sc__law_try : FnScope N__law_try ["_law_ask"] (defScope s__law_try) := ⟨rfl, rfl, rfl, by decide +kernel, rfl, by decide +kernel, by decide +kernel⟩
theorem et_TooWide : ErrT PGM s_err_TooWide "TooWide" "limit" := ⟨⟨_, _, _, _, _, _, _, _, _, _, _, _, _, _, _, _, _, _, _, _, rfl, rfl, rfl⟩, by decide +kernel, ⟨_, rfl, rfl⟩, (fun _ _ _ _ _ _ _ _ us hl => match us, hl with | [_, _], _ => rfl), rfl, by decide +kernel, by decide⟩
theorem et_BadForm : ErrT0 PGM s_err_BadForm "BadForm" := ⟨⟨_, _, _, _, _, _, _, _, _, _, _, _, _, rfl, rfl⟩, by decide +kernel, ⟨_, rfl, rfl⟩, (fun _ _ _ _ _ _ _ _ us hl => match us, hl with | [_], _ => rfl), rfl, by decide +kernel⟩
theorem et_BadMove : ErrT PGM s_err_BadMove "BadMove" "at" := ⟨⟨_, _, _, _, _, _, _, _, _, _, _, _, _, _, _, _, _, _, _, _, rfl, rfl, rfl⟩, by decide +kernel, ⟨_, rfl, rfl⟩, (fun _ _ _ _ _ _ _ _ us hl => match us, hl with | [_, _], _ => rfl), rfl, by decide +kernel, by decide⟩
structure Txt (P : Program) (K : PySem.W.Frag) (mg : Str → Option Value) (w : World) : Prop where
  er_TooWide : ∀ base : Heap, ErrOk P w K mg base "TooWide" (some "limit")
  er_BadForm : ∀ base : Heap, ErrOk P w K mg base "BadForm" none
  er_BadMove : ∀ base : Heap, ErrOk P w K mg base "BadMove" (some "at")
  d__law_try : TopDef K mg "_law_try" s__law_try
  d__law_field : TopDef K mg "_law_field" s__law_field
  cp : ∃ C1 C2, mg "PileError" = some (.ref C1) ∧ mg "Missing" = some (.ref C2)
  tc_TooWide : TryC K mg "PileError" "Missing" ats "TooWide"
  tc_BadForm : TryC K mg "PileError" "Missing" ats "BadForm"
  tc_BadMove : TryC K mg "PileError" "Missing" ats "BadMove"
  b_abs : mg "abs" = none
  b_all : mg "all" = none
  b_bool : mg "bool" = none
  b_dict : mg "dict" = none
  b_enumerate : mg "enumerate" = none
  b_int : mg "int" = none
  b_isinstance : mg "isinstance" = none
  b_len : mg "len" = none
  b_list : mg "list" = none
  b_max : mg "max" = none
  b_range : mg "range" = none
  b_sorted : mg "sorted" = none
  b_str : mg "str" = none
  b_tuple : mg "tuple" = none
  b_zip : mg "zip" = none
  g_MOST_BLOCK : ∃ t, mg "MOST_BLOCK" = some (.int (400) t)
  g_MOST_DEPTH : ∃ t, mg "MOST_DEPTH" = some (.int (399) t)
  t_SHAPES : DictTab K mg w "SHAPES" [("swap", "pp"), ("carry", "pp"), ("cut", "k"), ("turn", "eb"), ("over", ""), ("face", "p")]
  t_ENDS : DictTab K mg w "ENDS" [("top", "t"), ("bottom", "b")]
  cm_Form_of : CMethAt K mg "Form" "of" "of" "Form.of" s_Form_of
  cl_Form : ClsAt K mg "Form"
  pr_Form_least : PropAt K mg "Form" "least" "least" "Form.least" s_Form_least
  ow_Form___mul__ : OwnAt K mg "Form" "__mul__" "__mul__" "Form.__mul__" s_Form___mul__
  sm_Form_still : SMethAt K mg "Form" "still" "still" "Form.still" s_Form_still
  ow_Form___eq__ : OwnAt K mg "Form" "__eq__" "__eq__" "Form.__eq__" s_Form___eq__
  nb_Form : NeAt K mg "Form"
  nw_Form : NewAt K mg "Form" "__init__" "Form.__init__" s_Form___init__
  me_Form_inverse : MethAt K mg "Form" "inverse" "inverse" "Form.inverse" s_Form_inverse
  me_Form_top : MethAt K mg "Form" "top" "top" "Form.top" s_Form_top
  is_Form : IsiOk K mg "Form"
  me_Form_parts : MethAt K mg "Form" "parts" "parts" "Form.parts" s_Form_parts
  fl_Form_last : FldOk K mg "Form" "last"
  fl_Form_first : FldOk K mg "Form" "first"
  fl_Form_moved_by : FldOk K mg "Form" "moved_by"
  fl_Form_faced : FldOk K mg "Form" "faced"
  co_Form_WIDEST_400 : ConOk K mg "Form" "WIDEST" (.int 400)
  me_Form_reached : MethAt K mg "Form" "reached" "reached" "Form.reached" s_Form_reached
  me_Form_followed : MethAt K mg "Form" "followed" "followed" "Form.followed" s_Form_followed
  me_Form_entry : MethAt K mg "Form" "entry" "entry" "Form.entry" s_Form_entry
  d_image_counts : TopDef K mg "image_counts" s_image_counts
  d_are_parts : TopDef K mg "are_parts" s_are_parts
  d_ruled : TopDef K mg "ruled" s_ruled
  d_trimmed : TopDef K mg "trimmed" s_trimmed
  d_is_item : TopDef K mg "is_item" s_is_item
  d_is_move : TopDef K mg "is_move" s_is_move
  d_depth_of : TopDef K mg "depth_of" s_depth_of
  d_carried : TopDef K mg "carried" s_carried
  d_placed : TopDef K mg "placed" s_placed
  d_moved : TopDef K mg "moved" s_moved
  d_end_entry : TopDef K mg "end_entry" s_end_entry
  d_move_parts : TopDef K mg "move_parts" s_move_parts
  d__law_bag : TopDef K mg "_law_bag" s__law_bag
  d__law_odd_moves : TopDef K mg "_law_odd_moves" s__law_odd_moves
  d__law_pull : TopDef K mg "_law_pull" s__law_pull
  d__law_of : TopDef K mg "_law_of" s__law_of
  d__law_same : TopDef K mg "_law_same" s__law_same
  d_law : TopDef K mg "law" s_law
section
variable {P : Program} {w : World} {K : PySem.W.Frag} {mg : Str → Option Value} {base : Heap}
theorem ok_field (T : Txt P K mg w) : FieldOk P w K mg base "_law_field" ats 1 m__law_field := field_ok (e := "_law_e") T.d__law_field sc__law_field rfl (fun _ _ _ _ _ _ us hl => match us, hl with | [_], _ => rfl) fun f cdv A outer s H p x c =>
    (pssd_cons (psd_if (ptd_cmp (op_inH c.room) s_in (pd_xf c (by decide) (pd_var (pv 0))) (pd_lst (pad_cons pd_str (pad_cons pd_str pad_nil))) (by rfl))
    (pssd_one (psd_ret (pd_xf c (by decide) (pd_var (pv 0)))))
    pssd_nil)
    (pssd_cons (psd_if (ptd_cmp (op_inH c.room) s_in (pd_xf c (by decide) (pd_var (pv 0))) (pd_lst (pad_cons pd_str (pad_cons pd_str (pad_cons pd_str (pad_cons pd_str pad_nil))))) (by rfl))
    (pssd_one (psd_ret (pd_xf c (by decide) (pd_var (pv 0)))))
    pssd_nil)
    (pssd_cons (psd_if (ptd_cmp (op_inH c.room) s_in (pd_xf c (by decide) (pd_var (pv 0))) (pd_lst (pad_cons pd_str (pad_cons pd_str (pad_cons pd_str (pad_cons pd_str (pad_cons pd_str pad_nil)))))) (by rfl))
    (pssd_one (psd_ret (pd_xf c (by decide) (pd_var (pv 0)))))
    pssd_nil)
    (pssd_cons (psd_if (ptd_cmp (op_inH c.room) s_in (pd_xf c (by decide) (pd_var (pv 0))) (pd_lst (pad_cons pd_str (pad_cons pd_str (pad_cons pd_str (pad_cons pd_str (pad_cons pd_str pad_nil)))))) (by rfl))
    (pssd_one (psd_ret (pd_xf c (by decide) (pd_var (pv 0)))))
    pssd_nil)
    (pssd_cons (psd_if (ptd_cmp (op_inH c.room) s_in (pd_xf c (by decide) (pd_var (pv 0))) (pd_lst (pad_cons pd_str (pad_cons pd_str pad_nil))) (by rfl))
    (pssd_one (psd_ret (pd_xf c (by decide) (pd_var (pv 0)))))
    pssd_nil)
    (pssd_cons (psd_if (ptd_cmp (op_eqH c.room) s_eq (pd_xf c (by decide) (pd_var (pv 0))) pd_str (nomark _))
    (pssd_one (psd_ret (pd_xf c (by decide) (pd_var (pv 0)))))
    pssd_nil)
    (pssd_cons (psd_if (ptd_cmp (op_eqH c.room) s_eq (pd_xf c (by decide) (pd_var (pv 0))) pd_str (nomark _))
    (pssd_one (psd_ret (pd_xf c (by decide) (pd_var (pv 0)))))
    pssd_nil)
    (pssd_cons (psd_if (ptd_cmp (op_eqH c.room) s_eq (pd_xf c (by decide) (pd_var (pv 0))) pd_str (nomark _))
    (pssd_one (psd_ret (pd_xf c (by decide) (pd_var (pv 0)))))
    pssd_nil)
    (pssd_one (psd_ret (pd_if (ptd_cmp (op_eqH c.room) s_eq (pd_xf c (by decide) (pd_var (pv 0))) pd_str (nomark _)) (pd_xf c (by decide) (pd_var (pv 0))) pd_non)))))))))))
theorem ok_try (T : Txt P K mg w) : TryOk P w K mg base "_law_try" errs m__law_field 1 := ⟨"_law_ask", "_law_e", "_law_field", "PileError", "Missing", s__law_try, ats, ⟨T.d__law_try, sc__law_try, (fun _ _ _ _ _ _ us hl => match us, hl with | [_], _ => rfl), ⟨_, _, _, _, _, _, _, _, _, _, _, _, _, _, _, _, _, _, _, _, _, _, _, _, _, _, _, _, rfl⟩, rfl, rfl, rfl, rfl, rfl, by decide, T.cp⟩, ok_field T, by decide, fun c hc => AllC.get (l := errs) (p := TryC K mg "PileError" "Missing" ats) ⟨T.tc_TooWide, T.tc_BadForm, T.tc_BadMove, trivial⟩ hc⟩
theorem bd_Form_parts (T : Txt P K mg w) (f : Addr) (cdv : Value) (A : Around) (outer : List PySem.Env) (s : Shared) (H : Hp) (E : XK) (c : Cc (cxOf (L2.CX P w) P w K mg base N_Form_parts "Form.parts" (defScope s_Form_parts) f cdv A outer s H E) (fun c d _ H' => E c d H') 0) :
    PSs (cxOf (L2.CX P w) P w K mg base N_Form_parts "Form.parts" (defScope s_Form_parts) f cdv A outer s H E) (defBody s_Form_parts) (tDS K mg (fun c d _ H' => E c d H') b_Form_parts) :=
    (pssd_one (psd_ret (pd_tup (pad_cons (pd_fld (cs := ["Form"]) ⟨T.fl_Form_faced, trivial⟩ (pd_var (pv 0))) (pad_cons (pd_fld (cs := ["Form"]) ⟨T.fl_Form_moved_by, trivial⟩ (pd_var (pv 0))) (pad_cons (pd_fld (cs := ["Form"]) ⟨T.fl_Form_first, trivial⟩ (pd_var (pv 0))) (pad_cons (pd_fld (cs := ["Form"]) ⟨T.fl_Form_last, trivial⟩ (pd_var (pv 0))) pad_nil)))))))
theorem is_Form_parts (T : Txt P K mg w) : DefIs P w K mg base "parts" "Form.parts" s_Form_parts 1 m_Form_parts := fun _ _ F => fnr_ok false F sc_Form_parts rfl rfl (fun _ _ _ _ _ _ us hl => match us, hl with | [_], _ => rfl) (bd_Form_parts T)
theorem bd_Form___eq__ (T : Txt P K mg w) (f : Addr) (cdv : Value) (A : Around) (outer : List PySem.Env) (s : Shared) (H : Hp) (E : XK) (c : Cc (cxOf (L2.CX P w) P w K mg base N_Form___eq__ "Form.__eq__" (defScope s_Form___eq__) f cdv A outer s H E) (fun c d _ H' => E c d H') 1) :
    PSs (cxOf (L2.CX P w) P w K mg base N_Form___eq__ "Form.__eq__" (defScope s_Form___eq__) f cdv A outer s H E) (defBody s_Form___eq__) (tDS K mg (fun c d _ H' => E c d H') b_Form___eq__) :=
    (pssd_one (psd_ret (pd_and (pd_callB (cr_isiC T.is_Form) (s_isiC T.is_Form) (by rfl) T.b_isinstance (by decide +kernel) (pad_cons (pd_var (pv 1)) (pad_cons (pd_glc T.cl_Form (by rfl)) pad_nil))) (pd_one (pd_cmp (op_eqU c.room) s_eq (pd_meth0 (j := 1) c ⟨(T.me_Form_parts.ok (is_Form_parts T)).mono (by decide), trivial⟩ (by decide) (pd_var (pv 0))) (pd_meth0 (j := 1) c ⟨(T.me_Form_parts.ok (is_Form_parts T)).mono (by decide), trivial⟩ (by decide) (pd_var (pv 1))) (nomark _))))))
theorem is_Form___eq__ (T : Txt P K mg w) : DefIs P w K mg base "__eq__" "Form.__eq__" s_Form___eq__ 2 m_Form___eq__ := fun _ _ F => fnr_ok false F sc_Form___eq__ rfl rfl (fun _ _ _ _ _ _ us hl => match us, hl with | [_, _], _ => rfl) (bd_Form___eq__ T)
theorem bd_image_counts (T : Txt P K mg w) (f : Addr) (cdv : Value) (A : Around) (outer : List PySem.Env) (s : Shared) (H : Hp) (E : XK) (c : Cc (cxOf (L2.CX P w) P w K mg base N_image_counts "image_counts" (defScope s_image_counts) f cdv A outer s H E) (fun c d _ H' => E c d H') 0) :
    PSs (cxOf (L2.CX P w) P w K mg base N_image_counts "image_counts" (defScope s_image_counts) f cdv A outer s H E) (defBody s_image_counts) (tDS K mg (fun c d _ H' => E c d H') b_image_counts) :=
    (pssd_cons (psd_if (ptd_truth (pd_var (pv 0)))
    (pssd_one (psd_ret (pd_tup (pad_cons (pd_op op_addU s_add (pd_var (pv 3)) (pd_var (pv 1))) (pad_cons (pd_op op_sub s_sub (pd_var (pv 2)) (pd_var (pv 1))) pad_nil)))))
    pssd_nil)
    (pssd_one (psd_ret (pd_tup (pad_cons (pd_op op_addU s_add (pd_var (pv 2)) (pd_var (pv 1))) (pad_cons (pd_op op_sub s_sub (pd_var (pv 3)) (pd_var (pv 1))) pad_nil))))))
theorem is_image_counts (T : Txt P K mg w) : DefIs P w K mg base "image_counts" "image_counts" s_image_counts 1 m_image_counts := fun _ _ F => fnr_ok false F sc_image_counts rfl rfl (fun _ _ _ _ _ _ us hl => match us, hl with | [_, _, _, _], _ => rfl) (bd_image_counts T)
theorem ok_image_counts (T : Txt P K mg w) : DefOk P w K mg base "image_counts" 1 m_image_counts := T.d_image_counts.ok (is_image_counts T)
theorem bd_are_parts (T : Txt P K mg w) (f : Addr) (cdv : Value) (A : Around) (outer : List PySem.Env) (s : Shared) (H : Hp) (E : XK) (c : Cc (cxOf (L2.CX P w) P w K mg base N_are_parts "are_parts" (defScope s_are_parts) f cdv A outer s H E) (fun c d _ H' => E c d H') 1) :
    PSs (cxOf (L2.CX P w) P w K mg base N_are_parts "are_parts" (defScope s_are_parts) f cdv A outer s H E) (defBody s_are_parts) (tDS K mg (fun c d _ H' => E c d H') b_are_parts) :=
    (pssd_cons (psd_asg (pd_call c (ok_image_counts T) (by decide) (by rfl) (pad_cons (pd_var (pv 0)) (pad_cons (pd_var (pv 1)) (pad_cons (pd_callB call_len s_len (by rfl) T.b_len (by decide +kernel) (pad_cons (pd_var (pv 2)) pad_nil)) (pad_cons (pd_callB call_len s_len (by rfl) T.b_len (by decide +kernel) (pad_cons (pd_var (pv 3)) pad_nil)) pad_nil))))) (pgd_un c.calm (pgsd_cons (pgd_name (pg_name (i := 4) c.nd rfl (Or.inl rfl))) (pgsd_cons (pgd_name (pg_name (i := 5) c.nd rfl (Or.inl rfl))) pgsd_nil))))
    (pssd_cons (psd_if (PW.pt (pwd_or (ptd_cmp op_lt s_lt (pd_var (pv 4)) pd_int (nomark _)) (pwd_or1 (ptd_cmp op_lt s_lt (pd_var (pv 5)) pd_int (nomark _)))))
    (pssd_one (psd_ret pd_bl))
    pssd_nil)
    (pssd_cons (psd_set (i := 6) c.nd rfl (Or.inl rfl) (pd_op op_addU s_add (pd_lc (own := [("depth", 7)]) c.calm c.nd (pid_range1 (by rfl) T.b_range (pad_cons (pd_var (pv 4)) pad_nil)) (blkOk_by (own := [("depth", 7)]) (N := N_are_parts) (sc := defScope s_are_parts) (by decide +kernel)) (fun s0 H0 C0 cl0 fp0 => (pgv_name (pg_name (i := 7) (c.blk s0 H0 _ _ fp0).nd rfl (Or.inl rfl)) (by decide))) (fun s0 H0 C0 cl0 fp0 => ptsd_nil) (fun s0 H0 C0 cl0 fp0 => (pd_tup (pad_cons pd_str (pad_cons (pd_var (pv 7)) pad_nil))))) (pd_lc (own := [("depth", 7)]) c.calm c.nd (pid_range1 (by rfl) T.b_range (pad_cons (pd_var (pv 5)) pad_nil)) (blkOk_by (own := [("depth", 7)]) (N := N_are_parts) (sc := defScope s_are_parts) (by decide +kernel)) (fun s0 H0 C0 cl0 fp0 => (pgv_name (pg_name (i := 7) (c.blk s0 H0 _ _ fp0).nd rfl (Or.inl rfl)) (by decide))) (fun s0 H0 C0 cl0 fp0 => ptsd_nil) (fun s0 H0 C0 cl0 fp0 => (pd_tup (pad_cons pd_str (pad_cons (pd_var (pv 7)) pad_nil)))))))
    (pssd_one (psd_ret (pd_cmp (op_eqU c.room) s_eq (pd_callB (cr_sortD c) s_sorted (by rfl) T.b_sorted (by decide +kernel) (pad_cons (pd_lc (own := [("entry", 8)]) c.calm c.nd (pid_seq (pd_op op_addU s_add (pd_var (pv 2)) (pd_var (pv 3)))) (blkOk_by (own := [("entry", 8)]) (N := N_are_parts) (sc := defScope s_are_parts) (by decide +kernel)) (fun s0 H0 C0 cl0 fp0 => (pgv_name (pg_name (i := 8) (c.blk s0 H0 _ _ fp0).nd rfl (Or.inl rfl)) (by decide))) (fun s0 H0 C0 cl0 fp0 => ptsd_nil) (fun s0 H0 C0 cl0 fp0 => (pd_tup (pad_cons (pd_ix (pd_var (pv 8)) pd_int (fun _ _ => rfl)) (pad_cons (pd_ix (pd_var (pv 8)) pd_int (fun _ _ => rfl)) pad_nil))))) pad_nil)) (pd_callB (cr_sortD c) s_sorted (by rfl) T.b_sorted (by decide +kernel) (pad_cons (pd_var (pv 6)) pad_nil)) (nomark _)))))))
theorem is_are_parts (T : Txt P K mg w) : DefIs P w K mg base "are_parts" "are_parts" s_are_parts 2 m_are_parts := fun _ _ F => fnr_ok false F sc_are_parts rfl rfl (fun _ _ _ _ _ _ us hl => match us, hl with | [_, _, _, _], _ => rfl) (bd_are_parts T)
theorem ok_are_parts (T : Txt P K mg w) : DefOk P w K mg base "are_parts" 2 m_are_parts := T.d_are_parts.ok (is_are_parts T)
theorem bd_ruled (T : Txt P K mg w) (f : Addr) (cdv : Value) (A : Around) (outer : List PySem.Env) (s : Shared) (H : Hp) (E : XK) (c : Cc (cxOf (L2.CX P w) P w K mg base N_ruled "ruled" (defScope s_ruled) f cdv A outer s H E) (fun c d _ H' => E c d H') 0) :
    PSs (cxOf (L2.CX P w) P w K mg base N_ruled "ruled" (defScope s_ruled) f cdv A outer s H E) (defBody s_ruled) (tDS K mg (fun c d _ H' => E c d H') b_ruled) :=
    (pssd_cons (psd_if (ptd_not (ptd_truth (pd_var (pv 0))))
    (pssd_one (psd_ret (pd_tup (pad_cons (pd_var (pv 2)) (pad_cons (pd_if (ptd_cmp (op_eqU c.room) s_eq (pd_var (pv 2)) pd_str (nomark _)) (pd_op op_addU s_add (pd_var (pv 3)) (pd_var (pv 1))) (pd_op op_sub s_sub (pd_var (pv 3)) (pd_var (pv 1)))) (pad_cons pd_bl pad_nil))))))
    pssd_nil)
    (pssd_one (psd_ret (pd_if (ptd_cmp (op_eqU c.room) s_eq (pd_var (pv 2)) pd_str (nomark _)) (pd_tup (pad_cons pd_str (pad_cons (pd_op op_sub s_sub (pd_var (pv 3)) (pd_var (pv 1))) (pad_cons pd_bl pad_nil)))) (pd_tup (pad_cons pd_str (pad_cons (pd_op op_addU s_add (pd_var (pv 3)) (pd_var (pv 1))) (pad_cons pd_bl pad_nil))))))))
theorem is_ruled (T : Txt P K mg w) : DefIs P w K mg base "ruled" "ruled" s_ruled 1 m_ruled := fun _ _ F => fnr_ok false F sc_ruled rfl rfl (fun _ _ _ _ _ _ us hl => match us, hl with | [_, _, _, _], _ => rfl) (bd_ruled T)
theorem ok_ruled (T : Txt P K mg w) : DefOk P w K mg base "ruled" 1 m_ruled := T.d_ruled.ok (is_ruled T)
theorem bd_trimmed (T : Txt P K mg w) (f : Addr) (cdv : Value) (A : Around) (outer : List PySem.Env) (s : Shared) (H : Hp) (E : XK) (c : Cc (cxOf (L2.CX P w) P w K mg base N_trimmed "trimmed" (defScope s_trimmed) f cdv A outer s H E) (fun c d _ H' => E c d H') 1) :
    PSs (cxOf (L2.CX P w) P w K mg base N_trimmed "trimmed" (defScope s_trimmed) f cdv A outer s H E) (defBody s_trimmed) (tDS K mg (fun c d _ H' => E c d H') b_trimmed) :=
    (pssd_cons (psd_set (i := 4) c.nd rfl (Or.inl rfl) (pd_callB call_len s_len (by rfl) T.b_len (by decide +kernel) (pad_cons (pd_var (pv 3)) pad_nil)))
    (pssd_cons (psd_while (fuel := fuelI 4 1) c.hp (PW.pt (pwd_and (ptd_cmp op_gt s_gt (pd_var (pv 4)) pd_int (nomark _)) (pwd_and1 (ptd_cmp (op_eqU c.room) s_eq (pd_ix (pd_var (pv 3)) (pd_op op_sub s_sub (pd_var (pv 4)) pd_int) (fun _ _ => rfl)) (pd_call c (ok_ruled T) (by decide) (by rfl) (pad_cons (pd_var (pv 0)) (pad_cons (pd_var (pv 1)) (pad_cons (pd_var (pv 2)) (pad_cons (pd_op op_sub s_sub (pd_var (pv 4)) pd_int) pad_nil))))) (nomark _)))))
    (pssd_one (psd_set (i := 4) c.nd rfl (Or.inl rfl) (pd_op op_sub s_sub (pd_var (pv 4)) pd_int))))
    (pssd_one (psd_ret (pd_callTy call_tuple_of s_tuple (by rfl) T.b_tuple (by decide +kernel) (pad_cons (pd_slice (mu := false) (pd_var (pv 3)) pod_none (pod_some (pd_var (pv 4)))) pad_nil))))))
theorem is_trimmed (T : Txt P K mg w) : DefIs P w K mg base "trimmed" "trimmed" s_trimmed 2 m_trimmed := fun _ _ F => fnr_ok false F sc_trimmed rfl rfl (fun _ _ _ _ _ _ us hl => match us, hl with | [_, _, _, _], _ => rfl) (bd_trimmed T)
theorem ok_trimmed (T : Txt P K mg w) : DefOk P w K mg base "trimmed" 2 m_trimmed := T.d_trimmed.ok (is_trimmed T)
theorem bd_Form___init__ (T : Txt P K mg w) (f : Addr) (cdv : Value) (A : Around) (outer : List PySem.Env) (s : Shared) (H : Hp) (E : XK) (c : Cc (cxOf (L2.CX P w) P w K mg base N_Form___init__ "Form.__init__" (defScope s_Form___init__) f cdv A outer s H E) (fun c d _ H' => E c d H') 2) :
    PSs (cxOf (L2.CX P w) P w K mg base N_Form___init__ "Form.__init__" (defScope s_Form___init__) f cdv A outer s H E) (defBody s_Form___init__) (tDS K mg (fun c d _ H' => E c d H') b_Form___init__) :=
    (pssd_cons (psd_if (PW.pt (pwd_or (ptd_cmp op_gt s_gt (pd_callB call_len s_len (by rfl) T.b_len (by decide +kernel) (pad_cons (pd_var (pv 3)) pad_nil)) (pd_con ⟨T.co_Form_WIDEST_400, trivial⟩ (pd_var (pv 0))) (nomark _)) (pwd_or1 (ptd_cmp op_gt s_gt (pd_callB call_len s_len (by rfl) T.b_len (by decide +kernel) (pad_cons (pd_var (pv 4)) pad_nil)) (pd_con ⟨T.co_Form_WIDEST_400, trivial⟩ (pd_var (pv 0))) (nomark _)))))
    (pssd_one (psd_raise c (T.er_TooWide _) (by decide) (by rfl) (pd_con ⟨T.co_Form_WIDEST_400, trivial⟩ (pd_var (pv 0)))))
    pssd_nil)
    (pssd_cons (psd_par (i := 5) (j := 6) (fun _ ha => ps_par c.calm c.nd rfl rfl (by decide) rfl rfl ha (by rfl)) (pad_cons (pd_lc (own := [("entry", 7)]) c.calm c.nd (pid_seq (pd_var (pv 3))) (blkOk_by (own := [("entry", 7)]) (N := N_Form___init__) (sc := defScope s_Form___init__) (by decide +kernel)) (fun s0 H0 C0 cl0 fp0 => (pgv_name (pg_name (i := 7) (c.blk s0 H0 _ _ fp0).nd rfl (Or.inl rfl)) (by decide))) (fun s0 H0 C0 cl0 fp0 => ptsd_nil) (fun s0 H0 C0 cl0 fp0 => (pd_callTy call_tuple_of s_tuple (by rfl) T.b_tuple (by decide +kernel) (pad_cons (pd_var (pv 7)) pad_nil)))) (pad_cons (pd_lc (own := [("entry", 7)]) c.calm c.nd (pid_seq (pd_var (pv 4))) (blkOk_by (own := [("entry", 7)]) (N := N_Form___init__) (sc := defScope s_Form___init__) (by decide +kernel)) (fun s0 H0 C0 cl0 fp0 => (pgv_name (pg_name (i := 7) (c.blk s0 H0 _ _ fp0).nd rfl (Or.inl rfl)) (by decide))) (fun s0 H0 C0 cl0 fp0 => ptsd_nil) (fun s0 H0 C0 cl0 fp0 => (pd_callTy call_tuple_of s_tuple (by rfl) T.b_tuple (by decide +kernel) (pad_cons (pd_var (pv 7)) pad_nil)))) pad_nil)))
    (pssd_cons (psd_if (ptd_not (ptd_truth (pd_call c (ok_are_parts T) (by decide) (by rfl) (pad_cons (pd_var (pv 1)) (pad_cons (pd_var (pv 2)) (pad_cons (pd_var (pv 5)) (pad_cons (pd_var (pv 6)) pad_nil)))))))
    (pssd_one (psd_raise0 c (T.er_BadForm _) (by decide) (by rfl)))
    pssd_nil)
    (pssd_cons (psd_fld ⟨T.fl_Form_faced, trivial⟩ (pd_var (pv 1)) (pd_var (pv 0)))
    (pssd_cons (psd_fld ⟨T.fl_Form_moved_by, trivial⟩ (pd_var (pv 2)) (pd_var (pv 0)))
    (pssd_cons (psd_fld ⟨T.fl_Form_first, trivial⟩ (pd_call c (ok_trimmed T) (by decide) (by rfl) (pad_cons (pd_var (pv 1)) (pad_cons (pd_var (pv 2)) (pad_cons pd_str (pad_cons (pd_var (pv 5)) pad_nil))))) (pd_var (pv 0)))
    (pssd_one (psd_fld ⟨T.fl_Form_last, trivial⟩ (pd_call c (ok_trimmed T) (by decide) (by rfl) (pad_cons (pd_var (pv 1)) (pad_cons (pd_var (pv 2)) (pad_cons pd_str (pad_cons (pd_var (pv 6)) pad_nil))))) (pd_var (pv 0))))))))))
theorem is_Form___init__ (T : Txt P K mg w) : DefIs P w K mg base "__init__" "Form.__init__" s_Form___init__ 3 m_Form___init__ := fun _ _ F => fnr_ok false F sc_Form___init__ rfl rfl (fun _ _ _ _ _ _ us hl => match us, hl with | [_, _, _, _, _], _ => rfl) (bd_Form___init__ T)
theorem ok_Form (T : Txt P K mg w) : DefOk P w K mg base "Form" 4 m_Form := T.nw_Form.ok true (is_Form___init__ T)
theorem bd_Form_inverse (T : Txt P K mg w) (f : Addr) (cdv : Value) (A : Around) (outer : List PySem.Env) (s : Shared) (H : Hp) (E : XK) (c : Cc (cxOf (L2.CX P w) P w K mg base N_Form_inverse "Form.inverse" (defScope s_Form_inverse) f cdv A outer s H E) (fun c d _ H' => E c d H') 4) :
    PSs (cxOf (L2.CX P w) P w K mg base N_Form_inverse "Form.inverse" (defScope s_Form_inverse) f cdv A outer s H E) (defBody s_Form_inverse) (tDS K mg (fun c d _ H' => E c d H') (b_Form_inverse w)) :=
    (pssd_cons (psd_asg (pd_call c (ok_image_counts T) (by decide) (by rfl) (pad_cons (pd_fld (cs := ["Form"]) ⟨T.fl_Form_faced, trivial⟩ (pd_var (pv 0))) (pad_cons (pd_fld (cs := ["Form"]) ⟨T.fl_Form_moved_by, trivial⟩ (pd_var (pv 0))) (pad_cons (pd_callB call_len s_len (by rfl) T.b_len (by decide +kernel) (pad_cons (pd_fld (cs := ["Form"]) ⟨T.fl_Form_first, trivial⟩ (pd_var (pv 0))) pad_nil)) (pad_cons (pd_callB call_len s_len (by rfl) T.b_len (by decide +kernel) (pad_cons (pd_fld (cs := ["Form"]) ⟨T.fl_Form_last, trivial⟩ (pd_var (pv 0))) pad_nil)) pad_nil))))) (pgd_un c.calm (pgsd_cons (pgd_name (pg_name (i := 1) c.nd rfl (Or.inl rfl))) (pgsd_cons (pgd_name (pg_name (i := 2) c.nd rfl (Or.inl rfl))) pgsd_nil))))
    (pssd_cons (psd_set (i := 3) c.nd rfl (Or.inr rfl) pd_newD)
    (pssd_cons (psd_for c.hp c.calm (pid_seq (pd_tup (pad_cons (pd_tup (pad_cons pd_str (pad_cons (pd_fld (cs := ["Form"]) ⟨T.fl_Form_first, trivial⟩ (pd_var (pv 0))) pad_nil))) (pad_cons (pd_tup (pad_cons pd_str (pad_cons (pd_fld (cs := ["Form"]) ⟨T.fl_Form_last, trivial⟩ (pd_var (pv 0))) pad_nil))) pad_nil)))) (pgd_un c.calm (pgsd_cons (pgd_name (pg_name (i := 4) c.nd rfl (Or.inl rfl))) (pgsd_cons (pgd_name (pg_name (i := 5) c.nd rfl (Or.inl rfl))) pgsd_nil)))
    (pssd_one (psd_for c.hp c.calm (pid_enumA (by rfl) T.b_enumerate (pad_cons (pd_var (pv 5)) pad_nil)) (pgd_un c.calm (pgsd_cons (pgd_name (pg_name (i := 6) c.nd rfl (Or.inl rfl))) (pgsd_cons (pgd_name (pg_name (i := 7) c.nd rfl (Or.inl rfl))) pgsd_nil)))
    (pssd_one (psd_asg (pd_tup (pad_cons (pd_var (pv 4)) (pad_cons (pd_var (pv 6)) (pad_cons (pd_ix (pd_var (pv 7)) pd_int (fun _ _ => rfl)) pad_nil)))) (pgd_subD c (pd_var (pv 3)) (pd_slice (mu := false) (pd_var (pv 7)) pod_none (pod_some pd_int))))))))
    (pssd_cons (psd_set (i := 8) c.nd rfl (Or.inl rfl) (pd_if (ptd_truth (pd_fld (cs := ["Form"]) ⟨T.fl_Form_faced, trivial⟩ (pd_var (pv 0)))) (pd_fld (cs := ["Form"]) ⟨T.fl_Form_moved_by, trivial⟩ (pd_var (pv 0))) (pd_un un_neg s_neg (pd_fld (cs := ["Form"]) ⟨T.fl_Form_moved_by, trivial⟩ (pd_var (pv 0))))))
    (pssd_cons (psd_set (i := 9) c.nd rfl (Or.inl rfl) (pd_call c (ok_trimmed T) (by decide) (by rfl) (pad_cons (pd_fld (cs := ["Form"]) ⟨T.fl_Form_faced, trivial⟩ (pd_var (pv 0))) (pad_cons (pd_var (pv 8)) (pad_cons pd_str (pad_cons (pd_lc (own := [("depth", 6)]) c.calm c.nd (pid_range1 (by rfl) T.b_range (pad_cons (pd_var (pv 1)) pad_nil)) (blkOk_by (own := [("depth", 6)]) (N := N_Form_inverse) (sc := defScope s_Form_inverse) (by decide +kernel)) (fun s0 H0 C0 cl0 fp0 => (pgv_name (pg_name (i := 6) (c.blk s0 H0 _ _ fp0).nd rfl (Or.inl rfl)) (by decide))) (fun s0 H0 C0 cl0 fp0 => ptsd_nil) (fun s0 H0 C0 cl0 fp0 => (pd_ixD (c.blk s0 H0 _ _ fp0) (pd_var (pv 3)) (pd_tup (pad_cons pd_str (pad_cons (pd_var (pv 6)) pad_nil))) (fun _ _ => rfl)))) pad_nil))))))
    (pssd_cons (psd_set (i := 10) c.nd rfl (Or.inl rfl) (pd_call c (ok_trimmed T) (by decide) (by rfl) (pad_cons (pd_fld (cs := ["Form"]) ⟨T.fl_Form_faced, trivial⟩ (pd_var (pv 0))) (pad_cons (pd_var (pv 8)) (pad_cons pd_str (pad_cons (pd_lc (own := [("depth", 6)]) c.calm c.nd (pid_range1 (by rfl) T.b_range (pad_cons (pd_var (pv 2)) pad_nil)) (blkOk_by (own := [("depth", 6)]) (N := N_Form_inverse) (sc := defScope s_Form_inverse) (by decide +kernel)) (fun s0 H0 C0 cl0 fp0 => (pgv_name (pg_name (i := 6) (c.blk s0 H0 _ _ fp0).nd rfl (Or.inl rfl)) (by decide))) (fun s0 H0 C0 cl0 fp0 => ptsd_nil) (fun s0 H0 C0 cl0 fp0 => (pd_ixD (c.blk s0 H0 _ _ fp0) (pd_var (pv 3)) (pd_tup (pad_cons pd_str (pad_cons (pd_var (pv 6)) pad_nil))) (fun _ _ => rfl)))) pad_nil))))))
    (pssd_one (psd_ret (pd_call c (ok_Form T) (by decide) (by rfl) (pad_cons (pd_fld (cs := ["Form"]) ⟨T.fl_Form_faced, trivial⟩ (pd_var (pv 0))) (pad_cons (pd_var (pv 8)) (pad_cons (pd_var (pv 9)) (pad_cons (pd_var (pv 10)) pad_nil)))))))))))))
theorem is_Form_inverse (T : Txt P K mg w) : DefIs P w K mg base "inverse" "Form.inverse" s_Form_inverse 5 (m_Form_inverse w) := fun _ _ F => fnr_ok false F sc_Form_inverse rfl rfl (fun _ _ _ _ _ _ us hl => match us, hl with | [_], _ => rfl) (bd_Form_inverse T)
theorem bd_Form_least (T : Txt P K mg w) (f : Addr) (cdv : Value) (A : Around) (outer : List PySem.Env) (s : Shared) (H : Hp) (E : XK) (c : Cc (cxOf (L2.CX P w) P w K mg base N_Form_least "Form.least" (defScope s_Form_least) f cdv A outer s H E) (fun c d _ H' => E c d H') 0) :
    PSs (cxOf (L2.CX P w) P w K mg base N_Form_least "Form.least" (defScope s_Form_least) f cdv A outer s H E) (defBody s_Form_least) (tDS K mg (fun c d _ H' => E c d H') b_Form_least) :=
    (pssd_one (psd_ret (pd_op op_addU s_add (pd_callB call_len s_len (by rfl) T.b_len (by decide +kernel) (pad_cons (pd_fld (cs := ["Form"]) ⟨T.fl_Form_first, trivial⟩ (pd_var (pv 0))) pad_nil)) (pd_callB call_len s_len (by rfl) T.b_len (by decide +kernel) (pad_cons (pd_fld (cs := ["Form"]) ⟨T.fl_Form_last, trivial⟩ (pd_var (pv 0))) pad_nil)))))
theorem is_Form_least (T : Txt P K mg w) : DefIs P w K mg base "least" "Form.least" s_Form_least 1 m_Form_least := fun _ _ F => fnr_ok false F sc_Form_least rfl rfl (fun _ _ _ _ _ _ us hl => match us, hl with | [_], _ => rfl) (bd_Form_least T)
theorem bd_Form_entry (T : Txt P K mg w) (f : Addr) (cdv : Value) (A : Around) (outer : List PySem.Env) (s : Shared) (H : Hp) (E : XK) (c : Cc (cxOf (L2.CX P w) P w K mg base N_Form_entry "Form.entry" (defScope s_Form_entry) f cdv A outer s H E) (fun c d _ H' => E c d H') 1) :
    PSs (cxOf (L2.CX P w) P w K mg base N_Form_entry "Form.entry" (defScope s_Form_entry) f cdv A outer s H E) (defBody s_Form_entry) (tDS K mg (fun c d _ H' => E c d H') b_Form_entry) :=
    (pssd_cons (psd_set (i := 3) c.nd rfl (Or.inl rfl) (pd_if (ptd_cmp (op_eqU c.room) s_eq (pd_var (pv 1)) pd_str (nomark _)) (pd_fld (cs := ["Form"]) ⟨T.fl_Form_first, trivial⟩ (pd_var (pv 0))) (pd_fld (cs := ["Form"]) ⟨T.fl_Form_last, trivial⟩ (pd_var (pv 0)))))
    (pssd_one (psd_ret (pd_if (ptd_cmp op_lt s_lt (pd_var (pv 2)) (pd_callB call_len s_len (by rfl) T.b_len (by decide +kernel) (pad_cons (pd_var (pv 3)) pad_nil)) (nomark _)) (pd_ix (pd_var (pv 3)) (pd_var (pv 2)) (fun _ _ => rfl)) (pd_call c (ok_ruled T) (by decide) (by rfl) (pad_cons (pd_fld (cs := ["Form"]) ⟨T.fl_Form_faced, trivial⟩ (pd_var (pv 0))) (pad_cons (pd_fld (cs := ["Form"]) ⟨T.fl_Form_moved_by, trivial⟩ (pd_var (pv 0))) (pad_cons (pd_var (pv 1)) (pad_cons (pd_var (pv 2)) pad_nil)))))))))
theorem is_Form_entry (T : Txt P K mg w) : DefIs P w K mg base "entry" "Form.entry" s_Form_entry 2 m_Form_entry := fun _ _ F => fnr_ok false F sc_Form_entry rfl rfl (fun _ _ _ _ _ _ us hl => match us, hl with | [_, _, _], _ => rfl) (bd_Form_entry T)
theorem bd_Form_followed (T : Txt P K mg w) (f : Addr) (cdv : Value) (A : Around) (outer : List PySem.Env) (s : Shared) (H : Hp) (E : XK) (c : Cc (cxOf (L2.CX P w) P w K mg base N_Form_followed "Form.followed" (defScope s_Form_followed) f cdv A outer s H E) (fun c d _ H' => E c d H') 2) :
    PSs (cxOf (L2.CX P w) P w K mg base N_Form_followed "Form.followed" (defScope s_Form_followed) f cdv A outer s H E) (defBody s_Form_followed) (tDS K mg (fun c d _ H' => E c d H') b_Form_followed) :=
    (pssd_cons (psd_set (i := 4) c.nd rfl (Or.inl rfl) (pd_meth (j := 2) c ⟨(T.me_Form_entry.ok (is_Form_entry T)).mono (by decide), trivial⟩ (by decide) (pd_var (pv 0)) (pad_cons (pd_var (pv 2)) (pad_cons (pd_var (pv 3)) pad_nil))))
    (pssd_cons (psd_set (i := 5) c.nd rfl (Or.inl rfl) (pd_meth (j := 2) c ⟨(T.me_Form_entry.ok (is_Form_entry T)).mono (by decide), trivial⟩ (by decide) (pd_var (pv 1)) (pad_cons (pd_ix (pd_var (pv 4)) pd_int (fun _ _ => rfl)) (pad_cons (pd_ix (pd_var (pv 4)) pd_int (fun _ _ => rfl)) pad_nil))))
    (pssd_one (psd_ret (pd_tup (pad_cons (pd_ix (pd_var (pv 5)) pd_int (fun _ _ => rfl)) (pad_cons (pd_ix (pd_var (pv 5)) pd_int (fun _ _ => rfl)) (pad_cons (pd_cmp (op_neU c.room) s_ne (pd_ix (pd_var (pv 4)) pd_int (fun _ _ => rfl)) (pd_ix (pd_var (pv 5)) pd_int (fun _ _ => rfl)) (nomark _)) pad_nil))))))))
theorem is_Form_followed (T : Txt P K mg w) : DefIs P w K mg base "followed" "Form.followed" s_Form_followed 3 m_Form_followed := fun _ _ F => fnr_ok false F sc_Form_followed rfl rfl (fun _ _ _ _ _ _ us hl => match us, hl with | [_, _, _, _], _ => rfl) (bd_Form_followed T)
theorem bd_Form_reached (T : Txt P K mg w) (f : Addr) (cdv : Value) (A : Around) (outer : List PySem.Env) (s : Shared) (H : Hp) (E : XK) (c : Cc (cxOf (L2.CX P w) P w K mg base N_Form_reached "Form.reached" (defScope s_Form_reached) f cdv A outer s H E) (fun c d _ H' => E c d H') 0) :
    PSs (cxOf (L2.CX P w) P w K mg base N_Form_reached "Form.reached" (defScope s_Form_reached) f cdv A outer s H E) (defBody s_Form_reached) (tDS K mg (fun c d _ H' => E c d H') b_Form_reached) :=
    (pssd_cons (psd_par (i := 2) (j := 3) (fun _ ha => ps_par c.calm c.nd rfl rfl (by decide) rfl rfl ha (by rfl)) (pad_cons (pd_op op_sub s_sub (pd_callB call_len s_len (by rfl) T.b_len (by decide +kernel) (pad_cons (pd_fld (cs := ["Form"]) ⟨T.fl_Form_first, trivial⟩ (pd_var (pv 1))) pad_nil)) (pd_fld (cs := ["Form"]) ⟨T.fl_Form_moved_by, trivial⟩ (pd_var (pv 0)))) (pad_cons (pd_op op_addU s_add (pd_callB call_len s_len (by rfl) T.b_len (by decide +kernel) (pad_cons (pd_fld (cs := ["Form"]) ⟨T.fl_Form_last, trivial⟩ (pd_var (pv 1))) pad_nil)) (pd_fld (cs := ["Form"]) ⟨T.fl_Form_moved_by, trivial⟩ (pd_var (pv 0)))) pad_nil)))
    (pssd_cons (psd_if (ptd_truth (pd_fld (cs := ["Form"]) ⟨T.fl_Form_faced, trivial⟩ (pd_var (pv 0))))
    (pssd_one (psd_par (i := 2) (j := 3) (fun _ ha => ps_par c.calm c.nd rfl rfl (by decide) rfl rfl ha (by rfl)) (pad_cons (pd_var (pv 3)) (pad_cons (pd_var (pv 2)) pad_nil))))
    pssd_nil)
    (pssd_one (psd_ret (pd_tup (pad_cons (pd_callB (CallR.or (call_max2 c.calm) (cr_max c.calm)) s_max (by rfl) T.b_max (by decide +kernel) (pad_cons (pd_callB call_len s_len (by rfl) T.b_len (by decide +kernel) (pad_cons (pd_fld (cs := ["Form"]) ⟨T.fl_Form_first, trivial⟩ (pd_var (pv 0))) pad_nil)) (pad_cons (pd_var (pv 2)) pad_nil))) (pad_cons (pd_callB (CallR.or (call_max2 c.calm) (cr_max c.calm)) s_max (by rfl) T.b_max (by decide +kernel) (pad_cons (pd_callB call_len s_len (by rfl) T.b_len (by decide +kernel) (pad_cons (pd_fld (cs := ["Form"]) ⟨T.fl_Form_last, trivial⟩ (pd_var (pv 0))) pad_nil)) (pad_cons (pd_var (pv 3)) pad_nil))) pad_nil)))))))
theorem is_Form_reached (T : Txt P K mg w) : DefIs P w K mg base "reached" "Form.reached" s_Form_reached 1 m_Form_reached := fun _ _ F => fnr_ok false F sc_Form_reached rfl rfl (fun _ _ _ _ _ _ us hl => match us, hl with | [_, _], _ => rfl) (bd_Form_reached T)
theorem bd_Form___mul__ (T : Txt P K mg w) (f : Addr) (cdv : Value) (A : Around) (outer : List PySem.Env) (s : Shared) (H : Hp) (E : XK) (c : Cc (cxOf (L2.CX P w) P w K mg base N_Form___mul__ "Form.__mul__" (defScope s_Form___mul__) f cdv A outer s H E) (fun c d _ H' => E c d H') 4) :
    PSs (cxOf (L2.CX P w) P w K mg base N_Form___mul__ "Form.__mul__" (defScope s_Form___mul__) f cdv A outer s H E) (defBody s_Form___mul__) (tDS K mg (fun c d _ H' => E c d H') b_Form___mul__) :=
    (pssd_cons (psd_asg (pd_meth (j := 1) c ⟨(T.me_Form_reached.ok (is_Form_reached T)).mono (by decide), trivial⟩ (by decide) (pd_var (pv 0)) (pad_cons (pd_var (pv 1)) pad_nil)) (pgd_un c.calm (pgsd_cons (pgd_name (pg_name (i := 2) c.nd rfl (Or.inl rfl))) (pgsd_cons (pgd_name (pg_name (i := 3) c.nd rfl (Or.inl rfl))) pgsd_nil))))
    (pssd_cons (psd_set (i := 4) c.nd rfl (Or.inl rfl) (pd_cmp (op_neU c.room) s_ne (pd_fld (cs := ["Form"]) ⟨T.fl_Form_faced, trivial⟩ (pd_var (pv 0))) (pd_fld (cs := ["Form"]) ⟨T.fl_Form_faced, trivial⟩ (pd_var (pv 1))) (nomark _)))
    (pssd_cons (psd_set (i := 5) c.nd rfl (Or.inl rfl) (pd_op op_addU s_add (pd_fld (cs := ["Form"]) ⟨T.fl_Form_moved_by, trivial⟩ (pd_var (pv 1))) (pd_if (ptd_truth (pd_fld (cs := ["Form"]) ⟨T.fl_Form_faced, trivial⟩ (pd_var (pv 1)))) (pd_un un_neg s_neg (pd_fld (cs := ["Form"]) ⟨T.fl_Form_moved_by, trivial⟩ (pd_var (pv 0)))) (pd_fld (cs := ["Form"]) ⟨T.fl_Form_moved_by, trivial⟩ (pd_var (pv 0))))))
    (pssd_cons (psd_set (i := 6) c.nd rfl (Or.inl rfl) (pd_call c (ok_trimmed T) (by decide) (by rfl) (pad_cons (pd_var (pv 4)) (pad_cons (pd_var (pv 5)) (pad_cons pd_str (pad_cons (pd_lc (own := [("depth", 8)]) c.calm c.nd (pid_range1 (by rfl) T.b_range (pad_cons (pd_var (pv 2)) pad_nil)) (blkOk_by (own := [("depth", 8)]) (N := N_Form___mul__) (sc := defScope s_Form___mul__) (by decide +kernel)) (fun s0 H0 C0 cl0 fp0 => (pgv_name (pg_name (i := 8) (c.blk s0 H0 _ _ fp0).nd rfl (Or.inl rfl)) (by decide))) (fun s0 H0 C0 cl0 fp0 => ptsd_nil) (fun s0 H0 C0 cl0 fp0 => (pd_meth (j := 3) (c.blk s0 H0 _ _ fp0) ⟨(T.me_Form_followed.ok (is_Form_followed T)).mono (by decide), trivial⟩ (by decide) (pd_var (pv 0)) (pad_cons (pd_var (pv 1)) (pad_cons pd_str (pad_cons (pd_var (pv 8)) pad_nil)))))) pad_nil))))))
    (pssd_cons (psd_set (i := 7) c.nd rfl (Or.inl rfl) (pd_call c (ok_trimmed T) (by decide) (by rfl) (pad_cons (pd_var (pv 4)) (pad_cons (pd_var (pv 5)) (pad_cons pd_str (pad_cons (pd_lc (own := [("depth", 8)]) c.calm c.nd (pid_range1 (by rfl) T.b_range (pad_cons (pd_var (pv 3)) pad_nil)) (blkOk_by (own := [("depth", 8)]) (N := N_Form___mul__) (sc := defScope s_Form___mul__) (by decide +kernel)) (fun s0 H0 C0 cl0 fp0 => (pgv_name (pg_name (i := 8) (c.blk s0 H0 _ _ fp0).nd rfl (Or.inl rfl)) (by decide))) (fun s0 H0 C0 cl0 fp0 => ptsd_nil) (fun s0 H0 C0 cl0 fp0 => (pd_meth (j := 3) (c.blk s0 H0 _ _ fp0) ⟨(T.me_Form_followed.ok (is_Form_followed T)).mono (by decide), trivial⟩ (by decide) (pd_var (pv 0)) (pad_cons (pd_var (pv 1)) (pad_cons pd_str (pad_cons (pd_var (pv 8)) pad_nil)))))) pad_nil))))))
    (pssd_one (psd_ret (pd_call c (ok_Form T) (by decide) (by rfl) (pad_cons (pd_var (pv 4)) (pad_cons (pd_var (pv 5)) (pad_cons (pd_var (pv 6)) (pad_cons (pd_var (pv 7)) pad_nil))))))))))))
theorem is_Form___mul__ (T : Txt P K mg w) : DefIs P w K mg base "__mul__" "Form.__mul__" s_Form___mul__ 5 m_Form___mul__ := fun _ _ F => fnr_ok false F sc_Form___mul__ rfl rfl (fun _ _ _ _ _ _ us hl => match us, hl with | [_, _], _ => rfl) (bd_Form___mul__ T)
theorem bd_Form_still (T : Txt P K mg w) (f : Addr) (cdv : Value) (A : Around) (outer : List PySem.Env) (s : Shared) (H : Hp) (E : XK) (c : Cc (cxOf (L2.CX P w) P w K mg base N_Form_still "Form.still" (defScope s_Form_still) f cdv A outer s H E) (fun c d _ H' => E c d H') 4) :
    PSs (cxOf (L2.CX P w) P w K mg base N_Form_still "Form.still" (defScope s_Form_still) f cdv A outer s H E) (defBody s_Form_still) (tDS K mg (fun c d _ H' => E c d H') b_Form_still) :=
    (pssd_one (psd_ret (pd_call c (ok_Form T) (by decide) (by rfl) (pad_cons pd_bl (pad_cons pd_int (pad_cons (pd_lst pad_nil) (pad_cons (pd_lst pad_nil) pad_nil)))))))
theorem is_Form_still (T : Txt P K mg w) : DefIs P w K mg base "still" "Form.still" s_Form_still 5 m_Form_still := fun _ _ F => fnr_ok false F sc_Form_still rfl rfl (fun _ _ _ _ _ _ us hl => match us, hl with | [], _ => rfl) (bd_Form_still T)
theorem bd_is_item (T : Txt P K mg w) (f : Addr) (cdv : Value) (A : Around) (outer : List PySem.Env) (s : Shared) (H : Hp) (E : XK) (c : Cc (cxOf (L2.CX P w) P w K mg base N_is_item "is_item" (defScope s_is_item) f cdv A outer s H E) (fun c d _ H' => E c d H') 0) :
    PSs (cxOf (L2.CX P w) P w K mg base N_is_item "is_item" (defScope s_is_item) f cdv A outer s H E) (defBody s_is_item) (tDS K mg (fun c d _ H' => E c d H') b_is_item) :=
    (pssd_cons (psd_if (ptd_cmp (op_eqU c.room) s_eq (pd_var (pv 0)) pd_str (nomark _))
    (pssd_one (psd_ret (pd_and (pd_callB call_isi s_isi (by rfl) T.b_isinstance (by decide +kernel) (pad_cons (pd_var (pv 1)) (pad_cons (pd_c (pe_bltn (v := .ty "tuple") (by rfl) T.b_tuple (by decide +kernel) rfl) (fun _ => .ty "tuple")) pad_nil))) (pd_and (pd_cmp (op_eqU c.room) s_eq (pd_callB call_len s_len (by rfl) T.b_len (by decide +kernel) (pad_cons (pd_var (pv 1)) pad_nil)) pd_int (nomark _)) (pd_and (pd_inT (room65 c.room) T.t_ENDS (pd_ix (pd_var (pv 1)) pd_int (fun _ _ => rfl)) (pd_gl T.t_ENDS (by rfl)) (by rfl)) (pd_one (pd_chain op_le s_le op_le s_le pd_int (pd_ix (pd_var (pv 1)) pd_int (fun _ _ => rfl)) (pd_gint T.g_MOST_DEPTH (by rfl)))))))))
    pssd_nil)
    (pssd_cons (psd_if (ptd_cmp (op_eqU c.room) s_eq (pd_var (pv 0)) pd_str (nomark _))
    (pssd_one (psd_ret (pd_inT (room65 c.room) T.t_ENDS (pd_var (pv 1)) (pd_gl T.t_ENDS (by rfl)) (by rfl))))
    pssd_nil)
    (pssd_one (psd_ret (pd_and (pd_callB call_isi s_isi (by rfl) T.b_isinstance (by decide +kernel) (pad_cons (pd_var (pv 1)) (pad_cons (pd_c (pe_bltn (v := .ty "int") (by rfl) T.b_int (by decide +kernel) rfl) (fun _ => .ty "int")) pad_nil))) (pd_one (pd_chain op_le s_le op_le s_le (pd_if (ptd_cmp (op_eqU c.room) s_eq (pd_var (pv 0)) pd_str (nomark _)) (pd_un un_neg s_neg (pd_gint T.g_MOST_BLOCK (by rfl))) pd_int) (pd_var (pv 1)) (pd_gint T.g_MOST_BLOCK (by rfl)))))))))
theorem is_is_item (T : Txt P K mg w) : DefIs P w K mg base "is_item" "is_item" s_is_item 1 m_is_item := fun _ _ F => fnr_ok false F sc_is_item rfl rfl (fun _ _ _ _ _ _ us hl => match us, hl with | [_, _], _ => rfl) (bd_is_item T)
theorem ok_is_item (T : Txt P K mg w) : DefOk P w K mg base "is_item" 1 m_is_item := T.d_is_item.ok (is_is_item T)
theorem bd_is_move (T : Txt P K mg w) (f : Addr) (cdv : Value) (A : Around) (outer : List PySem.Env) (s : Shared) (H : Hp) (E : XK) (c : Cc (cxOf (L2.CX P w) P w K mg base N_is_move "is_move" (defScope s_is_move) f cdv A outer s H E) (fun c d _ H' => E c d H') 1) :
    PSs (cxOf (L2.CX P w) P w K mg base N_is_move "is_move" (defScope s_is_move) f cdv A outer s H E) (defBody s_is_move) (tDS K mg (fun c d _ H' => E c d H') b_is_move) :=
    (pssd_cons (psd_if (PW.pt (pwd_or (ptd_cmp (op_eqU c.room) s_eq (pd_var (pv 0)) (pd_tup pad_nil) (nomark _)) (pwd_or (ptd_ninT (room65 c.room) T.t_SHAPES (pd_ix (pd_var (pv 0)) pd_int (fun _ _ => rfl)) (pd_gl T.t_SHAPES (by rfl)) (by rfl)) (pwd_or1 (ptd_cmp (op_neU c.room) s_ne (pd_callB call_len s_len (by rfl) T.b_len (by decide +kernel) (pad_cons (pd_var (pv 0)) pad_nil)) (pd_op op_addU s_add (pd_callB call_len s_len (by rfl) T.b_len (by decide +kernel) (pad_cons (pd_ixT T.t_SHAPES (pd_gl T.t_SHAPES (by rfl)) (pd_ix (pd_var (pv 0)) pd_int (fun _ _ => rfl)) (fun _ _ => rfl)) pad_nil)) pd_int) (nomark _))))))
    (pssd_one (psd_ret pd_bl))
    pssd_nil)
    (pssd_one (psd_ret (pd_callB (cr_all c.calm) s_all (by rfl) T.b_all (by decide +kernel) (pad_cons (pd_lc (own := [("sign", 1), ("item", 2)]) c.calm c.nd (pid_zipA (by rfl) T.b_zip (pad_cons (pd_ixT T.t_SHAPES (pd_gl T.t_SHAPES (by rfl)) (pd_ix (pd_var (pv 0)) pd_int (fun _ _ => rfl)) (fun _ _ => rfl)) (pad_cons (pd_slice (mu := false) (pd_var (pv 0)) (pod_some pd_int) pod_none) pad_nil))) (blkOk_by (own := [("sign", 1), ("item", 2)]) (N := N_is_move) (sc := defScope s_is_move) (by decide +kernel)) (fun s0 H0 C0 cl0 fp0 => (pgv_tup (c.blk s0 H0 _ _ fp0).calm (pgsv_cons (pgv_name (pg_name (i := 1) (c.blk s0 H0 _ _ fp0).nd rfl (Or.inl rfl)) (by decide)) (pgsv_cons (pgv_name (pg_name (i := 2) (c.blk s0 H0 _ _ fp0).nd rfl (Or.inl rfl)) (by decide)) pgsv_nil)))) (fun s0 H0 C0 cl0 fp0 => ptsd_nil) (fun s0 H0 C0 cl0 fp0 => (pd_call (c.blk s0 H0 _ _ fp0) (ok_is_item T) (by decide) (by rfl) (pad_cons (pd_var (pv 1)) (pad_cons (pd_var (pv 2)) pad_nil))))) pad_nil)))))
theorem is_is_move (T : Txt P K mg w) : DefIs P w K mg base "is_move" "is_move" s_is_move 2 m_is_move := fun _ _ F => fnr_ok false F sc_is_move rfl rfl (fun _ _ _ _ _ _ us hl => match us, hl with | [_], _ => rfl) (bd_is_move T)
theorem ok_is_move (T : Txt P K mg w) : DefOk P w K mg base "is_move" 2 m_is_move := T.d_is_move.ok (is_is_move T)
theorem bd_depth_of (T : Txt P K mg w) (f : Addr) (cdv : Value) (A : Around) (outer : List PySem.Env) (s : Shared) (H : Hp) (E : XK) (c : Cc (cxOf (L2.CX P w) P w K mg base N_depth_of "depth_of" (defScope s_depth_of) f cdv A outer s H E) (fun c d _ H' => E c d H') 0) :
    PSs (cxOf (L2.CX P w) P w K mg base N_depth_of "depth_of" (defScope s_depth_of) f cdv A outer s H E) (defBody s_depth_of) (tDS K mg (fun c d _ H' => E c d H') b_depth_of) :=
    (pssd_cons (psd_match (pd_ix (pd_var (pv 0)) pd_int (fun _ _ => rfl)) (MdOk.cons PatOf.two (pssd_one (psd_ret (pd_op op_addU s_add (pd_callB (CallR.or (call_max2 c.calm) (cr_max c.calm)) s_max (by rfl) T.b_max (by decide +kernel) (pad_cons (pd_ix (pd_ix (pd_var (pv 0)) pd_int (fun _ _ => rfl)) pd_int (fun _ _ => rfl)) (pad_cons (pd_ix (pd_ix (pd_var (pv 0)) pd_int (fun _ _ => rfl)) pd_int (fun _ _ => rfl)) pad_nil))) pd_int)))
    (MdOk.cons PatOf.one (pssd_one (psd_ret (pd_op op_addU s_add (pd_ix (pd_ix (pd_var (pv 0)) pd_int (fun _ _ => rfl)) pd_int (fun _ _ => rfl)) pd_int)))
    (MdOk.cons PatOf.one (pssd_one (psd_ret (pd_callB call_abs s_abs (by rfl) T.b_abs (by decide +kernel) (pad_cons (pd_ix (pd_var (pv 0)) pd_int (fun _ _ => rfl)) pad_nil))))
    (MdOk.cons PatOf.one (pssd_one (psd_ret (pd_ix (pd_var (pv 0)) pd_int (fun _ _ => rfl))))
    MdOk.nil)))))
    (pssd_one (psd_ret pd_int)))
theorem is_depth_of (T : Txt P K mg w) : DefIs P w K mg base "depth_of" "depth_of" s_depth_of 1 m_depth_of := fun _ _ F => fnr_ok false F sc_depth_of rfl rfl (fun _ _ _ _ _ _ us hl => match us, hl with | [_], _ => rfl) (bd_depth_of T)
theorem ok_depth_of (T : Txt P K mg w) : DefOk P w K mg base "depth_of" 1 m_depth_of := T.d_depth_of.ok (is_depth_of T)
theorem bd_carried (T : Txt P K mg w) (f : Addr) (cdv : Value) (A : Around) (outer : List PySem.Env) (s : Shared) (H : Hp) (E : XK) (c : Cc (cxOf (L2.CX P w) P w K mg base N_carried "carried" (defScope s_carried) f cdv A outer s H E) (fun c d _ H' => E c d H') 0) :
    PSs (cxOf (L2.CX P w) P w K mg base N_carried "carried" (defScope s_carried) f cdv A outer s H E) (defBody s_carried) (tDS K mg (fun c d _ H' => E c d H') b_carried) :=
    (pssd_cons (psd_if (ptd_cmp (op_eqU c.room) s_eq (pd_var (pv 2)) (pd_var (pv 0)) (nomark _))
    (pssd_one (psd_ret (pd_var (pv 1))))
    pssd_nil)
    (pssd_cons (psd_if (ptd_chain op_lt s_lt op_le s_le (pd_var (pv 0)) (pd_var (pv 2)) (pd_var (pv 1)))
    (pssd_one (psd_ret (pd_op op_sub s_sub (pd_var (pv 2)) pd_int)))
    pssd_nil)
    (pssd_one (psd_ret (pd_if (ptd_chain op_le s_le op_lt s_lt (pd_var (pv 1)) (pd_var (pv 2)) (pd_var (pv 0))) (pd_op op_addU s_add (pd_var (pv 2)) pd_int) (pd_var (pv 2)))))))
theorem is_carried (T : Txt P K mg w) : DefIs P w K mg base "carried" "carried" s_carried 1 m_carried := fun _ _ F => fnr_ok false F sc_carried rfl rfl (fun _ _ _ _ _ _ us hl => match us, hl with | [_, _, _], _ => rfl) (bd_carried T)
theorem ok_carried (T : Txt P K mg w) : DefOk P w K mg base "carried" 1 m_carried := T.d_carried.ok (is_carried T)
theorem bd_placed (T : Txt P K mg w) (f : Addr) (cdv : Value) (A : Around) (outer : List PySem.Env) (s : Shared) (H : Hp) (E : XK) (c : Cc (cxOf (L2.CX P w) P w K mg base N_placed "placed" (defScope s_placed) f cdv A outer s H E) (fun c d _ H' => E c d H') 0) :
    PSs (cxOf (L2.CX P w) P w K mg base N_placed "placed" (defScope s_placed) f cdv A outer s H E) (defBody s_placed) (tDS K mg (fun c d _ H' => E c d H') b_placed) :=
    (pssd_cons (psd_asg (pd_var (pv 0)) (pgd_un c.calm (pgsd_cons (pgd_name (pg_name (i := 2) c.nd rfl (Or.inl rfl))) (pgsd_cons (pgd_name (pg_name (i := 3) c.nd rfl (Or.inl rfl))) pgsd_nil))))
    (pssd_one (psd_ret (pd_if (ptd_cmp (op_eqU c.room) s_eq (pd_var (pv 2)) pd_str (nomark _)) (pd_var (pv 3)) (pd_op op_sub s_sub (pd_op op_sub s_sub (pd_var (pv 1)) pd_int) (pd_var (pv 3)))))))
theorem is_placed (T : Txt P K mg w) : DefIs P w K mg base "placed" "placed" s_placed 1 m_placed := fun _ _ F => fnr_ok false F sc_placed rfl rfl (fun _ _ _ _ _ _ us hl => match us, hl with | [_, _], _ => rfl) (bd_placed T)
theorem ok_placed (T : Txt P K mg w) : DefOk P w K mg base "placed" 1 m_placed := T.d_placed.ok (is_placed T)
theorem bd_moved (T : Txt P K mg w) (f : Addr) (cdv : Value) (A : Around) (outer : List PySem.Env) (s : Shared) (H : Hp) (E : XK) (c : Cc (cxOf (L2.CX P w) P w K mg base N_moved "moved" (defScope s_moved) f cdv A outer s H E) (fun c d _ H' => E c d H') 1) :
    PSs (cxOf (L2.CX P w) P w K mg base N_moved "moved" (defScope s_moved) f cdv A outer s H E) (defBody s_moved) (tDS K mg (fun c d _ H' => E c d H') b_moved) :=
    (pssd_cons (psd_if (ptd_cmp op_gt s_gt (pd_call c (ok_depth_of T) (by decide) (by rfl) (pad_cons (pd_var (pv 0)) pad_nil)) (pd_var (pv 1)) (nomark _))
    (pssd_one (psd_ret (pd_tup (pad_cons (pd_var (pv 2)) (pad_cons pd_bl pad_nil)))))
    pssd_nil)
    (pssd_cons (psd_match (pd_ix (pd_var (pv 0)) pd_int (fun _ _ => rfl)) (MdOk.cons PatOf.one (pssd_cons (psd_set (i := 3) c.nd rfl (Or.inl rfl) (pd_lst (pad_cons (pd_call c (ok_placed T) (by decide) (by rfl) (pad_cons (pd_ix (pd_var (pv 0)) pd_int (fun _ _ => rfl)) (pad_cons (pd_var (pv 1)) pad_nil))) (pad_cons (pd_call c (ok_placed T) (by decide) (by rfl) (pad_cons (pd_ix (pd_var (pv 0)) pd_int (fun _ _ => rfl)) (pad_cons (pd_var (pv 1)) pad_nil))) pad_nil))))
    (pssd_one (psd_ret (pd_if (ptd_cmp (op_inU c.room) s_in (pd_var (pv 2)) (pd_var (pv 3)) (by rfl)) (pd_tup (pad_cons (pd_ix (pd_var (pv 3)) (pd_op op_sub s_sub pd_int (pd_bm PySem.F.plainAttrs_list PySem.F.slot_list_index PySem.F.type_list_index (mt_indexD (room65 c.room)) ty_list s_index (pd_var (pv 3)) (pad_cons (pd_var (pv 2)) pad_nil))) (fun _ _ => rfl)) (pad_cons pd_bl pad_nil))) (pd_tup (pad_cons (pd_var (pv 2)) (pad_cons pd_bl pad_nil)))))))
    (MdOk.cons PatOf.one (pssd_one (psd_ret (pd_tup (pad_cons (pd_call c (ok_carried T) (by decide) (by rfl) (pad_cons (pd_call c (ok_placed T) (by decide) (by rfl) (pad_cons (pd_ix (pd_var (pv 0)) pd_int (fun _ _ => rfl)) (pad_cons (pd_var (pv 1)) pad_nil))) (pad_cons (pd_call c (ok_placed T) (by decide) (by rfl) (pad_cons (pd_ix (pd_var (pv 0)) pd_int (fun _ _ => rfl)) (pad_cons (pd_var (pv 1)) pad_nil))) (pad_cons (pd_var (pv 2)) pad_nil)))) (pad_cons pd_bl pad_nil)))))
    (MdOk.cons PatOf.one (pssd_one (psd_ret (pd_tup (pad_cons (pd_op op_mod s_mod (pd_op op_sub s_sub (pd_var (pv 2)) (pd_ix (pd_var (pv 0)) pd_int (fun _ _ => rfl))) (pd_var (pv 1))) (pad_cons pd_bl pad_nil)))))
    (MdOk.cons PatOf.one (pssd_cons (psd_asg (pd_slice (mu := false) (pd_var (pv 0)) (pod_some pd_int) pod_none) (pgd_un c.calm (pgsd_cons (pgd_name (pg_name (i := 4) c.nd rfl (Or.inl rfl))) (pgsd_cons (pgd_name (pg_name (i := 5) c.nd rfl (Or.inl rfl))) pgsd_nil))))
    (pssd_cons (psd_set (i := 6) c.nd rfl (Or.inl rfl) (pd_if (ptd_cmp (op_eqU c.room) s_eq (pd_var (pv 4)) pd_str (nomark _)) (pd_var (pv 2)) (pd_op op_sub s_sub (pd_op op_sub s_sub (pd_var (pv 1)) pd_int) (pd_var (pv 2)))))
    (pssd_one (psd_ret (pd_if (ptd_cmp op_lt s_lt (pd_var (pv 6)) (pd_var (pv 5)) (nomark _)) (pd_tup (pad_cons (pd_call c (ok_placed T) (by decide) (by rfl) (pad_cons (pd_tup (pad_cons (pd_var (pv 4)) (pad_cons (pd_op op_sub s_sub (pd_op op_sub s_sub (pd_var (pv 5)) pd_int) (pd_var (pv 6))) pad_nil))) (pad_cons (pd_var (pv 1)) pad_nil))) (pad_cons pd_bl pad_nil))) (pd_tup (pad_cons (pd_var (pv 2)) (pad_cons pd_bl pad_nil))))))))
    (MdOk.cons PatOf.one (pssd_one (psd_ret (pd_tup (pad_cons (pd_var (pv 2)) (pad_cons (pd_cmp (op_eqU c.room) s_eq (pd_var (pv 2)) (pd_call c (ok_placed T) (by decide) (by rfl) (pad_cons (pd_ix (pd_var (pv 0)) pd_int (fun _ _ => rfl)) (pad_cons (pd_var (pv 1)) pad_nil))) (nomark _)) pad_nil)))))
    MdOk.nil))))))
    (pssd_one (psd_ret (pd_tup (pad_cons (pd_op op_sub s_sub (pd_op op_sub s_sub (pd_var (pv 1)) pd_int) (pd_var (pv 2))) (pad_cons pd_bl pad_nil)))))))
theorem is_moved (T : Txt P K mg w) : DefIs P w K mg base "moved" "moved" s_moved 2 m_moved := fun _ _ F => fnr_ok false F sc_moved rfl rfl (fun _ _ _ _ _ _ us hl => match us, hl with | [_, _, _], _ => rfl) (bd_moved T)
theorem ok_moved (T : Txt P K mg w) : DefOk P w K mg base "moved" 2 m_moved := T.d_moved.ok (is_moved T)
theorem bd_end_entry (T : Txt P K mg w) (f : Addr) (cdv : Value) (A : Around) (outer : List PySem.Env) (s : Shared) (H : Hp) (E : XK) (c : Cc (cxOf (L2.CX P w) P w K mg base N_end_entry "end_entry" (defScope s_end_entry) f cdv A outer s H E) (fun c d _ H' => E c d H') 2) :
    PSs (cxOf (L2.CX P w) P w K mg base N_end_entry "end_entry" (defScope s_end_entry) f cdv A outer s H E) (defBody s_end_entry) (tDS K mg (fun c d _ H' => E c d H') b_end_entry) :=
    (pssd_cons (psd_asg (pd_call c (ok_moved T) (by decide) (by rfl) (pad_cons (pd_var (pv 0)) (pad_cons (pd_var (pv 1)) (pad_cons (pd_var (pv 2)) pad_nil)))) (pgd_un c.calm (pgsd_cons (pgd_name (pg_name (i := 3) c.nd rfl (Or.inl rfl))) (pgsd_cons (pgd_name (pg_name (i := 4) c.nd rfl (Or.inl rfl))) pgsd_nil))))
    (pssd_cons (psd_if (ptd_cmp op_lt s_lt (pd_var (pv 3)) (pd_op op_fdivW s_div (pd_var (pv 1)) pd_int) (nomark _))
    (pssd_one (psd_ret (pd_tup (pad_cons pd_str (pad_cons (pd_var (pv 3)) (pad_cons (pd_var (pv 4)) pad_nil))))))
    pssd_nil)
    (pssd_one (psd_ret (pd_tup (pad_cons pd_str (pad_cons (pd_op op_sub s_sub (pd_op op_sub s_sub (pd_var (pv 1)) pd_int) (pd_var (pv 3))) (pad_cons (pd_var (pv 4)) pad_nil))))))))
theorem is_end_entry (T : Txt P K mg w) : DefIs P w K mg base "end_entry" "end_entry" s_end_entry 3 m_end_entry := fun _ _ F => fnr_ok false F sc_end_entry rfl rfl (fun _ _ _ _ _ _ us hl => match us, hl with | [_, _, _], _ => rfl) (bd_end_entry T)
theorem ok_end_entry (T : Txt P K mg w) : DefOk P w K mg base "end_entry" 3 m_end_entry := T.d_end_entry.ok (is_end_entry T)
theorem bd_move_parts (T : Txt P K mg w) (f : Addr) (cdv : Value) (A : Around) (outer : List PySem.Env) (s : Shared) (H : Hp) (E : XK) (c : Cc (cxOf (L2.CX P w) P w K mg base N_move_parts "move_parts" (defScope s_move_parts) f cdv A outer s H E) (fun c d _ H' => E c d H') 3) :
    PSs (cxOf (L2.CX P w) P w K mg base N_move_parts "move_parts" (defScope s_move_parts) f cdv A outer s H E) (defBody s_move_parts) (tDS K mg (fun c d _ H' => E c d H') b_move_parts) :=
    (pssd_cons (psd_set (i := 1) c.nd rfl (Or.inl rfl) (pd_call c (ok_depth_of T) (by decide) (by rfl) (pad_cons (pd_var (pv 0)) pad_nil)))
    (pssd_cons (psd_set (i := 2) c.nd rfl (Or.inr rfl) (pd_op op_addU s_add (pd_op op_mulU s_mul pd_int (pd_var (pv 1))) pd_int))
    (pssd_cons (psd_asg (pd_call c (ok_moved T) (by decide) (by rfl) (pad_cons (pd_var (pv 0)) (pad_cons (pd_var (pv 2)) (pad_cons (pd_op op_addU s_add (pd_op op_mulU s_mul pd_int (pd_var (pv 1))) pd_int) pad_nil)))) (pgd_un c.calm (pgsd_cons (pgd_name (pg_name (i := 3) c.nd rfl (Or.inl rfl))) (pgsd_cons (pgd_name (pg_name (i := 4) c.nd rfl (Or.inl rfl))) pgsd_nil))))
    (pssd_cons (psd_set (i := 5) c.nd rfl (Or.inl rfl) (pd_op op_sub s_sub (pd_var (pv 3)) (pd_op op_addU s_add (pd_op op_mulU s_mul pd_int (pd_var (pv 1))) pd_int)))
    (pssd_cons (psd_setLc (mu := false) (i := 6) (own := [("depth", 8)]) c.calm c.nd rfl rfl (sw_true rfl rfl rfl (by decide +kernel)) (pid_range1 (by rfl) T.b_range (pad_cons (pd_var (pv 1)) pad_nil)) (blkOk_by (own := [("depth", 8)]) (N := N_move_parts) (sc := defScope s_move_parts) (by decide +kernel)) (fun s0 H0 C0 cl0 fp0 => (pgv_name (pg_name (i := 8) (c.blk s0 H0 _ _ fp0).nd rfl (Or.inl rfl)) (by decide))) (fun s0 H0 C0 cl0 fp0 => ptsd_nil) (fun s0 H0 C0 cl0 fp0 => (pd_call (c.blk s0 H0 _ _ fp0) (ok_end_entry T) (by decide) (by rfl) (pad_cons (pd_var (pv 0)) (pad_cons (pd_var (pv 2)) (pad_cons (pd_var (pv 8)) pad_nil))))))
    (pssd_cons (psd_setLc (mu := false) (i := 7) (own := [("depth", 8)]) c.calm c.nd rfl rfl (sw_true rfl rfl rfl (by decide +kernel)) (pid_range1 (by rfl) T.b_range (pad_cons (pd_var (pv 1)) pad_nil)) (blkOk_by (own := [("depth", 8)]) (N := N_move_parts) (sc := defScope s_move_parts) (by decide +kernel)) (fun s0 H0 C0 cl0 fp0 => (pgv_name (pg_name (i := 8) (c.blk s0 H0 _ _ fp0).nd rfl (Or.inl rfl)) (by decide))) (fun s0 H0 C0 cl0 fp0 => ptsd_nil) (fun s0 H0 C0 cl0 fp0 => (pd_call (c.blk s0 H0 _ _ fp0) (ok_end_entry T) (by decide) (by rfl) (pad_cons (pd_var (pv 0)) (pad_cons (pd_var (pv 2)) (pad_cons (pd_op op_sub s_sub (pd_op op_sub s_sub (pd_var (pv 2)) pd_int) (pd_var (pv 8))) pad_nil))))))
    (pssd_one (psd_ret (pd_tup (pad_cons (pd_var (pv 4)) (pad_cons (pd_var (pv 5)) (pad_cons (pd_var (pv 6)) (pad_cons (pd_var (pv 7)) pad_nil)))))))))))))
theorem is_move_parts (T : Txt P K mg w) : DefIs P w K mg base "move_parts" "move_parts" s_move_parts 4 m_move_parts := fun _ _ F => fnr_ok false F sc_move_parts rfl rfl (fun _ _ _ _ _ _ us hl => match us, hl with | [_], _ => rfl) (bd_move_parts T)
theorem ok_move_parts (T : Txt P K mg w) : DefOk P w K mg base "move_parts" 4 m_move_parts := T.d_move_parts.ok (is_move_parts T)
theorem bd_Form_of (T : Txt P K mg w) (f : Addr) (cdv : Value) (A : Around) (outer : List PySem.Env) (s : Shared) (H : Hp) (E : XK) (c : Cc (cxOf (L2.CX P w) P w K mg base N_Form_of "Form.of" (defScope s_Form_of) f cdv A outer s H E) (fun c d _ H' => E c d H') 5) :
    PSs (cxOf (L2.CX P w) P w K mg base N_Form_of "Form.of" (defScope s_Form_of) f cdv A outer s H E) (defBody s_Form_of) (tDS K mg (fun c d _ H' => E c d H') b_Form_of) :=
    (pssd_cons (psd_for c.hp c.calm (pid_enumA (by rfl) T.b_enumerate (pad_cons (pd_var (pv 1)) pad_nil)) (pgd_un c.calm (pgsd_cons (pgd_name (pg_name (i := 2) c.nd rfl (Or.inl rfl))) (pgsd_cons (pgd_name (pg_name (i := 3) c.nd rfl (Or.inl rfl))) pgsd_nil)))
    (pssd_one (psd_if (ptd_not (ptd_truth (pd_call c (ok_is_move T) (by decide) (by rfl) (pad_cons (pd_var (pv 3)) pad_nil))))
    (pssd_one (psd_raise c (T.er_BadMove _) (by decide) (by rfl) (pd_var (pv 2))))
    pssd_nil)))
    (pssd_cons (psd_set (i := 4) c.nd rfl (Or.inl rfl) (pd_smeth0 (j := 5) c ⟨(T.sm_Form_still.ok (is_Form_still T)).mono (by decide), trivial⟩ (by decide) (pd_var (pv 0))))
    (pssd_cons (psd_for c.hp c.calm (pid_seq (pd_var (pv 1))) (pgd_name (pg_name (i := 3) c.nd rfl (Or.inl rfl)))
    (pssd_cons (psd_asg (pd_call c (ok_move_parts T) (by decide) (by rfl) (pad_cons (pd_var (pv 3)) pad_nil)) (pgd_un c.calm (pgsd_cons (pgd_name (pg_name (i := 5) c.nd rfl (Or.inl rfl))) (pgsd_cons (pgd_name (pg_name (i := 6) c.nd rfl (Or.inl rfl))) (pgsd_cons (pgd_name (pg_name (i := 7) c.nd rfl (Or.inl rfl))) (pgsd_cons (pgd_name (pg_name (i := 8) c.nd rfl (Or.inl rfl))) pgsd_nil))))))
    (pssd_one (psd_set (i := 4) c.nd rfl (Or.inl rfl) (pd_own (j := 5) c ⟨(T.ow_Form___mul__.ok (is_Form___mul__ T)).mono (by decide), trivial⟩ (by decide) (pd_var (pv 4)) (pd_call c (ok_Form T) (by decide) (by rfl) (pad_cons (pd_var (pv 5)) (pad_cons (pd_var (pv 6)) (pad_cons (pd_var (pv 7)) (pad_cons (pd_var (pv 8)) pad_nil))))))))))
    (pssd_one (psd_ret (pd_var (pv 4)))))))
theorem is_Form_of (T : Txt P K mg w) : DefIs P w K mg base "of" "Form.of" s_Form_of 6 m_Form_of := fun _ _ F => fnr_ok false F sc_Form_of rfl rfl (fun _ _ _ _ _ _ us hl => match us, hl with | [_, _], _ => rfl) (bd_Form_of T)
theorem bd__law_bag (T : Txt P K mg w) (f : Addr) (cdv : Value) (A : Around) (outer : List PySem.Env) (s : Shared) (H : Hp) (E : XK) (c : Cc (cxOf (L2.CX P w) P w K mg base N__law_bag "_law_bag" (defScope s__law_bag) f cdv A outer s H E) (fun c d _ H' => E c d H') 0) :
    PSs (cxOf (L2.CX P w) P w K mg base N__law_bag "_law_bag" (defScope s__law_bag) f cdv A outer s H E) (defBody s__law_bag) (tDS K mg (fun c d _ H' => E c d H') b__law_bag) :=
    (pssd_cons (psd_set (i := 1) c.nd rfl (Or.inl rfl) pd_int)
    (pssd_cons (psd_for c.hp c.calm (pid_seq (pd_slice (mu := false) (pd_var (pv 0)) pod_none (pod_some pd_int))) (pgd_name (pg_name (i := 2) c.nd rfl (Or.inl rfl)))
    (pssd_one (psd_set (i := 1) c.nd rfl (Or.inl rfl) (pd_op op_mod s_mod (pd_callTy call_int1 s_int (by rfl) T.b_int (by decide +kernel) (pad_cons (pd_op op_addU s_add (pd_op op_addU s_add (pd_op op_mulU s_mul (pd_var (pv 1)) pd_int) (pd_op op_mod s_mod (pd_callTy call_int1 s_int (by rfl) T.b_int (by decide +kernel) (pad_cons (pd_var (pv 2)) pad_nil)) pd_int)) pd_int) pad_nil)) pd_int))))
    (pssd_one (psd_ret (pd_lstM (pad_cons (pd_callTy call_list_of (s_list false) (by rfl) T.b_list (by decide +kernel) (pad_cons (pd_slice (mu := false) (pd_var (pv 0)) pod_none (pod_some pd_int)) pad_nil)) (pad_cons pd_int (pad_cons pd_int (pad_cons (pd_var (pv 1)) pad_nil)))))))))
theorem is__law_bag (T : Txt P K mg w) : DefIs P w K mg base "_law_bag" "_law_bag" s__law_bag 1 m__law_bag := fun _ _ F => fnr_ok true F sc__law_bag rfl rfl (fun _ _ _ _ _ _ us hl => match us, hl with | [_], _ => rfl) (bd__law_bag T)
theorem ok__law_bag (T : Txt P K mg w) : DefOk P w K mg base "_law_bag" 1 m__law_bag := T.d__law_bag.ok (is__law_bag T)
theorem bd__law_odd_moves (T : Txt P K mg w) (f : Addr) (cdv : Value) (A : Around) (outer : List PySem.Env) (s : Shared) (H : Hp) (E : XK) (c : Cc (cxOf (L2.CX P w) P w K mg base N__law_odd_moves "_law_odd_moves" (defScope s__law_odd_moves) f cdv A outer s H E) (fun c d _ H' => E c d H') 0) :
    PSs (cxOf (L2.CX P w) P w K mg base N__law_odd_moves "_law_odd_moves" (defScope s__law_odd_moves) f cdv A outer s H E) (defBody s__law_odd_moves) (tDS K mg (fun c d _ H' => E c d H') b__law_odd_moves) :=
    (pssd_cons (psd_asg (pd_tup (pad_cons (pd_tup (pad_cons pd_str (pad_cons pd_int pad_nil))) (pad_cons (pd_tup (pad_cons pd_str (pad_cons pd_int pad_nil))) pad_nil))) (pgd_un c.calm (pgsd_cons (pgd_name (pg_name (i := 0) c.nd rfl (Or.inl rfl))) (pgsd_cons (pgd_name (pg_name (i := 1) c.nd rfl (Or.inl rfl))) pgsd_nil))))
    (pssd_cons (psd_set (i := 2) c.nd rfl (Or.inl rfl) (pd_lst (pad_cons (pd_tup pad_nil) (pad_cons (pd_tup (pad_cons pd_str pad_nil)) (pad_cons (pd_tup (pad_cons pd_str (pad_cons (pd_var (pv 0)) pad_nil))) (pad_cons (pd_tup (pad_cons pd_str (pad_cons (pd_var (pv 0)) (pad_cons (pd_tup (pad_cons pd_str (pad_cons pd_int pad_nil))) pad_nil)))) (pad_cons (pd_tup (pad_cons pd_str (pad_cons (pd_var (pv 0)) (pad_cons (pd_var (pv 1)) pad_nil)))) (pad_cons (pd_tup (pad_cons pd_str (pad_cons (pd_tup (pad_cons pd_str (pad_cons (pd_un un_neg s_neg pd_int) pad_nil))) (pad_cons (pd_var (pv 0)) pad_nil)))) pad_nil))))))))
    (pssd_cons (psd_set (i := 2) c.nd rfl (Or.inl rfl) (pd_op op_addU s_add (pd_var (pv 2)) (pd_lst (pad_cons (pd_tup (pad_cons pd_str (pad_cons (pd_var (pv 0)) (pad_cons (pd_var (pv 0)) (pad_cons (pd_var (pv 0)) pad_nil))))) (pad_cons (pd_tup (pad_cons pd_str (pad_cons (pd_var (pv 1)) (pad_cons (pd_var (pv 0)) pad_nil)))) (pad_cons (pd_tup (pad_cons pd_str (pad_cons pd_int pad_nil))) (pad_cons (pd_tup (pad_cons pd_str (pad_cons (pd_un un_neg s_neg pd_int) pad_nil))) (pad_cons (pd_tup (pad_cons pd_str pad_nil)) (pad_cons (pd_tup (pad_cons pd_str (pad_cons pd_int (pad_cons pd_int pad_nil)))) pad_nil)))))))))
    (pssd_cons (psd_set (i := 2) c.nd rfl (Or.inl rfl) (pd_op op_addU s_add (pd_var (pv 2)) (pd_lst (pad_cons (pd_tup (pad_cons pd_str (pad_cons pd_str (pad_cons pd_int pad_nil)))) (pad_cons (pd_tup (pad_cons pd_str (pad_cons pd_str (pad_cons (pd_un un_neg s_neg pd_int) pad_nil)))) (pad_cons (pd_tup (pad_cons pd_str (pad_cons pd_str (pad_cons pd_int pad_nil)))) (pad_cons (pd_tup (pad_cons pd_str (pad_cons pd_str pad_nil))) (pad_cons (pd_tup (pad_cons pd_str (pad_cons pd_int (pad_cons pd_int pad_nil)))) pad_nil))))))))
    (pssd_cons (psd_set (i := 2) c.nd rfl (Or.inl rfl) (pd_op op_addU s_add (pd_var (pv 2)) (pd_lst (pad_cons (pd_tup (pad_cons pd_str (pad_cons pd_int pad_nil))) (pad_cons (pd_tup (pad_cons pd_str (pad_cons pd_str pad_nil))) (pad_cons (pd_tup (pad_cons pd_str pad_nil)) (pad_cons (pd_tup (pad_cons pd_str (pad_cons (pd_var (pv 1)) pad_nil))) (pad_cons (pd_tup (pad_cons pd_str (pad_cons pd_int pad_nil))) (pad_cons (pd_tup (pad_cons pd_str (pad_cons (pd_var (pv 0)) pad_nil))) (pad_cons (pd_tup (pad_cons pd_str (pad_cons (pd_var (pv 0)) pad_nil))) pad_nil))))))))))
    (pssd_cons (psd_set (i := 2) c.nd rfl (Or.inl rfl) (pd_op op_addU s_add (pd_var (pv 2)) (pd_lst (pad_cons (pd_tup (pad_cons pd_str (pad_cons pd_str pad_nil))) (pad_cons (pd_tup (pad_cons pd_str (pad_cons pd_str (pad_cons pd_str pad_nil)))) (pad_cons (pd_tup (pad_cons pd_str (pad_cons (pd_var (pv 0)) pad_nil))) (pad_cons (pd_tup (pad_cons pd_str (pad_cons (pd_var (pv 0)) (pad_cons pd_int pad_nil)))) (pad_cons (pd_tup (pad_cons pd_int (pad_cons pd_int pad_nil))) (pad_cons (pd_tup (pad_cons (pd_var (pv 0)) pad_nil)) (pad_cons (pd_tup (pad_cons (pd_var (pv 0)) (pad_cons (pd_var (pv 0)) pad_nil))) pad_nil))))))))))
    (pssd_one (psd_ret (pd_op op_addU s_add (pd_var (pv 2)) (pd_lst (pad_cons (pd_tup (pad_cons pd_str (pad_cons pd_str (pad_cons pd_str pad_nil)))) (pad_cons (pd_tup (pad_cons pd_str (pad_cons pd_str (pad_cons (pd_var (pv 0)) pad_nil)))) (pad_cons (pd_tup (pad_cons pd_str (pad_cons pd_str pad_nil))) (pad_cons (pd_tup (pad_cons pd_str (pad_cons pd_int (pad_cons pd_int pad_nil)))) (pad_cons (pd_tup (pad_cons pd_str pad_nil)) (pad_cons (pd_tup (pad_cons pd_str pad_nil)) pad_nil))))))))))))))))
theorem is__law_odd_moves (T : Txt P K mg w) : DefIs P w K mg base "_law_odd_moves" "_law_odd_moves" s__law_odd_moves 1 m__law_odd_moves := fun _ _ F => fnr_ok false F sc__law_odd_moves rfl rfl (fun _ _ _ _ _ _ us hl => match us, hl with | [], _ => rfl) (bd__law_odd_moves T)
theorem ok__law_odd_moves (T : Txt P K mg w) : DefOk P w K mg base "_law_odd_moves" 1 m__law_odd_moves := T.d__law_odd_moves.ok (is__law_odd_moves T)
theorem bd__law_pull (T : Txt P K mg w) (f : Addr) (cdv : Value) (A : Around) (outer : List PySem.Env) (s : Shared) (H : Hp) (E : XK) (c : Cc (cxOf (L2.CX P w) P w K mg base N__law_pull "_law_pull" (defScope s__law_pull) f cdv A outer s H E) (fun c d _ H' => E c d H') 0) :
    PSs (cxOf (L2.CX P w) P w K mg base N__law_pull "_law_pull" (defScope s__law_pull) f cdv A outer s H E) (defBody s__law_pull) (tDS K mg (fun c d _ H' => E c d H') b__law_pull) :=
    (pssd_cons (psd_if (PW.pt (pwd_and (ptd_cmp (op_eqU c.room) s_eq (pd_ix (pd_var (pv 0)) pd_int (fun _ _ => rfl)) pd_int (nomark _)) (pwd_and1 (ptd_cmp op_lt s_lt (pd_ix (pd_var (pv 0)) pd_int (fun _ _ => rfl)) (pd_callB call_len s_len (by rfl) T.b_len (by decide +kernel) (pad_cons (pd_ix (pd_var (pv 0)) pd_int (fun _ _ => rfl)) pad_nil)) (nomark _)))))
    (pssd_cons (psd_set (i := 2) c.nd rfl (Or.inl rfl) (pd_ix (pd_ix (pd_var (pv 0)) pd_int (fun _ _ => rfl)) (pd_ix (pd_var (pv 0)) pd_int (fun _ _ => rfl)) (fun _ _ => rfl)))
    (pssd_cons (psd_asg (pd_op op_addU s_add (pd_ix (pd_var (pv 0)) pd_int (fun _ _ => rfl)) pd_int) (pgd_sub (pd_var (pv 0)) pd_int))
    (pssd_one (psd_if (ptd_cmp op_ge s_ge (pd_var (pv 2)) (pd_op op_powW s_pow pd_int pd_int) (nomark _))
    (pssd_one (psd_asg (pd_var (pv 2)) (pgd_sub (pd_var (pv 0)) pd_int)))
    (pssd_one (psd_asg (pd_op op_mod s_mod (pd_callTy call_int1 s_int (by rfl) T.b_int (by decide +kernel) (pad_cons (pd_op op_addU s_add (pd_op op_addU s_add (pd_op op_mulU s_mul (pd_ix (pd_var (pv 0)) pd_int (fun _ _ => rfl)) pd_int) (pd_op op_mulU s_mul (pd_op op_mod s_mod (pd_callTy call_int1 s_int (by rfl) T.b_int (by decide +kernel) (pad_cons (pd_var (pv 2)) pad_nil)) pd_int) pd_int)) pd_int) pad_nil)) pd_int) (pgd_sub (pd_var (pv 0)) pd_int)))))))
    pssd_nil)
    (pssd_cons (psd_if (ptd_cmp op_gt s_gt (pd_ix (pd_var (pv 0)) pd_int (fun _ _ => rfl)) pd_int (nomark _))
    (pssd_cons (psd_set (i := 3) c.nd rfl (Or.inl rfl) (pd_op op_mod s_mod (pd_callTy call_int1 s_int (by rfl) T.b_int (by decide +kernel) (pad_cons (pd_ix (pd_var (pv 0)) pd_int (fun _ _ => rfl)) pad_nil)) (pd_var (pv 1))))
    (pssd_cons (psd_asg (pd_op op_fdivW s_div (pd_ix (pd_var (pv 0)) pd_int (fun _ _ => rfl)) (pd_var (pv 1))) (pgd_sub (pd_var (pv 0)) pd_int))
    (pssd_one (psd_ret (pd_var (pv 3))))))
    pssd_nil)
    (pssd_cons (psd_set (i := 4) c.nd rfl (Or.inl rfl) (pd_ix (pd_var (pv 0)) pd_int (fun _ _ => rfl)))
    (pssd_cons (psd_asg (pd_op op_mod s_mod (pd_callTy call_int1 s_int (by rfl) T.b_int (by decide +kernel) (pad_cons (pd_op op_addU s_add (pd_op op_addU s_add (pd_op op_mulU s_mul (pd_var (pv 4)) (pd_var (pv 4))) (pd_op op_mulU s_mul (pd_var (pv 4)) pd_int)) pd_int) pad_nil)) pd_int) (pgd_sub (pd_var (pv 0)) pd_int))
    (pssd_one (psd_ret (pd_op op_mod s_mod (pd_callTy call_int1 s_int (by rfl) T.b_int (by decide +kernel) (pad_cons (pd_op op_addU s_add (pd_op op_fdivW s_div (pd_ix (pd_var (pv 0)) pd_int (fun _ _ => rfl)) pd_int) (pd_op op_mulU s_mul (pd_op op_mod s_mod (pd_callTy call_int1 s_int (by rfl) T.b_int (by decide +kernel) (pad_cons (pd_ix (pd_var (pv 0)) pd_int (fun _ _ => rfl)) pad_nil)) pd_int) pd_int)) pad_nil)) (pd_var (pv 1)))))))))
theorem is__law_pull (T : Txt P K mg w) : DefIs P w K mg base "_law_pull" "_law_pull" s__law_pull 1 m__law_pull := fun _ _ F => fnr_ok false F sc__law_pull rfl rfl (fun _ _ _ _ _ _ us hl => match us, hl with | [_, _], _ => rfl) (bd__law_pull T)
theorem ok__law_pull (T : Txt P K mg w) : DefOk P w K mg base "_law_pull" 1 m__law_pull := T.d__law_pull.ok (is__law_pull T)
theorem bd__law_of (T : Txt P K mg w) (f : Addr) (cdv : Value) (A : Around) (outer : List PySem.Env) (s : Shared) (H : Hp) (E : XK) (c : Cc (cxOf (L2.CX P w) P w K mg base N__law_of "_law_of" (defScope s__law_of) f cdv A outer s H E) (fun c d _ H' => E c d H') 1) :
    PSs (cxOf (L2.CX P w) P w K mg base N__law_of "_law_of" (defScope s__law_of) f cdv A outer s H E) (defBody s__law_of) (tDS K mg (fun c d _ H' => E c d H') b__law_of) :=
    (pssd_one (psd_ret (pd_ix (pd_var (pv 1)) (pd_call c (ok__law_pull T) (by decide) (by rfl) (pad_cons (pd_var (pv 0)) (pad_cons (pd_callB call_len s_len (by rfl) T.b_len (by decide +kernel) (pad_cons (pd_var (pv 1)) pad_nil)) pad_nil))) (fun _ _ => rfl))))
theorem is__law_of (T : Txt P K mg w) : DefIs P w K mg base "_law_of" "_law_of" s__law_of 2 m__law_of := fun _ _ F => fnr_ok false F sc__law_of rfl rfl (fun _ _ _ _ _ _ us hl => match us, hl with | [_, _], _ => rfl) (bd__law_of T)
theorem ok__law_of (T : Txt P K mg w) : DefOk P w K mg base "_law_of" 2 m__law_of := T.d__law_of.ok (is__law_of T)
theorem bd__law_same (T : Txt P K mg w) (n : Nat) (ih : DefOk P w K mg base "_law_same" (n + 0) (m__law_same n)) (f : Addr) (cdv : Value) (A : Around) (outer : List PySem.Env) (s : Shared) (H : Hp) (E : XK) (c : Cc (cxOf (L2.CX P w) P w K mg base N__law_same "_law_same" (defScope s__law_same) f cdv A outer s H E) (fun c d _ H' => E c d H') (n + 0)) :
    PSs (cxOf (L2.CX P w) P w K mg base N__law_same "_law_same" (defScope s__law_same) f cdv A outer s H E) (defBody s__law_same) (tDS K mg (fun c d _ H' => E c d H') (bR__law_same (m__law_same n))) :=
    (pssd_cons (psd_if (PW.pt (pwd_or (ptd_truth (pd_callB call_isi s_isi (by rfl) T.b_isinstance (by decide +kernel) (pad_cons (pd_var (pv 1)) (pad_cons (pd_c (pe_bltn (v := .ty "list") (by rfl) T.b_list (by decide +kernel) rfl) (fun _ => .ty "list")) pad_nil)))) (pwd_or1 (ptd_truth (pd_callB call_isi s_isi (by rfl) T.b_isinstance (by decide +kernel) (pad_cons (pd_var (pv 1)) (pad_cons (pd_c (pe_bltn (v := .ty "tuple") (by rfl) T.b_tuple (by decide +kernel) rfl) (fun _ => .ty "tuple")) pad_nil)))))))
    (pssd_cons (psd_if (PW.pt (pwd_or (ptd_cmp (op_neU c.room) s_ne (pd_callB call_isi s_isi (by rfl) T.b_isinstance (by decide +kernel) (pad_cons (pd_var (pv 0)) (pad_cons (pd_c (pe_bltn (v := .ty "list") (by rfl) T.b_list (by decide +kernel) rfl) (fun _ => .ty "list")) pad_nil))) (pd_callB call_isi s_isi (by rfl) T.b_isinstance (by decide +kernel) (pad_cons (pd_var (pv 1)) (pad_cons (pd_c (pe_bltn (v := .ty "list") (by rfl) T.b_list (by decide +kernel) rfl) (fun _ => .ty "list")) pad_nil))) (nomark _)) (pwd_or1 (ptd_cmp (op_neU c.room) s_ne (pd_callB call_isi s_isi (by rfl) T.b_isinstance (by decide +kernel) (pad_cons (pd_var (pv 0)) (pad_cons (pd_c (pe_bltn (v := .ty "tuple") (by rfl) T.b_tuple (by decide +kernel) rfl) (fun _ => .ty "tuple")) pad_nil))) (pd_callB call_isi s_isi (by rfl) T.b_isinstance (by decide +kernel) (pad_cons (pd_var (pv 1)) (pad_cons (pd_c (pe_bltn (v := .ty "tuple") (by rfl) T.b_tuple (by decide +kernel) rfl) (fun _ => .ty "tuple")) pad_nil))) (nomark _)))))
    (pssd_one (psd_ret pd_bl))
    pssd_nil)
    (pssd_one (psd_ret (pd_and (pd_cmp (op_eqU c.room) s_eq (pd_callB call_len s_len (by rfl) T.b_len (by decide +kernel) (pad_cons (pd_var (pv 0)) pad_nil)) (pd_callB call_len s_len (by rfl) T.b_len (by decide +kernel) (pad_cons (pd_var (pv 1)) pad_nil)) (nomark _)) (pd_one (pd_callB (cr_all c.calm) s_all (by rfl) T.b_all (by decide +kernel) (pad_cons (pd_lc (own := [("_law_one", 2), ("_law_other", 3)]) c.calm c.nd (pid_zip (by rfl) T.b_zip (pad_cons (pd_var (pv 0)) (pad_cons (pd_var (pv 1)) pad_nil))) (blkOk_by (own := [("_law_one", 2), ("_law_other", 3)]) (N := N__law_same) (sc := defScope s__law_same) (by decide +kernel)) (fun s0 H0 C0 cl0 fp0 => (pgv_tup (c.blk s0 H0 _ _ fp0).calm (pgsv_cons (pgv_name (pg_name (i := 2) (c.blk s0 H0 _ _ fp0).nd rfl (Or.inl rfl)) (by decide)) (pgsv_cons (pgv_name (pg_name (i := 3) (c.blk s0 H0 _ _ fp0).nd rfl (Or.inl rfl)) (by decide)) pgsv_nil)))) (fun s0 H0 C0 cl0 fp0 => ptsd_nil) (fun s0 H0 C0 cl0 fp0 => (pd_call (c.blk s0 H0 _ _ fp0) ih (by omega) (by rfl) (pad_cons (pd_var (pv 2)) (pad_cons (pd_var (pv 3)) pad_nil))))) pad_nil)))))))
    pssd_nil)
    (pssd_cons (psd_if (ptd_truth (pd_callB call_isi s_isi (by rfl) T.b_isinstance (by decide +kernel) (pad_cons (pd_var (pv 1)) (pad_cons (pd_c (pe_bltn (v := .ty "dict") (by rfl) T.b_dict (by decide +kernel) rfl) (fun _ => .ty "dict")) pad_nil))))
    (pssd_one (psd_ret (pd_and (pd_callB call_isi s_isi (by rfl) T.b_isinstance (by decide +kernel) (pad_cons (pd_var (pv 0)) (pad_cons (pd_c (pe_bltn (v := .ty "dict") (by rfl) T.b_dict (by decide +kernel) rfl) (fun _ => .ty "dict")) pad_nil))) (pd_and (pd_call c ih (by omega) (by rfl) (pad_cons (pd_callB (cr_sortD c) s_sorted (by rfl) T.b_sorted (by decide +kernel) (pad_cons (pd_callTy call_list_of (s_list false) (by rfl) T.b_list (by decide +kernel) (pad_cons (pd_var (pv 0)) pad_nil)) pad_nil)) (pad_cons (pd_callB (cr_sortD c) s_sorted (by rfl) T.b_sorted (by decide +kernel) (pad_cons (pd_callTy call_list_of (s_list false) (by rfl) T.b_list (by decide +kernel) (pad_cons (pd_var (pv 1)) pad_nil)) pad_nil)) pad_nil))) (pd_one (pd_callB (cr_all c.calm) s_all (by rfl) T.b_all (by decide +kernel) (pad_cons (pd_lc (own := [("_law_key", 4)]) c.calm c.nd (pid_seq (pd_callTy call_list_of (s_list false) (by rfl) T.b_list (by decide +kernel) (pad_cons (pd_var (pv 1)) pad_nil))) (blkOk_by (own := [("_law_key", 4)]) (N := N__law_same) (sc := defScope s__law_same) (by decide +kernel)) (fun s0 H0 C0 cl0 fp0 => (pgv_name (pg_name (i := 4) (c.blk s0 H0 _ _ fp0).nd rfl (Or.inl rfl)) (by decide))) (fun s0 H0 C0 cl0 fp0 => ptsd_nil) (fun s0 H0 C0 cl0 fp0 => (pd_call (c.blk s0 H0 _ _ fp0) ih (by omega) (by rfl) (pad_cons (pd_ix (pd_var (pv 0)) (pd_var (pv 4)) (fun _ _ => rfl)) (pad_cons (pd_ix (pd_var (pv 1)) (pd_var (pv 4)) (fun _ _ => rfl)) pad_nil))))) pad_nil)))))))
    pssd_nil)
    (pssd_cons (psd_if (PW.pt (pwd_or (ptd_cmp op_isU s_is (pd_var (pv 1)) pd_non (nomark _)) (pwd_or1 (ptd_cmp op_isU s_is (pd_var (pv 0)) pd_non (nomark _)))))
    (pssd_one (psd_ret (pd_and (pd_cmp op_isU s_is (pd_var (pv 1)) pd_non (nomark _)) (pd_one (pd_cmp op_isU s_is (pd_var (pv 0)) pd_non (nomark _))))))
    pssd_nil)
    (pssd_cons (psd_if (PW.pt (pwd_or (ptd_cmp (op_neU c.room) s_ne (pd_callB call_isi s_isi (by rfl) T.b_isinstance (by decide +kernel) (pad_cons (pd_var (pv 0)) (pad_cons (pd_c (pe_bltn (v := .ty "bool") (by rfl) T.b_bool (by decide +kernel) rfl) (fun _ => .ty "bool")) pad_nil))) (pd_callB call_isi s_isi (by rfl) T.b_isinstance (by decide +kernel) (pad_cons (pd_var (pv 1)) (pad_cons (pd_c (pe_bltn (v := .ty "bool") (by rfl) T.b_bool (by decide +kernel) rfl) (fun _ => .ty "bool")) pad_nil))) (nomark _)) (pwd_or1 (ptd_cmp (op_neU c.room) s_ne (pd_callB call_isi s_isi (by rfl) T.b_isinstance (by decide +kernel) (pad_cons (pd_var (pv 0)) (pad_cons (pd_c (pe_bltn (v := .ty "int") (by rfl) T.b_int (by decide +kernel) rfl) (fun _ => .ty "int")) pad_nil))) (pd_callB call_isi s_isi (by rfl) T.b_isinstance (by decide +kernel) (pad_cons (pd_var (pv 1)) (pad_cons (pd_c (pe_bltn (v := .ty "int") (by rfl) T.b_int (by decide +kernel) rfl) (fun _ => .ty "int")) pad_nil))) (nomark _)))))
    (pssd_one (psd_ret pd_bl))
    pssd_nil)
    (pssd_one (psd_ret (pd_and (pd_cmp (op_eqU c.room) s_eq (pd_callB call_isi s_isi (by rfl) T.b_isinstance (by decide +kernel) (pad_cons (pd_var (pv 0)) (pad_cons (pd_c (pe_bltn (v := .ty "str") (by rfl) T.b_str (by decide +kernel) rfl) (fun _ => .ty "str")) pad_nil))) (pd_callB call_isi s_isi (by rfl) T.b_isinstance (by decide +kernel) (pad_cons (pd_var (pv 1)) (pad_cons (pd_c (pe_bltn (v := .ty "str") (by rfl) T.b_str (by decide +kernel) rfl) (fun _ => .ty "str")) pad_nil))) (nomark _)) (pd_one (pd_cmp (op_eqU c.room) s_eq (pd_var (pv 0)) (pd_var (pv 1)) (nomark _))))))))))
theorem ok__law_same (T : Txt P K mg w) : ∀ n, DefOk P w K mg base "_law_same" (n + 0) (m__law_same n)
  | 0 => def_bad T.d__law_same
  | n + 1 => by
    have h := def_ok (k := n + 0) false T.d__law_same sc__law_same rfl rfl (fun _ _ _ _ _ _ us hl => match us, hl with | [_, _], _ => rfl) (bd__law_same T n (ok__law_same T n))
    have e : n + 0 + 1 = n + 1 + 0 := by omega
    rw [e] at h
    exact h
theorem bd_Form_top (T : Txt P K mg w) (f : Addr) (cdv : Value) (A : Around) (outer : List PySem.Env) (s : Shared) (H : Hp) (E : XK) (c : Cc (cxOf (L2.CX P w) P w K mg base N_Form_top "Form.top" (defScope s_Form_top) f cdv A outer s H E) (fun c d _ H' => E c d H') 0) :
    PSs (cxOf (L2.CX P w) P w K mg base N_Form_top "Form.top" (defScope s_Form_top) f cdv A outer s H E) (defBody s_Form_top) (tDS K mg (fun c d _ H' => E c d H') b_Form_top) :=
    (pssd_one (psd_ret (pd_callTy call_list_of (s_list false) (by rfl) T.b_list (by decide +kernel) (pad_cons (pd_fld (cs := ["Form"]) ⟨T.fl_Form_first, trivial⟩ (pd_var (pv 0))) pad_nil))))
theorem is_Form_top (T : Txt P K mg w) : DefIs P w K mg base "top" "Form.top" s_Form_top 1 m_Form_top := fun _ _ F => fnr_ok false F sc_Form_top rfl rfl (fun _ _ _ _ _ _ us hl => match us, hl with | [_], _ => rfl) (bd_Form_top T)
abbrev lamF_law : Nat → LamF := fun i => match i with
  | 0 => lamOf "law.<locals>.<lambda>" (defBody s_law) [2] [1]
  | 1 => lamOf "law.<locals>.<lambda>" (defBody s_law) [2] [0]
  | 2 => lamOf "law.<locals>.<lambda>" (defBody s_law) [5] [0, 1, 1]
  | 3 => lamOf "law.<locals>.<lambda>" (defBody s_law) [6] [1]
  | 4 => lamOf "law.<locals>.<lambda>" (defBody s_law) [9] [0, 1]
  | 5 => lamOf "law.<locals>.<lambda>" (defBody s_law) [14] [1, 0, 1]
  | 6 => lamOf "law.<locals>.<lambda>" (defBody s_law) [15] [0, 0, 1]
  | _ => lamOf "" [] [] []
theorem lam_law_0 (T : Txt P K mg w) (f : Addr) (cdv : Value) (A : Around) (outer : List PySem.Env) (s : Shared) (H : Hp) (E : XK) : LamAt (cxOf (L2.CX P w) P w K mg base N_law "law" (defScope s_law) f cdv A outer s H E) (lamF_law 0) 6 ml_law_0 := ⟨show LamW N_law (defScope s_law) (lamF_law 0).scope from lamW_by (by decide +kernel), .inr ⟨List.cons_ne_nil _ _, "_law_a", rfl, fun _ _ _ _ _ => ⟨_, rfl, fun _ => rfl⟩⟩, rfl, fun A outer s H E fa c' c =>
    (pd_prop (j := 1) c ⟨(T.pr_Form_least.ok (is_Form_least T)).mono (by decide), trivial⟩ (by decide) (pd_cmeth (j := 6) c ⟨(T.cm_Form_of.ok (is_Form_of T)).mono (by decide), trivial⟩ (by decide) (pd_glc T.cl_Form (by rfl)) (pad_cons (pd_lst (pad_cons (pd_tup (pad_cons pd_str (pad_cons (pd_var (pv 2)) pad_nil))) (pad_cons (pd_tup (pad_cons pd_str (pad_cons (pd_var (pv 3)) pad_nil))) pad_nil))) pad_nil)))⟩
theorem lam_law_1 (T : Txt P K mg w) (f : Addr) (cdv : Value) (A : Around) (outer : List PySem.Env) (s : Shared) (H : Hp) (E : XK) : LamAt (cxOf (L2.CX P w) P w K mg base N_law "law" (defScope s_law) f cdv A outer s H E) (lamF_law 1) 6 ml_law_1 := ⟨show LamW N_law (defScope s_law) (lamF_law 1).scope from lamW_by (by decide +kernel), .inl ⟨rfl, fun _ _ _ _ => rfl⟩, rfl, fun A outer s H E fa c' c =>
    (pd_prop (j := 1) c ⟨(T.pr_Form_least.ok (is_Form_least T)).mono (by decide), trivial⟩ (by decide) (pd_own (j := 5) c ⟨(T.ow_Form___mul__.ok (is_Form___mul__ T)).mono (by decide), trivial⟩ (by decide) (pd_cmeth (j := 6) c ⟨(T.cm_Form_of.ok (is_Form_of T)).mono (by decide), trivial⟩ (by decide) (pd_glc T.cl_Form (by rfl)) (pad_cons (pd_lst (pad_cons (pd_tup (pad_cons pd_str (pad_cons (pd_var (pv 2)) pad_nil))) pad_nil)) pad_nil)) (pd_cmeth (j := 6) c ⟨(T.cm_Form_of.ok (is_Form_of T)).mono (by decide), trivial⟩ (by decide) (pd_glc T.cl_Form (by rfl)) (pad_cons (pd_lst (pad_cons (pd_tup (pad_cons pd_str (pad_cons (pd_var (pv 3)) pad_nil))) pad_nil)) pad_nil))))⟩
theorem lam_law_2 (T : Txt P K mg w) (f : Addr) (cdv : Value) (A : Around) (outer : List PySem.Env) (s : Shared) (H : Hp) (E : XK) : LamAt (cxOf (L2.CX P w) P w K mg base N_law "law" (defScope s_law) f cdv A outer s H E) (lamF_law 2) 6 ml_law_2 := ⟨show LamW N_law (defScope s_law) (lamF_law 2).scope from lamW_by (by decide +kernel), .inl ⟨rfl, fun _ _ _ _ => rfl⟩, rfl, fun A outer s H E fa c' c =>
    (pd_prop (j := 1) c ⟨(T.pr_Form_least.ok (is_Form_least T)).mono (by decide), trivial⟩ (by decide) (pd_cmeth (j := 6) c ⟨(T.cm_Form_of.ok (is_Form_of T)).mono (by decide), trivial⟩ (by decide) (pd_glc T.cl_Form (by rfl)) (pad_cons (pd_lst (pad_cons (pd_tup (pad_cons pd_str (pad_cons (pd_un un_neg s_neg (pd_var (pv 2))) pad_nil))) (pad_cons (pd_tup (pad_cons pd_str (pad_cons (pd_un un_neg s_neg (pd_var (pv 3))) pad_nil))) pad_nil))) pad_nil)))⟩
theorem lam_law_3 (T : Txt P K mg w) (f : Addr) (cdv : Value) (A : Around) (outer : List PySem.Env) (s : Shared) (H : Hp) (E : XK) : LamAt (cxOf (L2.CX P w) P w K mg base N_law "law" (defScope s_law) f cdv A outer s H E) (lamF_law 3) 6 ml_law_3 := ⟨show LamW N_law (defScope s_law) (lamF_law 3).scope from lamW_by (by decide +kernel), .inl ⟨rfl, fun _ _ _ _ => rfl⟩, rfl, fun A outer s H E fa c' c =>
    (pd_prop (j := 1) c ⟨(T.pr_Form_least.ok (is_Form_least T)).mono (by decide), trivial⟩ (by decide) (pd_cmeth (j := 6) c ⟨(T.cm_Form_of.ok (is_Form_of T)).mono (by decide), trivial⟩ (by decide) (pd_glc T.cl_Form (by rfl)) (pad_cons (pd_lst (pad_cons (pd_tup (pad_cons pd_str (pad_cons (pd_var (pv 2)) pad_nil))) (pad_cons (pd_tup (pad_cons pd_str (pad_cons (pd_var (pv 3)) pad_nil))) (pad_cons (pd_tup (pad_cons pd_str (pad_cons (pd_un un_neg s_neg (pd_var (pv 3))) pad_nil))) pad_nil)))) pad_nil)))⟩
theorem lam_law_4 (T : Txt P K mg w) (f : Addr) (cdv : Value) (A : Around) (outer : List PySem.Env) (s : Shared) (H : Hp) (E : XK) : LamAt (cxOf (L2.CX P w) P w K mg base N_law "law" (defScope s_law) f cdv A outer s H E) (lamF_law 4) 6 ml_law_4 := ⟨show LamW N_law (defScope s_law) (lamF_law 4).scope from lamW_by (by decide +kernel), .inl ⟨rfl, fun _ _ _ _ => rfl⟩, rfl, fun A outer s H E fa c' c =>
    (pd_cmeth (j := 6) c ⟨(T.cm_Form_of.ok (is_Form_of T)).mono (by decide), trivial⟩ (by decide) (pd_glc T.cl_Form (by rfl)) (pad_cons (pd_lst (pad_cons (pd_tup (pad_cons pd_str (pad_cons pd_int pad_nil))) (pad_cons (pd_tup (pad_cons pd_str (pad_cons pd_int pad_nil))) (pad_cons (pd_var (pv 7)) (pad_cons (pd_var (pv 7)) pad_nil))))) pad_nil))⟩
theorem lam_law_5 (T : Txt P K mg w) (f : Addr) (cdv : Value) (A : Around) (outer : List PySem.Env) (s : Shared) (H : Hp) (E : XK) : LamAt (cxOf (L2.CX P w) P w K mg base N_law "law" (defScope s_law) f cdv A outer s H E) (lamF_law 5) 6 (ml_law_5 w) := ⟨show LamW N_law (defScope s_law) (lamF_law 5).scope from lamW_by (by decide +kernel), .inl ⟨rfl, fun _ _ _ _ => rfl⟩, rfl, fun A outer s H E fa c' c =>
    (pd_prop (j := 1) c ⟨(T.pr_Form_least.ok (is_Form_least T)).mono (by decide), trivial⟩ (by decide) (pd_meth0 (j := 5) c ⟨(T.me_Form_inverse.ok (is_Form_inverse T)).mono (by decide), trivial⟩ (by decide) (pd_var (pv 9))))⟩
theorem lam_law_6 (T : Txt P K mg w) (f : Addr) (cdv : Value) (A : Around) (outer : List PySem.Env) (s : Shared) (H : Hp) (E : XK) : LamAt (cxOf (L2.CX P w) P w K mg base N_law "law" (defScope s_law) f cdv A outer s H E) (lamF_law 6) 6 (ml_law_6 w) := ⟨show LamW N_law (defScope s_law) (lamF_law 6).scope from lamW_by (by decide +kernel), .inl ⟨rfl, fun _ _ _ _ => rfl⟩, rfl, fun A outer s H E fa c' c =>
    (pd_callB call_len s_len (by rfl) T.b_len (by decide +kernel) (pad_cons (pd_meth0 (j := 1) c ⟨(T.me_Form_top.ok (is_Form_top T)).mono (by decide), trivial⟩ (by decide) (pd_meth0 (j := 5) c ⟨(T.me_Form_inverse.ok (is_Form_inverse T)).mono (by decide), trivial⟩ (by decide) (pd_var (pv 10)))) pad_nil))⟩
theorem lok_law (T : Txt P K mg w) (f : Addr) (cdv : Value) (A : Around) (outer : List PySem.Env) (s : Shared) (H : Hp) (E : XK) : LamsOk (cxOf (L2.CX P w) P w K mg base N_law "law" (defScope s_law) f cdv A outer s H E) ⟨(cxOf (L2.CX P w) P w K mg base N_law "law" (defScope s_law) f cdv A outer s H E).env.cells, lamF_law⟩ 6 0 ((lams_law w) ⟨(cxOf (L2.CX P w) P w K mg base N_law "law" (defScope s_law) f cdv A outer s H E).env.cells, lamF_law⟩ 0) := ⟨lam_law_0 T f cdv A outer s H E, lam_law_1 T f cdv A outer s H E, lam_law_2 T f cdv A outer s H E, lam_law_3 T f cdv A outer s H E, lam_law_4 T f cdv A outer s H E, lam_law_5 T f cdv A outer s H E, lam_law_6 T f cdv A outer s H E, trivial⟩
theorem bd_law (T : Txt P K mg w) (TP : Addr) (f : Addr) (cdv : Value) (A : Around) (outer : List PySem.Env) (s : Shared) (H : Hp) (E : XK) (LC : LamC (cxOf (L2.CX P w) P w K mg base N_law "law" (defScope s_law) f cdv A outer s H E) ⟨(cxOf (L2.CX P w) P w K mg base N_law "law" (defScope s_law) f cdv A outer s H E).env.cells, lamF_law⟩ TP) (c : Cc (cxOf (L2.CX P w) P w K mg base N_law "law" (defScope s_law) f cdv A outer s H E) (fun c d _ H' => E c d H') 8) :
    PSs (cxOf (L2.CX P w) P w K mg base N_law "law" (defScope s_law) f cdv A outer s H E) (defBody s_law) (tDP K mg TP ((b_law w) ⟨(cxOf (L2.CX P w) P w K mg base N_law "law" (defScope s_law) f cdv A outer s H E).env.cells, lamF_law⟩ TP)) :=
    (pssd_tab (psd_set (i := 1) c.nd rfl (Or.inl rfl) (pd_call c (ok__law_bag T) (by decide) (by rfl) (pad_cons (pd_var (pv 0)) pad_nil)))
    (pssd_cons (psd_asg (pd_tup (pad_cons (pd_call c (ok__law_of T) (by decide) (by rfl) (pad_cons (pd_var (pv 1)) (pad_cons (pd_lst (pad_cons pd_int (pad_cons pd_int (pad_cons pd_int pad_nil)))) pad_nil))) (pad_cons (pd_call c (ok__law_pull T) (by decide) (by rfl) (pad_cons (pd_var (pv 1)) (pad_cons pd_int pad_nil))) pad_nil))) (pgd_un c.calm (pgsd_cons (pgd_name (pg_name (i := 2) c.nd rfl (Or.inr rfl))) (pgsd_cons (pgd_name (pg_name (i := 3) c.nd rfl (Or.inr rfl))) pgsd_nil))))
    (pssd_cons (psd_set (i := 4) c.nd rfl (Or.inl rfl) (pd_lst (pad_cons (pd_lam (i := 1) (k := 1) LC (by rfl) (by rfl) (show lamFreeB (defScope s_law) (lamF_law 1).scope = true from by decide +kernel) (by rfl) (by rfl)) (pad_cons (pd_lam1 (i := 0) (k := 1) (n := 0) LC (by rfl) (by rfl) (show lamFreeB (defScope s_law) (lamF_law 0).scope = true from by decide +kernel) (List.cons_ne_nil _ _) (by rfl)) pad_nil))))
    (pssd_cons (psd_set (i := 5) c.nd rfl (Or.inr rfl) (pd_if (ptd_cmp op_lt s_lt (pd_op op_addU s_add (pd_var (pv 2)) (pd_var (pv 3))) pd_int (nomark _)) (pd_tup (pad_cons pd_str (pad_cons (pd_op op_addU s_add (pd_var (pv 2)) (pd_var (pv 3))) pad_nil))) (pd_tup (pad_cons pd_str (pad_cons pd_int pad_nil)))))
    (pssd_cons (psd_if (ptd_not (ptd_truth (pd_callB (cr_all c.calm) s_all (by rfl) T.b_all (by decide +kernel) (pad_cons (pd_tryLc (k := 6) (kf := 1) (j := 13) c (ok_try T) LC (lok_law T f cdv A outer s H E) (by decide) (by decide) (pid_seq (pd_var (pv 4))) (blkOk_by (own := [("_law_ask", 13)]) (N := N_law) (sc := defScope s_law) (by decide +kernel)) (fun s0 H0 C0 cl0 fp0 => (pgv_name (pg_name (i := 13) (c.blk s0 H0 _ _ fp0).nd rfl (Or.inl rfl)) (by decide))) rfl (fun _ _ => Or.inl rfl) (fun _ _ => rfl) (fun σ0 s0 H0 C0 cl0 fp0 ht => pd_callW (c.blk s0 H0 _ _ fp0) (ok__law_same T 6) (by decide) (by rfl) (pad_consW ht (pad_cons (pd_var (pv 5)) pad_nil)))) pad_nil))))
    (pssd_one (psd_ret pd_bl))
    pssd_nil)
    (pssd_cons (psd_if (ptd_not (ptd_truth (pd_call c (ok__law_same T 6) (by decide) (by rfl) (pad_cons (pd_try (k := 6) (kf := 1) c (ok_try T) LC (lok_law T f cdv A outer s H E) (by decide) (by decide) (by rfl) (pd_lam (i := 2) (k := 1) LC (by rfl) (by rfl) (show lamFreeB (defScope s_law) (lamF_law 2).scope = true from by decide +kernel) (by rfl) (by rfl))) (pad_cons (pd_var (pv 5)) pad_nil)))))
    (pssd_one (psd_ret pd_bl))
    pssd_nil)
    (pssd_cons (psd_set (i := 6) c.nd rfl (Or.inl rfl) (pd_try (k := 6) (kf := 1) c (ok_try T) LC (lok_law T f cdv A outer s H E) (by decide) (by decide) (by rfl) (pd_lam (i := 3) (k := 1) LC (by rfl) (by rfl) (show lamFreeB (defScope s_law) (lamF_law 3).scope = true from by decide +kernel) (by rfl) (by rfl))))
    (pssd_cons (psd_if (ptd_not (ptd_truth (pd_call c (ok__law_same T 6) (by decide) (by rfl) (pad_cons (pd_var (pv 6)) (pad_cons (pd_if (ptd_cmp op_lt s_lt (pd_op op_addU s_add (pd_var (pv 2)) (pd_var (pv 3))) pd_int (nomark _)) (pd_tup (pad_cons pd_str (pad_cons (pd_var (pv 2)) pad_nil))) (pd_tup (pad_cons pd_str (pad_cons pd_int pad_nil)))) pad_nil)))))
    (pssd_one (psd_ret pd_bl))
    pssd_nil)
    (pssd_cons (psd_set (i := 7) c.nd rfl (Or.inr rfl) (pd_call c (ok__law_of T) (by decide) (by rfl) (pad_cons (pd_var (pv 1)) (pad_cons (pd_call0 c (ok__law_odd_moves T) (by decide) (by rfl)) pad_nil))))
    (pssd_cons (psd_if (ptd_cmp (op_neU c.room) s_ne (pd_try (k := 6) (kf := 1) c (ok_try T) LC (lok_law T f cdv A outer s H E) (by decide) (by decide) (by rfl) (pd_lam (i := 4) (k := 1) LC (by rfl) (by rfl) (show lamFreeB (defScope s_law) (lamF_law 4).scope = true from by decide +kernel) (by rfl) (by rfl))) (pd_tup (pad_cons pd_str (pad_cons pd_int pad_nil))) (nomark _))
    (pssd_one (psd_ret pd_bl))
    pssd_nil)
    (pssd_cons (psd_if (ptd_cmp (op_ownNe (tab := [("Form", m_Form___eq__)]) (j := 2) c ⟨(T.ow_Form___eq__.ok (is_Form___eq__ T)).mono (by decide), trivial⟩ ⟨T.nb_Form, trivial⟩ (by decide)) s2_noX (pd_cmeth (j := 6) c ⟨(T.cm_Form_of.ok (is_Form_of T)).mono (by decide), trivial⟩ (by decide) (pd_glc T.cl_Form (by rfl)) (pad_cons (pd_lst (pad_cons (pd_tup (pad_cons pd_str (pad_cons pd_int pad_nil))) (pad_cons (pd_tup (pad_cons pd_str (pad_cons (pd_un un_neg s_neg pd_int) pad_nil))) (pad_cons (pd_tup (pad_cons pd_str pad_nil)) (pad_cons (pd_tup (pad_cons pd_str pad_nil)) pad_nil))))) pad_nil)) (pd_smeth0 (j := 5) c ⟨(T.sm_Form_still.ok (is_Form_still T)).mono (by decide), trivial⟩ (by decide) (pd_glc T.cl_Form (by rfl))) (nomark _))
    (pssd_one (psd_ret pd_bl))
    pssd_nil)
    (pssd_cons (psd_set (i := 8) c.nd rfl (Or.inr rfl) (pd_op op_addU s_add pd_int (pd_var (pv 3))))
    (pssd_cons (psd_set (i := 9) c.nd rfl (Or.inr rfl) (pd_call c (ok_Form T) (by decide) (by rfl) (pad_cons pd_bl (pad_cons (pd_var (pv 8)) (pad_cons (pd_lc (own := [("_law_depth", 11)]) c.calm c.nd (pid_range1 (by rfl) T.b_range (pad_cons pd_int pad_nil)) (blkOk_by (own := [("_law_depth", 11)]) (N := N_law) (sc := defScope s_law) (by decide +kernel)) (fun s0 H0 C0 cl0 fp0 => (pgv_name (pg_name (i := 11) (c.blk s0 H0 _ _ fp0).nd rfl (Or.inl rfl)) (by decide))) (fun s0 H0 C0 cl0 fp0 => ptsd_nil) (fun s0 H0 C0 cl0 fp0 => (pd_tup (pad_cons pd_str (pad_cons (pd_var (pv 11)) (pad_cons pd_bl pad_nil)))))) (pad_cons (pd_lc (own := [("_law_k", 12)]) c.calm c.nd (pid_range1 (by rfl) T.b_range (pad_cons (pd_var (pv 8)) pad_nil)) (blkOk_by (own := [("_law_k", 12)]) (N := N_law) (sc := defScope s_law) (by decide +kernel)) (fun s0 H0 C0 cl0 fp0 => (pgv_name (pg_name (i := 12) (c.blk s0 H0 _ _ fp0).nd rfl (Or.inl rfl)) (by decide))) (fun s0 H0 C0 cl0 fp0 => ptsd_nil) (fun s0 H0 C0 cl0 fp0 => (pd_tup (pad_cons pd_str (pad_cons (pd_op op_addU s_add pd_int (pd_var (pv 12))) (pad_cons pd_bl pad_nil)))))) pad_nil))))))
    (pssd_cons (psd_set (i := 10) c.nd rfl (Or.inr rfl) (pd_call c (ok_Form T) (by decide) (by rfl) (pad_cons pd_bl (pad_cons (pd_var (pv 8)) (pad_cons (pd_lc (own := [("_law_depth", 11)]) c.calm c.nd (pid_range1 (by rfl) T.b_range (pad_cons (pd_op op_sub s_sub pd_int (pd_var (pv 8))) pad_nil)) (blkOk_by (own := [("_law_depth", 11)]) (N := N_law) (sc := defScope s_law) (by decide +kernel)) (fun s0 H0 C0 cl0 fp0 => (pgv_name (pg_name (i := 11) (c.blk s0 H0 _ _ fp0).nd rfl (Or.inl rfl)) (by decide))) (fun s0 H0 C0 cl0 fp0 => ptsd_nil) (fun s0 H0 C0 cl0 fp0 => (pd_tup (pad_cons pd_str (pad_cons (pd_var (pv 11)) (pad_cons pd_bl pad_nil)))))) (pad_cons (pd_lc (own := [("_law_k", 12)]) c.calm c.nd (pid_range1 (by rfl) T.b_range (pad_cons (pd_var (pv 8)) pad_nil)) (blkOk_by (own := [("_law_k", 12)]) (N := N_law) (sc := defScope s_law) (by decide +kernel)) (fun s0 H0 C0 cl0 fp0 => (pgv_name (pg_name (i := 12) (c.blk s0 H0 _ _ fp0).nd rfl (Or.inl rfl)) (by decide))) (fun s0 H0 C0 cl0 fp0 => ptsd_nil) (fun s0 H0 C0 cl0 fp0 => (pd_tup (pad_cons pd_str (pad_cons (pd_op op_addU s_add (pd_op op_sub s_sub pd_int (pd_var (pv 8))) (pd_var (pv 12))) (pad_cons pd_bl pad_nil)))))) pad_nil))))))
    (pssd_cons (psd_if (PW.pt (pwd_or (ptd_cmp (op_neU c.room) s_ne (pd_prop (j := 1) c ⟨(T.pr_Form_least.ok (is_Form_least T)).mono (by decide), trivial⟩ (by decide) (pd_var (pv 9))) (pd_op op_addU s_add pd_int (pd_var (pv 8))) (nomark _)) (pwd_or1 (ptd_cmp (op_neU c.room) s_ne (pd_try (k := 6) (kf := 1) c (ok_try T) LC (lok_law T f cdv A outer s H E) (by decide) (by decide) (by rfl) (pd_lam (i := 5) (k := 1) LC (by rfl) (by rfl) (show lamFreeB (defScope s_law) (lamF_law 5).scope = true from by decide +kernel) (by rfl) (by rfl))) (pd_tup (pad_cons pd_str (pad_cons pd_int pad_nil))) (nomark _)))))
    (pssd_one (psd_ret pd_bl))
    pssd_nil)
    (pssd_one (psd_ret (pd_and (pd_cmp (op_eqU c.room) s_eq (pd_try (k := 6) (kf := 1) c (ok_try T) LC (lok_law T f cdv A outer s H E) (by decide) (by decide) (by rfl) (pd_lam (i := 6) (k := 1) LC (by rfl) (by rfl) (show lamFreeB (defScope s_law) (lamF_law 6).scope = true from by decide +kernel) (by rfl) (by rfl))) (pd_tup (pad_cons pd_str (pad_cons pd_int pad_nil))) (nomark _)) (pd_one (pd_cmp (op_own (tab := [("Form", m_Form___eq__)]) (j := 2) c ⟨(T.ow_Form___eq__.ok (is_Form___eq__ T)).mono (by decide), trivial⟩ (by decide)) s2_noX (pd_meth0 (j := 5) c ⟨(T.me_Form_inverse.ok (is_Form_inverse T)).mono (by decide), trivial⟩ (by decide) (pd_meth0 (j := 5) c ⟨(T.me_Form_inverse.ok (is_Form_inverse T)).mono (by decide), trivial⟩ (by decide) (pd_var (pv 10)))) (pd_var (pv 10)) (nomark _)))))))))))))))))))))
end
theorem all_mk {w : World} {K : PySem.W.Frag} {h : Heap} {mg : Str → Option Value} {fa : Addr} (X : K.In h) (G : h.Ns mainGlobals mg) (hfa : mg "law" = some (.ref fa)) (c : SaysH PGM.main.file fcts fns tbs ers tfs w h K) :
    ∃ fd : FuncData, (∀ (s : Shared) (v : Value), BindsTo s fd ⟨[v], []⟩ [("_law_script", v)]) ∧ ∀ base : Heap, K.In base → base.Ns mainGlobals mg → (∀ p ∈ tfs, LamX.TabB base mg (He.cT K p).1 (He.cT K p).2) → FnOk PGM w K mg base (L2.CX PGM w) 9 fa fd ["_law_script"] (spLawT K (He.cT K (("law" : Str), none)).2) := by
  have T : Txt PGM K mg w := ⟨(fun base => err_of (h := h) X G (c.err 0).1 (c.err 0).2 et_TooWide (free_of X G (c.g.fact 0)) (c.g.fact 1) (c.g.fact 2)),
    (fun base => err_of0 (h := h) X G (c.err 1).1 (c.err 1).2 et_BadForm (free_of X G (c.g.fact 0)) (c.g.fact 3)),
    (fun base => err_of (h := h) X G (c.err 2).1 (c.err 2).2 et_BadMove (free_of X G (c.g.fact 0)) (c.g.fact 4) (c.g.fact 5)),
    top_of X G (c.g.fact 6) (c.g.fun_ 0),
    top_of X G (c.g.fact 7) (c.g.fun_ 1),
    ⟨_, _, glo_of X G (c.g.fact 8), glo_of X G (c.g.fact 9)⟩,
    tryc_of X G (c.g.fact 10) (c.g.fact 8) (c.g.fact 9) (c.g.fact 11) (c.g.fact 12),
    tryc_of X G (c.g.fact 13) (c.g.fact 8) (c.g.fact 9) (c.g.fact 14) (c.g.fact 15),
    tryc_of X G (c.g.fact 16) (c.g.fact 8) (c.g.fact 9) (c.g.fact 17) (c.g.fact 18),
    free_of X G (c.g.fact 19),
    free_of X G (c.g.fact 20),
    free_of X G (c.g.fact 21),
    free_of X G (c.g.fact 22),
    free_of X G (c.g.fact 23),
    free_of X G (c.g.fact 24),
    free_of X G (c.g.fact 25),
    free_of X G (c.g.fact 26),
    free_of X G (c.g.fact 27),
    free_of X G (c.g.fact 28),
    free_of X G (c.g.fact 29),
    free_of X G (c.g.fact 30),
    free_of X G (c.g.fact 31),
    free_of X G (c.g.fact 32),
    free_of X G (c.g.fact 33),
    int_of X G (c.g.fact 34),
    int_of X G (c.g.fact 35),
    c.g.tab X G 0 36,
    c.g.tab X G 1 37,
    cme_of X G (c.g.fact 38) (c.g.fact 39) (c.g.fact 40) (c.g.fun_ 2),
    cls_of X G (c.g.fact 38),
    prp_of X G (c.g.fact 38) (c.g.fact 41) (c.g.fact 42) (c.g.fun_ 3),
    own_of X G (c.g.fact 38) (c.g.fact 43) (c.g.fact 44) (c.g.fact 45) (c.g.fun_ 4),
    sme_of X G (c.g.fact 38) (c.g.fact 39) (c.g.fact 46) (c.g.fun_ 5),
    own_of X G (c.g.fact 38) (c.g.fact 47) (c.g.fact 44) (c.g.fact 48) (c.g.fun_ 6),
    ne_of X G (c.g.fact 38) (c.g.fact 49),
    new_of X G (c.g.fact 38) (c.g.fact 50) (c.g.fun_ 7),
    met_of X G (c.g.fact 38) (c.g.fact 41) (c.g.fact 51) (c.g.fun_ 8),
    met_of X G (c.g.fact 38) (c.g.fact 41) (c.g.fact 52) (c.g.fun_ 9),
    isiG_of X G (c.g.fact 38) (c.g.fact 41) (c.g.fact 53),
    met_of X G (c.g.fact 38) (c.g.fact 41) (c.g.fact 54) (c.g.fun_ 10),
    fld_of X G (c.g.fact 38) (c.g.fact 41) (c.g.fact 55),
    fld_of X G (c.g.fact 38) (c.g.fact 41) (c.g.fact 56),
    fld_of X G (c.g.fact 38) (c.g.fact 41) (c.g.fact 57),
    fld_of X G (c.g.fact 38) (c.g.fact 41) (c.g.fact 58),
    con_of X G (c.g.fact 38) (c.g.fact 41) (c.g.fact 59),
    met_of X G (c.g.fact 38) (c.g.fact 41) (c.g.fact 60) (c.g.fun_ 11),
    met_of X G (c.g.fact 38) (c.g.fact 41) (c.g.fact 61) (c.g.fun_ 12),
    met_of X G (c.g.fact 38) (c.g.fact 41) (c.g.fact 62) (c.g.fun_ 13),
    top_of X G (c.g.fact 63) (c.g.fun_ 14),
    top_of X G (c.g.fact 64) (c.g.fun_ 15),
    top_of X G (c.g.fact 65) (c.g.fun_ 16),
    top_of X G (c.g.fact 66) (c.g.fun_ 17),
    top_of X G (c.g.fact 67) (c.g.fun_ 18),
    top_of X G (c.g.fact 68) (c.g.fun_ 19),
    top_of X G (c.g.fact 69) (c.g.fun_ 20),
    top_of X G (c.g.fact 70) (c.g.fun_ 21),
    top_of X G (c.g.fact 71) (c.g.fun_ 22),
    top_of X G (c.g.fact 72) (c.g.fun_ 23),
    top_of X G (c.g.fact 73) (c.g.fun_ 24),
    top_of X G (c.g.fact 74) (c.g.fun_ 25),
    top_of X G (c.g.fact 75) (c.g.fun_ 26),
    top_of X G (c.g.fact 76) (c.g.fun_ 27),
    top_of X G (c.g.fact 77) (c.g.fun_ 28),
    top_of X G (c.g.fact 78) (c.g.fun_ 29),
    top_of X G (c.g.fact 79) (c.g.fun_ 30),
    top_of X G (c.g.fact 80) (c.g.fun_ 31)⟩
  obtain ⟨fd, F⟩ := (c.g.fun_ 31)
  have e := hfa.symm.trans (glo_of X G (c.g.fact 80))
  cases e
  refine ⟨fd, fun s v => fun_binds1 F (fun _ _ _ _ _ _ _ => rfl) s v, fun base _ _ tb => ?_⟩
  refine law_tab (b := fun Z => (b_law w) Z (He.cT K (("law" : Str), none)).2) F sc_law rfl (fun Z ns hl => main_law w Z _ ns hl) fun cdv A outer s H E lk C => ?_
  obtain ⟨oc, od, kV, doc, pm, an, cdv2, ct, osl, rfl, lk2, hcd⟩ := F.ex
  have hc : ∃ c, cdv = .ref c := by
    obtain ⟨oc1, od1, osl1, dV1, kV1, doc1, pm1, an1, ct1, lk1⟩ := lk
    have lk3 := lk2.symm.trans lk1
    cases lk3
    exact He.codeIn_ref hcd
  exact ⟨_, bd_law T _ _ cdv A outer s H E (lamC_law X G (c.g.fact 80) (glo_of X G (c.g.fact 80)) lk hc (tb _ List.mem_cons_self)) C⟩
end GD
open PySem PySem.W PySem.Calls PyProof.Rows
set_option maxRecDepth 100000 in
set_option maxHeartbeats 0 in
theorem PySem.Challenge.cw_pileports_k25_forms_that_are_too_wide_holds : PySem.Challenge.rw_pileports_k25_forms_that_are_too_wide.Holds := by
  w_on; o_law
  refine HandSHeadRun.head_any (r := GD.RR) (q := view GD.RR.prog [52]) (H := GD.hk) (ob := GD.ob) (M := 20000) (loose := GD.loose) (d := HandSHeadRun.topDef GD.RR.prog 52) (kwd := []) GD.ob_eq
    (by kernel_rfl) (fun s => by kernel_rfl) GD.run (by kernel_rfl) (by kernel_rfl) (by kernel_rfl) (by rfl) (by first | assumption | decide +kernel) (by decide +kernel) ⟨rfl, rfl, rfl, rfl, rfl, by decide +kernel⟩ ?hw ?hc
  case hw => w_witness2
  case hc =>
    refine GD.walk_t (l := PySem.Challenge.rw_pileports_k25_forms_that_are_too_wide) (n := 63) (k := 9) (x := "_law_script") rfl (by decide) (by kernel_rfl) ⟨rfl, by decide, by decide⟩ (by kernel_rfl) List.mem_cons_self fun w mg fa h K KX G hmg c => ?_
    exact GD.all_mk KX G hmg c
