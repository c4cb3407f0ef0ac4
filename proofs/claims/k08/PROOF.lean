import PyProof.Rows.All
import Wide.All
import OpenK.AllK
import Wide.FinOn
import PySem.Challenge.RW_pileports_k08_words_as_values
import HandS.HeadNt
import HandS.HeadHook3
import HandS.HeadHook4
import HandS.Head2
import HandS.HeadEnd
import HandS.ExcInit
import HandS.ExcField
import KE.KExcSuper
import HandS.HeadWalk
import PyProof.EqLayable
import HandS.ForMost
import HandS.ForExc
import HandS.Star
import HandS.Lambda
import HandS.Nested
import HandS.Wide
import HandS.Deep
import HandS.IsInst
import HandS.Style
import HandS.TupAny
import HandS.Zip
import HandS.NoneIn
import HandS.More
import KE.KeyNested
import PyProof.RulesMatch
import KE.GoesMore
import KE.GoesZip
import HandS.Text
import HandS.Property
import HandS.ClsMeth
import KE.KCallOwn
import HandS.Conv
import KE.SortData
import KE.GoesEnum
import HandS.Codes
import HandS.FStr
import HandS.FStrTup
import KE.KNest
import KE.KLam
import HandS.HotCalls
import HandS.TryMany
import PyProof.ListRange
import PyProof.LongRange
import HandS.Defaults
import KE.KUnpackStar
import KE.KxIndex
import HandS.StrMore
import HandS.RaiseMore
import HandS.OwnEq
import PyProof.EqKinds
set_option Elab.async false
set_option linter.all false
set_option maxRecDepth 100000
set_option maxHeartbeats 4000000
/-! GFA: what one run of the top is asked: the facts, the defs, the tables, the errors. -/
namespace GD
open PySem PySem.Spec PyProof.Rows L2
open He (ga ma eqO eqO_ok ba)
/-- where a def's function stands -/
inductive Pl where
  | g (x : Str) | m (c m : Str) | p (c m : Str) | c (c m : Str) | s (c m : Str)
def Pl.at_ (K : PySem.W.Frag) : Pl → Addr
  | .g x => ga K x
  | .m x y => ma K (ga K x) y
  | .p x y => He5.wf K (ga K x) "property" y
  | .c x y => He5.wf K (ga K x) "classmethod" y
  | .s x y => He5.wf K (ga K x) "staticmethod" y
structure DefG where
  pl : Pl
  name : Str
  qual : Str
  st : Stmt
  dfl : List He.Dv
def DefG.a (d : DefG) : He5.DefA := { at_ := fun K => d.pl.at_ K, name := d.name, qual := d.qual, params := defArgs d.st, body := defBody d.st, scope := defScope d.st, dfl := d.dfl }
inductive Fg where
  | glo (x : Str) | free (x : Str) | int (x : Str) (i : Int) | str (x z : Str)
  | cls (c : Str) | noat (c f : Str) | con (c f : Str) (i : Int) | met (c m : Str) | sf (c : Str) | fni (c m : Str) | new (c : Str) | prp (c m : Str) | crd (c : Str) | isi (c : Str) | cme (c m : Str) | sme (c m : Str) | exm (c b : Str) (v : Bool) | xf (c : Str) (ats : List Str) | nb (c : Str) | nbs (c : Str) | cvl (c f : Str) (i : Int) | kwd (pl : Pl) (y : Str) (d : Option Int)
def dfB (u : Value) : Option Int → Bool
  | none => (match u with
    | .none => true
    | _ => false)
  | some i => (match u with
    | .int j _ => decide (j = i)
    | _ => false)
def kwdB (K : PySem.W.Frag) (f : Addr) (y : Str) (d : Option Int) : Bool := match K.lookup f with
  | some ⟨_, _, .func fd, _⟩ => (match fd.kwdefaults with
    | .ref D => (match PySem.W.nsIn K D y with
      | some (some u) => dfB u d
      | _ => false)
    | _ => false)
  | _ => false
def Fg.ok (K : PySem.W.Frag) : Fg → Bool
  | .glo x => (He.Fa.glo x).ok K
  | .free x => (He.Fa.free x).ok K
  | .int x i => (He.Fa.int x i).ok K
  | .str x i => (He.Fa.str x i).ok K
  | .cls x => (He.Fa.cls x).ok K
  | .noat x f => (He.Fa.noat x f).ok K
  | .con x f i => He.conB K x f (.int i)
  | .met x m => (He.Fa.meth x m).ok K
  | .sf x => PySem.W.selfFirst K (ga K x)
  | .fni x m => PySem.W.fnIn K (ma K (ga K x) m)
  | .new x => (He.Fa.mkr x).ok K
  | .prp c m => eqO (PySem.W.findIn K (.ref (ga K c)) m) (some (some (.ref (ma K (ga K c) m)))) && (eqO (PySem.W.specialIn K (.ref (ma K (ga K c) m)) "__get__") (some (some (.builtin "property.__get__"))) && (decide (PySem.W.takesIn K (.ref (ma K (ga K c) m)) = some true) &&
    (match PySem.W.recIn K (ma K (ga K c) m) "property" with
      | some (.ref _ :: _) => true
      | _ => false)))
  | .crd c => PySem.W.readsIn K (ga K c) (.type "type") && eqO (PySem.W.specialIn K (.ref (ga K c)) "__getattribute__") (some (some (.builtin "type.__getattribute__")))
  | .isi c => (eqO (PySem.W.findIn K (.ref (ga K c)) "__class__") (some (some (.builtin "object.__class__"))) && (eqO (PySem.W.specialIn K (.builtin "object.__class__") "__get__") (some (some (.builtin "getset_descriptor.__get__"))) && (decide (PySem.W.takesIn K (.builtin "object.__class__") = some true) &&
    (decide (PySem.W.mroIn K (ga K c) (.type "object") = some true) && decide (PySem.W.kitOne K (.ref (ga K c)) (.ref (ga K c)) = some true))))) && ((decide (PySem.W.kitOne K (.type "NoneType") (.ref (ga K c)) = some false) && decide (PySem.W.kitOne K (.type "str") (.ref (ga K c)) = some false)) && (decide (PySem.W.kitOne K (.type "tuple") (.ref (ga K c)) = some false) && decide (PySem.W.kitOne K (.type "list") (.ref (ga K c)) = some false)))
  | .cme c m => He5.wrapB K (ga K c) "classmethod" "classmethod.__get__" m && PySem.W.fnIn K (He5.wf K (ga K c) "classmethod" m)
  | .sme c m => He5.wrapB K (ga K c) "staticmethod" "staticmethod.__get__" m
  | .exm c b v => decide (PySem.W.exmOne K (.ref (ga K c)) (.ref (ga K b)) = some v)
  | .xf c ats => xfB K (ga K c) && ats.all fun n => eqO (PySem.W.findIn K (.ref (ga K c)) n) (some none)
  | .nb c => eqO (PySem.W.findIn K (.ref (ga K c)) "__ne__") (some (some (.builtin "object.__ne__"))) && decide (PySem.W.mroIn K (ga K c) (.type "object") = some true)
  | .nbs c => (decide (PySem.W.mroIn K (ga K c) (.type "tuple") = some false) && decide (PySem.W.mroIn K (ga K c) (.type "list") = some false)) && (decide (PySem.W.mroIn K (ga K c) (.type "str") = some false) && decide (PySem.W.mroIn K (ga K c) (.type "NoneType") = some false))
  | .cvl c f i => match PySem.W.findCls K (.ref (ga K c)) (.type "type") f with
    | some (.val (.int j _)) => decide (j = i)
    | _ => false
  | .kwd pl y d => kwdB K (pl.at_ K) y d
/-- a dict of texts: its keys with their hashes, its values -/
def dicS (K : PySem.W.Frag) (x : Str) : Option (List (Option (Str × Int × Str))) := match K.lookup (ga K x) with
  | some ⟨.type t, none, .dict es _, sl⟩ => if (t == "dict" && sl.size == 0) = true then some (es.toList.map fun e => match e.key, e.val with
    | .str k _, .str v _ => some (k, e.hash, v)
    | _, _ => none) else none
  | _ => none
abbrev TabG : Type := Str × List (Str × Str)
abbrev AlG : Type := Bool × List He5.FnW × List (Option (List (Option (Str × Int × Str))))
def obsG (fa : List Fg) (fn : List DefG) (ts : List TabG) (K : PySem.W.Frag) : AlG := ((fa.all fun f => f.ok K) && ((fn.all fun d => d.a.ok K) && ts.all fun t => !(ga K t.1 == sysModules)), fn.map fun d => He5.fnA K (d.pl.at_ K), ts.map fun t => dicS K t.1)
def valG (fn : List DefG) (ts : List TabG) (w : World) : AlG := (true, fn.map fun d => d.a.val, ts.map fun t => some (t.2.map fun kv => some (kv.1, PyData.keyHash w.params kv.1, kv.2)))
def SaysG (fa : List Fg) (fn : List DefG) (ts : List TabG) (w : World) (K : PySem.W.Frag) : Prop := obsG fa fn ts K = valG fn ts w
/-! ### what the names reach, each object looked at once (the seen ones as bits of a number) -/
def addQ {β : Type} : List Addr → Nat → List Addr → (Nat → List Addr → β) → β
  | [], v, acc, k => k v acc
  | a :: r, v, acc, k => HandSHeadRun.frNat a fun a => match Nat.mod (Nat.shiftRight v a) 2 with
    | 0 => HandSHeadRun.frNat (Nat.lor v (Nat.shiftLeft 1 a)) fun v => addQ r v (a :: acc) k
    | _ + 1 => addQ r v acc k
def expQ {β : Type} (g : Addr → Option Obj) : List Addr → Nat → List Addr → (Nat → List Addr → β) → β
  | [], v, acc, k => k v acc
  | a :: r, v, acc, k => match g a with
    | some o => addQ (He.refsD o) v acc fun v acc => expQ g r v acc k
    | none => expQ g r v acc k
def lvQ (g : Addr → Option Obj) : Nat → List Addr → Nat → List Addr → List Addr
  | 0, fr, _, all => fr ++ all
  | n + 1, fr, v, all => expQ g fr v [] fun v fr' => lvQ g n fr' v (fr ++ all)
def asQ (g : Addr → Option Obj) (n : Nat) : List Addr := lvQ g n [mainGlobals] (Nat.shiftLeft 1 mainGlobals) [] ++ [cStatics]
def oexB (K : PySem.W.Frag) (C : Addr) : Bool := (match K.lookup C with
  | some ⟨.type t, _, .cls cd, sl⟩ => t == "type" && (match cd.mro, sl.toList with
    | .ref C' :: bm, [_, _, _, _, some (.builtin n), _] => C' == C && (n == "ValueError.__new__" && (!cd.hasDel && (cd.hasDict && PySem.HandSPX.refsVE bm)))
    | _, _ => false)
  | _ => false) && (eqO (PySem.W.findIn K (.ref C) "__setattr__") (some (some (.builtin "object.__setattr__"))) && (decide (PySem.W.subIn K (.ref C) (.type "BaseException") = some true) && (decide (PySem.W.typeIn K (.ref C) = some (.type "type")) && PySem.W.keepIn K (.ref C))))
abbrev FnE : Type := Option (Str × Str × Arguments × FuncBody × Scope × Addr × List Str × Addr)
def fnE (K : PySem.W.Frag) (c : Str) : FnE := match K.lookup (ma K (ga K c) "__init__") with
  | some ⟨_, _, .func fd, _⟩ => some (fd.name, fd.qualname, fd.params, fd.body, fd.scope, fd.globals, fd.closure.map (·.1), fd.builtins)
  | _ => none
structure ErrG where
  c : Str
  st : Stmt
def ErrG.val (e : ErrG) : FnE := some ("__init__", e.c ++ ".__init__", defArgs e.st, .stmts (defBody e.st), defScope e.st, mainGlobals, ["__class__"], builtinsNs)
def errB (K : PySem.W.Frag) (file c : Str) : Bool := (Fg.glo c).ok K && (oexB K (ga K c) && (eqO (PySem.W.findIn K (.ref (ga K c)) "__init__") (some (some (.ref (ma K (ga K c) "__init__")))) && (decide (PySem.W.typeIn K (.ref (ma K (ga K c) "__init__")) = some (.type "function")) &&
  (eqO (PySem.W.ks_superIn K (ga K c) (ga K c) "__init__") (some (some (.builtin "ValueError.__init__"))) && (decide (PySem.W.subIn K (.ref (ga K c)) (.type "ValueError") = some true) && (eqO (PySem.W.nsIn K cStatics "thirdparty.any") (some none) && (match K.lookup (ma K (ga K c) "__init__") with
    | some ⟨_, _, .func fd, _⟩ => (match fd.defaults with
      | .none => true
      | _ => false) && (match fd.code, fd.closure with
        | .ref cda, [(_, cc)] => PySem.W.codeIn K (.ref cda) fd.qualname && ((match K.lookup cda with
          | some ⟨_, _, .fields vs, _⟩ => (match (vs[2]? : Option Value) with
            | some (.str fl _) => file == fl
            | _ => false)
          | _ => false) && (match K.lookup cc with
            | some ⟨_, _, .cell (some (.ref C')), _⟩ => C' == ga K c
            | _ => false))
        | _, _ => false)
    | _ => false)))))))
abbrev AlH : Type := AlG × List FnE × Bool
def obsH (file : Str) (n : Nat) (fa : List Fg) (fn : List DefG) (ts : List TabG) (es : List ErrG) (tf : List He.Defn) (g : Addr → Option Obj) : AlH :=
  (obsG fa fn ts (He.frT g (asQ g n)), es.map fun e => fnE (He.frT g (asQ g n)) e.c, (es.all fun e => errB (He.frT g (asQ g n)) file e.c) && He.tabsB g tf (He.frT g (asQ g n)))
def valH (fn : List DefG) (ts : List TabG) (es : List ErrG) (w : World) : AlH := (valG fn ts w, es.map ErrG.val, true)
structure SaysH (file : Str) (fa : List Fg) (fn : List DefG) (ts : List TabG) (es : List ErrG) (tf : List He.Defn) (w : World) (h : Heap) (K : PySem.W.Frag) : Prop where
  g : SaysG fa fn ts w K
  e1 : (es.map fun e => fnE K e.c) = es.map ErrG.val
  e2 : (es.all fun e => errB K file e.c) = true
  hd : ∀ p ∈ tf, PySem.W.codeHdIn K (He.cT K p).1 (He.cT K p).2 = true
  out : ∀ p ∈ tf, K.lookup (He.cT K p).2 = none
  empty : ∀ p ∈ tf, h.get? (He.cT K p).2 = some { cls := .none, data := .fields #[] }
theorem saysH_of {file : Str} {n : Nat} {fa : List Fg} {fn : List DefG} {ts : List TabG} {es : List ErrG} {tf : List He.Defn} {w : World} {h : Heap} (e : obsH file n fa fn ts es tf h.get? = valH fn ts es w) : SaysH file fa fn ts es tf w h (He.frT h.get? (asQ h.get? n)) := by
  have e1 := congrArg (fun z : AlH => z.1) e
  have e2 := congrArg (fun z : AlH => z.2.1) e
  have e3 : ((es.all fun e => errB (He.frT h.get? (asQ h.get? n)) file e.c) && He.tabsB h.get? tf (He.frT h.get? (asQ h.get? n))) = true := congrArg (fun z : AlH => z.2.2) e
  obtain ⟨h1, h2⟩ := ba e3
  have key : ∀ p ∈ tf, PySem.W.codeHdIn (He.frT h.get? (asQ h.get? n)) (He.cT (He.frT h.get? (asQ h.get? n)) p).1 (He.cT (He.frT h.get? (asQ h.get? n)) p).2 = true ∧ ∃ o, h.get? (He.cT (He.frT h.get? (asQ h.get? n)) p).2 = some o ∧ He.emptyTab o = true := fun p hp => by
    obtain ⟨h3, h4⟩ := ba (List.all_eq_true.mp h2 p hp)
    refine ⟨h3, ?_⟩
    split at h4
    · rename_i o q
      exact ⟨o, q, h4⟩
    · cases h4
  refine ⟨e1, e2, h1, fun p hp => (key p hp).1, fun p hp => ?_, fun p hp => ?_⟩
  · obtain ⟨_, o, q, z⟩ := key p hp
    exact He.frT_none q z
  · obtain ⟨_, o, q, z⟩ := key p hp
    rw [q, He.emptyTab_eq z]
def hookH (file : Str) (n : Nat) (fa : List Fg) (fn : List DefG) (ts : List TabG) (es : List ErrG) (tf : List He.Defn) : PySem.W.Hook where
  α := AlH
  obs := fun s => obsH file n fa fn ts es tf s.heap.get?
  val := fun w => valH fn ts es w
  says := fun w h => ∃ K : PySem.W.Frag, K.In h ∧ SaysH file fa fn ts es tf w h K
  of := fun _ _ e => ⟨_, He.frT_in, saysH_of e⟩
  keeps := fun _ _ _ ⟨K, hK, c⟩ k => ⟨K, PySem.W.Frag.In.keeps hK k, ⟨c.g, c.e1, c.e2, c.hd, c.out, fun p hp => k _ _ (c.empty p hp)⟩⟩
theorem obsH_eq {file : Str} {n : Nat} {fa : List Fg} {fn : List DefG} {ts : List TabG} {es : List ErrG} {tf : List He.Defn} {g : Addr → Option Obj} {s : Shared} (h : ∀ a, g a = s.heap.get? a) : obsH file n fa fn ts es tf g = (hookH file n fa fn ts es tf).obs s := by
  have e : g = s.heap.get? := funext h
  rw [e] <;> rfl
/-! ### the same at the end of a run in pieces: the heap as a tree first -/
end GD
/-! GFB: the run of the top told by two looks, each a kernel run of its own (less memory at a time). -/
namespace GD
open PySem PySem.Spec PyProof.Rows L2 PySem.W HandSHeadRun
def Tells {α : Type} (r : OpenRow) (M : Nat) (w : World) (f : SharedT → α) (a : α) : Prop := ∀ os : OsState, (endF (stepQ (denQ tabQ) r.prog w) M r.prog w os).map f = some a
noncomputable def lookS (r : OpenRow) (q : Program) (loose : List PySem.Str) (w : World) (s : SharedT) := (looksF r.prog (boot_heap w.params) s.abs, seenQ q loose (importedModules r.prog.main.body) (fun s => xlAt q [] s && recOk r.toRowW.records s) s.abs)
def Look0 (r : OpenRow) (q : Program) (loose : List PySem.Str) (M : Nat) (w : World) : Prop := Tells r M w (lookS r q loose w) (true, openGood q loose)
def Look1 {α : Type} (r : OpenRow) (M : Nat) (w : World) (ob : SharedT → α) (a : α) : Prop := Tells r M w ob a
theorem run_two {r : OpenRow} {q : Program} {H : Hook} {ob : SharedT → H.α} {M : Nat} {loose : List PySem.Str} {w : World}
    (h0 : Look0 r q loose M w) (h1 : Look1 r M w ob (H.val w)) : RunEq r q H ob M loose w := by
  intro os
  replace h0 := h0 os
  replace h1 := h1 os
  generalize endF (stepQ (denQ tabQ) r.prog w) M r.prog w os = x at h0 h1 ⊢
  cases x with
  | none => cases h0
  | some s =>
    rw [Option.map_some] at h0 h1 ⊢
    replace h0 := Option.some.inj h0
    replace h1 := Option.some.inj h1
    unfold lookS at h0
    obtain ⟨a0, b0⟩ := Prod.mk.inj h0
    rw [a0, b0, h1]
end GD
namespace GD
open PySem PySem.Spec PyProof.Rows L2
def top (i : Nat) : Stmt := PySem.Challenge.pw_pileports_k08_words_as_values.main.body.getD i (.Pass ⟨0, 0, 0, 0⟩)
abbrev s_Word___eq__ : Stmt := inClass (top 29) 12
abbrev s_depth_of : Stmt := top 23
abbrev s_is_item : Stmt := top 21
abbrev s_is_move : Stmt := top 22
abbrev s_Word___init__ : Stmt := inClass (top 29) 2
abbrev s_Word___len__ : Stmt := inClass (top 29) 11
abbrev s_Word___repr__ : Stmt := inClass (top 29) 14
abbrev s_need_end_place : Stmt := top 13
abbrev s_place_text : Stmt := top 16
abbrev s_item_text : Stmt := top 24
abbrev s_written : Stmt := top 25
abbrev s_Word___str__ : Stmt := inClass (top 29) 13
abbrev s_Word_moves : Stmt := inClass (top 29) 5
abbrev s_Word_moves__M : Stmt := inClass (top 29) 5
abbrev s_Word_reach : Stmt := inClass (top 29) 4
abbrev s__law_bag : Stmt := top 31
abbrev s__law_pull : Stmt := top 32
abbrev s__law_of : Stmt := top 33
abbrev s__law_end : Stmt := top 37
abbrev s__law_move : Stmt := top 38
abbrev s__law_moves : Stmt := top 39
abbrev s__law_odd_moves : Stmt := top 42
abbrev s__law_depth : Stmt := top 40
abbrev s__law_reach : Stmt := top 41
abbrev s__law_same : Stmt := top 34
abbrev s__law_word_of : Stmt := top 43
abbrev s_law : Stmt := top 44
abbrev s__law_field : Stmt := top 35
abbrev s__law_try : Stmt := top 36
abbrev ats : List Str := ["code", "place", "at", "limit", "name", "number", "size", "rounds", "value", "row"]
abbrev PGM : Program := (PySem.Challenge.rw_pileports_k08_words_as_values).prog
abbrev s_err_BadMove : Stmt := inClass (top 5) 0
abbrev s_err_TooLong : Stmt := inClass (top 7) 0
abbrev s_err_BadPlace : Stmt := inClass (top 4) 0
def fcts_0 : List Fg := [.free "super", .noat "BadMove" "code", .noat "BadMove" "at", .noat "TooLong" "code", .noat "TooLong" "limit", .noat "BadPlace" "code", .noat "BadPlace" "place", .glo "_law_try", .glo "_law_field", .glo "PileError", .glo "Missing", .glo "BadMove", .xf "BadMove" ats, .exm "BadMove" "PileError" true, .glo "TooLong", .xf "TooLong" ats, .exm "TooLong" "PileError" true, .glo "BadPlace", .xf "BadPlace" ats, .exm "BadPlace" "PileError" true, .free "abs", .free "all", .free "bool", .free "dict", .free "enumerate", .free "int", .free "isinstance", .free "len", .free "list", .free "max"]
def fcts_1 : List Fg := [.free "range", .free "repr", .free "sorted", .free "str", .free "sum", .free "tuple", .free "zip", .int "MOST_BLOCK" (400), .int "MOST_DEPTH" (399), .glo "SHAPES", .glo "ENDS", .glo "Word", .cls "Word", .met "Word" "moves", .met "Word" "__repr__", .sf "Word", .fni "Word" "__repr__", .prp "Word" "reach", .met "Word" "__len__", .fni "Word" "__len__", .met "Word" "__eq__", .fni "Word" "__eq__", .new "Word", .met "Word" "__str__", .fni "Word" "__str__", .nbs "Word", .con "Word" "MOST_REACH" (60), .crd "Word", .cvl "Word" "MOST_REACH" (60), .cvl "Word" "MOST_MOVES" (40)]
def fcts_2 : List Fg := [.nb "Word", .isi "Word", .noat "Word" "steps", .con "Word" "MOST_MOVES" (40), .glo "depth_of", .glo "is_item", .glo "is_move", .glo "need_end_place", .glo "place_text", .glo "item_text", .glo "written", .glo "_law_bag", .glo "_law_pull", .glo "_law_of", .glo "_law_end", .glo "_law_move", .glo "_law_moves", .glo "_law_odd_moves", .glo "_law_depth", .glo "_law_reach", .glo "_law_same", .glo "_law_word_of", .glo "law"]
def fcts : List Fg := fcts_0 ++ fcts_1 ++ fcts_2
def fns_0 : List DefG := [⟨.g "_law_try", "_law_try", "_law_try", s__law_try, []⟩, ⟨.g "_law_field", "_law_field", "_law_field", s__law_field, []⟩, ⟨.m "Word" "moves", "moves", "Word.moves", s_Word_moves, []⟩, ⟨.m "Word" "__repr__", "__repr__", "Word.__repr__", s_Word___repr__, []⟩, ⟨.p "Word" "reach", "reach", "Word.reach", s_Word_reach, []⟩, ⟨.m "Word" "__len__", "__len__", "Word.__len__", s_Word___len__, []⟩, ⟨.m "Word" "__eq__", "__eq__", "Word.__eq__", s_Word___eq__, []⟩, ⟨.m "Word" "__init__", "__init__", "Word.__init__", s_Word___init__, []⟩, ⟨.m "Word" "__str__", "__str__", "Word.__str__", s_Word___str__, []⟩, ⟨.g "depth_of", "depth_of", "depth_of", s_depth_of, []⟩, ⟨.g "is_item", "is_item", "is_item", s_is_item, []⟩, ⟨.g "is_move", "is_move", "is_move", s_is_move, []⟩, ⟨.g "need_end_place", "need_end_place", "need_end_place", s_need_end_place, []⟩, ⟨.g "place_text", "place_text", "place_text", s_place_text, []⟩, ⟨.g "item_text", "item_text", "item_text", s_item_text, []⟩, ⟨.g "written", "written", "written", s_written, []⟩, ⟨.g "_law_bag", "_law_bag", "_law_bag", s__law_bag, []⟩, ⟨.g "_law_pull", "_law_pull", "_law_pull", s__law_pull, []⟩, ⟨.g "_law_of", "_law_of", "_law_of", s__law_of, []⟩, ⟨.g "_law_end", "_law_end", "_law_end", s__law_end, []⟩, ⟨.g "_law_move", "_law_move", "_law_move", s__law_move, []⟩, ⟨.g "_law_moves", "_law_moves", "_law_moves", s__law_moves, []⟩, ⟨.g "_law_odd_moves", "_law_odd_moves", "_law_odd_moves", s__law_odd_moves, []⟩, ⟨.g "_law_depth", "_law_depth", "_law_depth", s__law_depth, []⟩, ⟨.g "_law_reach", "_law_reach", "_law_reach", s__law_reach, []⟩, ⟨.g "_law_same", "_law_same", "_law_same", s__law_same, []⟩, ⟨.g "_law_word_of", "_law_word_of", "_law_word_of", s__law_word_of, []⟩, ⟨.g "law", "law", "law", s_law, []⟩]
def fns : List DefG := fns_0
def tbs_0 : List TabG := [("SHAPES", [("swap", "pp"), ("carry", "pp"), ("cut", "k"), ("turn", "eb"), ("over", ""), ("face", "p")]), ("ENDS", [("top", "t"), ("bottom", "b")])]
def tbs : List TabG := tbs_0
def ers_0 : List ErrG := [⟨"BadMove", s_err_BadMove⟩, ⟨"TooLong", s_err_TooLong⟩, ⟨"BadPlace", s_err_BadPlace⟩]
def ers : List ErrG := ers_0
def tfs : List He.Defn := [("law", none)]
def loose_0 : List PySem.Str := ["_wall", "__name__", "PileError", "Missing", "BadPlace", "BadMove", "BadText", "TooLong", "MOST_DEPTH", "MOST_DIGITS", "ENDS", "DIGITS", "need_end_place", "natural", "integer", "place_text", "place_in", "MOST_BLOCK", "SHAPES", "is_item", "is_move", "depth_of", "item_text", "written", "item_in", "move_in", "Word", "_law_bag", "_law_pull", "_law_of"]
def loose_1 : List PySem.Str := ["_law_same", "_law_field", "_law_try", "_law_end", "_law_move", "_law_moves", "_law_depth", "_law_reach", "_law_odd_moves", "_law_word_of"]
def loose : List PySem.Str := loose_0 ++ loose_1
abbrev hk : PySem.W.Hook := hookH PGM.main.file 5 fcts fns tbs ers tfs
abbrev RR : PySem.W.OpenRow := PySem.W.OpenLaw.row PySem.Challenge.rw_pileports_k08_words_as_values
def ob (s : PySem.W.SharedT) : AlH := obsH PGM.main.file 5 fcts fns tbs ers tfs (HandSHeadRun.getT s)
theorem ob_eq (s : PySem.W.SharedT) : ob s = hk.obs s.abs := obsH_eq (HandSHeadRun.getT_eq s)
set_option maxHeartbeats 0 in
theorem runF0 (w : World) : Look0 RR (PySem.W.view RR.prog [44]) loose 20000 (w.withFollow "special-get-raises" false) := fun os => by kernel_rfl
set_option maxHeartbeats 0 in
theorem runF1 (w : World) : Look1 RR 20000 (w.withFollow "special-get-raises" false) ob (hk.val (w.withFollow "special-get-raises" false)) := fun os => by kernel_rfl
theorem runF (w : World) : HandSHeadRun.RunEq RR (PySem.W.view RR.prog [44]) hk ob 20000 loose (w.withFollow "special-get-raises" false) := run_two (runF0 w) (runF1 w)
set_option maxHeartbeats 0 in
theorem runT0 (w : World) : Look0 RR (PySem.W.view RR.prog [44]) loose 20000 (w.withFollow "special-get-raises" true) := fun os => by kernel_rfl
set_option maxHeartbeats 0 in
theorem runT1 (w : World) : Look1 RR 20000 (w.withFollow "special-get-raises" true) ob (hk.val (w.withFollow "special-get-raises" true)) := fun os => by kernel_rfl
theorem runT (w : World) : HandSHeadRun.RunEq RR (PySem.W.view RR.prog [44]) hk ob 20000 loose (w.withFollow "special-get-raises" true) := run_two (runT0 w) (runT1 w)
theorem run (w : World) : HandSHeadRun.RunEq RR (PySem.W.view RR.prog [44]) hk ob 20000 loose w := PySem.W.byRow2 "special-get-raises" (P := fun w => HandSHeadRun.RunEq RR (PySem.W.view RR.prog [44]) hk ob 20000 loose w) runF runT w
end GD
/-! GD0: data, results, the mirrors' words. -/
namespace GD
open PySem
/-- the words of a lambda -/
structure LamF where
  qual : Str
  params : Arguments
  body : Expr
  scope : Scope
/-- the lambdas of a frame: its cells, the words of each -/
structure LamZ where
  C : List (Str × Addr)
  F : Nat → LamF
/-- an exception that is handled: its address, its class, its dict -/
structure XT where
  a : Addr
  C : Addr
  dd : Addr
/-- data: what is not changed any more -/
inductive D where
  | non | bl (b : Bool) | int (i : Int) | str (x : Str)
  | tup (xs : List D) | lst (xs : List D)
  /-- the script: a list that is never changed -/
  | fls (xs : List D)
  /-- an instance of the class with this global name: the names and values of its attributes -/
  | obj (c : Str) (ns : List Str) (vs : List D)
  /-- what a global name holds (a def, a class) -/
  | gl (x : Str)
  /-- a built-in class -/
  | ty (n : String)
  /-- the lambda i of the frame Z -/
  | lam (i : Nat) (Z : LamZ)
  /-- the exception that is handled: its attributes -/
  | xin (x : XT) (ns : List Str) (vs : List D)
  deriving Inhabited
/-- a value: data, or a changeable object by its number -/
inductive W where
  | d (x : D)
  | m (k : Nat)
  deriving Inhabited
/-- a changeable object -/
inductive MO where
  | lst (xs : List D)
  | ins (c : Str) (ns : List Str) (vs : List D)
  /-- what has become data meanwhile -/
  | dead
  /-- the table of a code object: the code objects of its lambdas bear the name q -/
  | tab (P : Addr) (q : Str)
  deriving Inhabited
abbrev Mem := List MO
inductive R (α : Type) where
  | ok (a : α) (m : Mem)
  | exc (c : Str) (ns : List Str) (vs : List D) (m : Mem)
  | bad
  deriving Inhabited
def R.bind {α β : Type} (r : R α) (k : α → Mem → R β) : R β :=
  match r with
  | .ok a m => k a m
  | .exc c ns vs m => .exc c ns vs m
  | .bad => .bad
@[simp] theorem R.bind_ok {α β : Type} (a : α) (m : Mem) (k : α → Mem → R β) : (R.ok a m).bind k = k a m := Eq.trans rfl rfl
@[simp] theorem R.bind_exc {α β : Type} (c ns vs) (m : Mem) (k : α → Mem → R β) : (R.exc c ns vs m : R α).bind k = .exc c ns vs m := Eq.trans rfl rfl
@[simp] theorem R.bind_bad {α β : Type} (k : α → Mem → R β) : (R.bad : R α).bind k = .bad := Eq.trans rfl rfl
/-- no error may leave -/
def noX {α : Type} (r : R α) : R α := match r with
  | .exc _ _ _ _ => .bad
  | r => r
abbrev Env := List (Option W)
/-- an expression, an argument list, a test -/
abbrev Ev := Env → Mem → R W
abbrev EvL := Env → Mem → R (List W)
abbrev EvT := Env → Mem → R Bool
/-- where a statement goes -/
inductive RS where
  | nx (ρ : Env) (m : Mem) | rt (w : W) (m : Mem) | bk (ρ : Env) (m : Mem) | ct (ρ : Env) (m : Mem)
  | xc (c : Str) (ns : List Str) (vs : List D) (ρ : Env) (m : Mem)
  | bad
  deriving Inhabited
def R.lift {α : Type} (r : R α) (ρ : Env) (k : α → Mem → RS) : RS := match r with
  | .ok a m => k a m
  | .exc c ns vs m => .xc c ns vs ρ m
  | .bad => .bad
@[simp] theorem R.lift_ok {α : Type} (a : α) (m : Mem) (ρ : Env) (k : α → Mem → RS) : (R.ok a m).lift ρ k = k a m := Eq.trans rfl rfl
@[simp] theorem R.lift_exc {α : Type} (c ns vs) (m : Mem) (ρ : Env) (k : α → Mem → RS) : (R.exc c ns vs m : R α).lift ρ k = .xc c ns vs ρ m := Eq.trans rfl rfl
@[simp] theorem R.lift_bad {α : Type} (ρ : Env) (k : α → Mem → RS) : (R.bad : R α).lift ρ k = .bad := Eq.trans rfl rfl
abbrev Ex := Env → Mem → RS
/-- a def -/
abbrev Fn := List W → Mem → R W
/-! ### data -/
mutual
def D.py : D → Option PyData
  | .non => some .none
  | .bl b => some (.bool b)
  | .int i => some (.int i)
  | .str x => some (.str x)
  | .tup xs => (D.pyL xs).map .tuple
  | .lst xs => (D.pyL xs).map .list
  | .fls _ | .obj _ _ _ | .gl _ | .ty _ | .lam _ _ | .xin _ _ _ => none
def D.pyL : List D → Option (List PyData)
  | [] => some []
  | x :: xs => match D.py x, D.pyL xs with
    | some a, some b => some (a :: b)
    | _, _ => none
end
/-! ### expressions -/
def fVar (i : Nat) : Ev := fun ρ m => match ρ[i]? with
  | some (some w) => .ok w m
  | _ => .bad
def fC (x : D) : Ev := fun _ m => .ok (.d x) m
def fNil : EvL := fun _ m => .ok [] m
def fCons (a : Ev) (b : EvL) : EvL := fun ρ m => (a ρ m).bind fun x m => (b ρ m).bind fun xs m => .ok (x :: xs) m
/-- the data of values -/
def dats : List W → Option (List D)
  | [] => some []
  | .d x :: ws => (dats ws).map (x :: ·)
  | .m _ :: _ => none
def fTup (a : EvL) : Ev := fun ρ m => (a ρ m).bind fun ws m => match dats ws with
  | some xs => if xs.length ≤ 100000 then .ok (.d (.tup xs)) m else .bad
  | none => .bad
/-- a list that nobody changes; one that may be changed -/
def fLst (a : EvL) : Ev := fun ρ m => (a ρ m).bind fun ws m => match dats ws with
  | some xs => if xs.length ≤ 100000 then .ok (.d (.lst xs)) m else .bad
  | none => .bad
def fLstM (a : EvL) : Ev := fun ρ m => (a ρ m).bind fun ws m => match dats ws with
  | some xs => if xs.length ≤ 100000 then .ok (.m m.length) (m ++ [.lst xs]) else .bad
  | none => .bad
/-- a two-place operation; a one-place one -/
abbrev O2 := W → W → Mem → R W
abbrev O1 := W → Mem → R W
def fOp (o : O2) (a b : Ev) : Ev := fun ρ m => (a ρ m).bind fun x m => (b ρ m).bind fun y m => o x y m
def fUn (o : O1) (a : Ev) : Ev := fun ρ m => (a ρ m).bind fun x m => o x m
/-! ### tests -/
def truth : W → Mem → Option Bool
  | .d .non, _ => some false
  | .d (.bl b), _ => some b
  | .d (.int i), _ => some (i != 0)
  | .d (.lst xs), _ => some (!xs.isEmpty)
  | .d (.tup xs), _ => some (!xs.isEmpty)
  | .d (.str x), _ => if x.length ≤ 100000 then some (x.length != 0) else none
  | _, _ => none
def gTest (a : Ev) : EvT := fun ρ m => (a ρ m).bind fun x m => match truth x m with
  | some b => .ok b m
  | none => .bad
/-- a comparison as a test: its answer is a truth value -/
def gBool (a : Ev) : EvT := fun ρ m => (a ρ m).bind fun x m => match x with
  | .d (.bl b) => .ok b m
  | _ => .bad
def gAnd (a b : EvT) : EvT := fun ρ m => (a ρ m).bind fun x m => if x then b ρ m else .ok false m
def gOr (a b : EvT) : EvT := fun ρ m => (a ρ m).bind fun x m => if x then .ok true m else b ρ m
def gNot (a : EvT) : EvT := fun ρ m => (a ρ m).bind fun x m => .ok (!x) m
def fIf (t : EvT) (a b : Ev) : Ev := fun ρ m => (t ρ m).bind fun x m => if x then a ρ m else b ρ m
/-- a and b, a or b, not a as values, the first one a truth value -/
def fAnd (a b : Ev) : Ev := fun ρ m => (a ρ m).bind fun x m => match x with
  | .d (.bl true) => b ρ m
  | .d (.bl false) => .ok (.d (.bl false)) m
  | _ => .bad
def fOr (a b : Ev) : Ev := fun ρ m => (a ρ m).bind fun x m => match x with
  | .d (.bl true) => .ok (.d (.bl true)) m
  | .d (.bl false) => b ρ m
  | _ => .bad
def fNot (a : Ev) : Ev := fun ρ m => (a ρ m).bind fun x m => match x with
  | .d (.bl b) => .ok (.d (.bl (!b))) m
  | _ => .bad
/-! ### statements -/
def sNext : Ex := fun ρ m => .nx ρ m
def sSeq (a b : Ex) : Ex := fun ρ m => match a ρ m with
  | .nx ρ m => b ρ m
  | r => r
def sIf (t : EvT) (a b : Ex) : Ex := fun ρ m => (t ρ m).lift ρ fun x m => if x then a ρ m else b ρ m
def sDrop (a : Ev) : Ex := fun ρ m => (a ρ m).lift ρ fun _ m => .nx ρ m
def sRet (a : Ev) : Ex := fun ρ m => (a ρ m).lift ρ fun w m => .rt w m
/-- a target -/
abbrev Tg := W → Env → Mem → R (Env)
abbrev TgL := List W → Env → Mem → R (Env)
def tgName (i : Nat) : Tg := fun w ρ m => .ok (ρ.set i (some w)) m
def tgNil : TgL := fun ws ρ m => match ws with
  | [] => .ok ρ m
  | _ => .bad
def tgCons (a : Tg) (b : TgL) : TgL := fun ws ρ m => match ws with
  | [] => .bad
  | w :: ws => (a w ρ m).bind fun ρ m => b ws ρ m
def tgTup (n : Nat) (a : TgL) : Tg := fun w ρ m => match w with
  | .d (.tup xs) => if xs.length = n then a (xs.map .d) ρ m else .bad
  | _ => .bad
def sAsg (a : Ev) (g : Tg) : Ex := fun ρ m => (a ρ m).lift ρ fun w m => (noX (g w ρ m)).lift ρ fun ρ m => .nx ρ m
def sPar (i j : Nat) (a : EvL) : Ex := fun ρ m => (a ρ m).lift ρ fun ws m => match ws with
  | [x, y] => .nx ((ρ.set i (some x)).set j (some y)) m
  | _ => .bad
/-- a loop over items -/
def loop (g : Tg) (b : Ex) : List W → Ex
  | [] => fun ρ m => .nx ρ m
  | w :: ws => fun ρ m => (noX (g w ρ m)).lift ρ fun ρ m => match b ρ m with
    | .nx ρ m => loop g b ws ρ m
    | .ct ρ m => loop g b ws ρ m
    | .bk ρ m => .nx ρ m
    | r => r
def sFor (it : EvL) (g : Tg) (b : Ex) : Ex := fun ρ m => (it ρ m).lift ρ fun ws m => loop g b ws ρ m
/-- a while of at most n turns -/
def whl (t : EvT) (b : Ex) : Nat → Ex
  | 0 => fun _ _ => .bad
  | n + 1 => fun ρ m => (t ρ m).lift ρ fun x m => if x then (match b ρ m with
    | .nx ρ m => whl t b n ρ m
    | .ct ρ m => whl t b n ρ m
    | .bk ρ m => .nx ρ m
    | r => r) else .nx ρ m
def sWhile (fuel : Env → Mem → Nat) (t : EvT) (b : Ex) : Ex := fun ρ m => whl t b (fuel ρ m) ρ m
/-- behind the statement the list in slot i is not changed any more -/
def sFrz (i : Nat) (f : Ex) : Ex := fun ρ m => match f ρ m with
  | .nx ρ' m' => match ρ'[i]? with
    | some (some (.m k)) => match m'[k]? with
      | some (.lst xs) => .nx (ρ'.set i (some (.d (.lst xs)))) (m'.set k .dead)
      | _ => .bad
    | _ => .bad
  | r => r
/-! ### comprehensions -/
/-- vs: the slots of the comprehension's own names -/
def wipeE (ρ : Env) : List Nat → Env
  | [] => ρ
  | v :: vs => (wipeE ρ vs).set v none
def lcs (g : Tg) (t : EvT) (e : Ev) (ρ : Env) : List W → List D → Mem → R (List D)
  | [], acc, m => .ok acc m
  | w :: ws, acc, m => (g w ρ m).bind fun ρ' m => (t ρ' m).bind fun b m => if b then (e ρ' m).bind fun x m => match x with
      | .d x => if acc.length < 100000 then lcs g t e ρ ws (acc ++ [x]) m else .bad
      | .m _ => .bad
    else lcs g t e ρ ws acc m
def gYes : EvT := fun _ m => .ok true m
def fLc (it : EvL) (g : Tg) (t : EvT) (e : Ev) (vs : List Nat) : Ev := fun ρ m => (it ρ m).bind fun ws m => (noX (lcs g t e (wipeE ρ vs) ws [] m)).bind fun xs m => .ok (.d (.lst xs)) m
def fLcM (it : EvL) (g : Tg) (t : EvT) (e : Ev) (vs : List Nat) : Ev := fun ρ m => (it ρ m).bind fun ws m => (noX (lcs g t e (wipeE ρ vs) ws [] m)).bind fun xs m => .ok (.m m.length) (m ++ [.lst xs])
/-! ### defs -/
/-- how a def is left: what it made itself becomes data (or, mu, stays changeable) -/
def leave (mu : Bool) (n : Nat) (w : W) (m : Mem) : R W := match w with
  | .d x => .ok (.d x) (m.take n)
  | .m k => if k < n then .ok (.m k) (m.take n) else match m[k]? with
    | some (.lst xs) => if mu then .ok (.m n) (m.take n ++ [.lst xs]) else .ok (.d (.lst xs)) (m.take n)
    | _ => .bad
/-- np parameters, N names -/
def fnOf (mu : Bool) (np N : Nat) (b : Ex) : Fn := fun ws m => if ws.length = np then (match b (ws.map some ++ List.replicate (N - ws.length) none) m with
  | .nx _ m' => leave mu m.length (.d .non) m'
  | .rt w m' => leave mu m.length w m'
  | .xc c ns vs _ m' => .exc c ns vs (m'.take m.length)
  | _ => .bad) else .bad
/-- def f(a, .., *v): np parameters ahead of the star -/
def fnStar (np : Nat) (f : Fn) : Fn := fun ws m => if np ≤ ws.length then (match dats (ws.drop np) with
  | some xs => if xs.length ≤ 100000 then f (ws.take np ++ [.d (.tup xs)]) m else .bad
  | none => .bad) else .bad
def fCall (f : Fn) (a : EvL) : Ev := fun ρ m => (a ρ m).bind fun ws m => f ws m
/-- f(e, .., k = v, ..): g puts the keywords' values in their places -/
def fCallK (f : Fn) (g : List W → List W → List W) (a b : EvL) : Ev := fun ρ m => (a ρ m).bind fun ws m => (b ρ m).bind fun zs m => f (g ws zs) m
end GD
/-! GD1: what represents what; the readings. -/
namespace GD
open PySem PySem.Spec PyProof.Rows L2
/-- the function of a lambda -/
abbrev lamFn (F : LamF) (cl : List (Str × Addr)) (dV pm cdv ct : Value) : FuncData :=
  { name := "<lambda>", qualname := F.qual, params := F.params, body := .expr F.body, scope := F.scope, globals := mainGlobals, closure := cl, defaults := dV, kwdefaults := .none, doc := .none, pyModule := pm, annotations := none, code := cdv, closureTuple := ct, builtins := builtinsNs }
/-- at f: the lambda F made in a frame with the cells C, its code object at c, its defaults dV -/
def LamO (f : Addr) (F : LamF) (C : List (Str × Addr)) (c : Addr) (dV : Value) : HO := .ext fun h => ∃ (od : Option Addr) (sl : Array (Option Value)) (pm ctv : Value), h.get? f = some (⟨.type "function", od, .func (lamFn F (cloFrom C F.scope.names []) dV pm (.ref c) ctv), sl⟩ : Obj)
/-- the default values: none, or one int -/
def DflO (H : Hp) (F : LamF) (dV : Value) : Prop := (F.params.defaults = [] ∧ dV = .none) ∨ (F.params.defaults ≠ [] ∧ ∃ (T : Addr) (i : Int), dV = .ref T ∧ H T = some (.tup [.int i]))
theorem DflO.mono {H H' : Hp} {F : LamF} {dV : Value} (e : Same H H') (h : DflO H F dV) : DflO H' F dV := h.elim .inl fun ⟨h0, T, i, h1, h2⟩ => .inr ⟨h0, T, i, h1, e _ _ h2⟩
/-- a table of code objects that stand in Hi -/
def TabI (Hi H : Hp) (P : Addr) (q : Str) : Prop := ∃ ps : Array Value, H P = some (.tbl ps) ∧ TriplesOk ps.toList ∧ ∀ (pos : Pos) (cv : Value), codeAmong pos ps.toList = some cv → ∃ c, cv = .ref c ∧ Hi c = some (LamX.CodeO c q)
section
variable (K : PySem.W.Frag) (mg : Str → Option Value)
mutual
inductive Rep : Hp → V → D → Prop
  | non {H} : Rep H .non .non
  | bl {H} (b : Bool) : Rep H (.bl b) (.bl b)
  | int {H} (i : Int) : Rep H (.int i) (.int i)
  | str {H} (x : Str) : Rep H (.str x) (.str x)
  | tup {H} {a : Addr} {vs : List V} {ds : List D} : SqT K H a vs → RepL H vs ds → Rep H (.ref a) (.tup ds)
  | lst {H} {a : Addr} {vs : List V} {ds : List D} : H a = some (.lst vs) → RepL H vs ds → Rep H (.ref a) (.lst ds)
  | fls {H} {a : Addr} {vs : List V} {ds : List D} : SqL K H a vs → RepL H vs ds → Rep H (.ref a) (.fls ds)
  | obj {H} {a C dx : Addr} {c : Str} {ns : List Str} {vs : List V} {ds : List D} : mg c = some (.ref C) → H a = some (.ins C dx (ns.zip vs)) → H dx = some (.own a) → ns.length = vs.length → RepL H vs ds → Rep H (.ref a) (.obj c ns ds)
  | gl {H} {x : Str} {u : Value} {v : V} : mg x = some u → RelV v u → Rep H v (.gl x)
  | ty {H} (n : String) : Rep H (.ty n) (.ty n)
  | lam {H} {f c : Addr} {dV : Value} {i : Nat} {Z : LamZ} : H f = some (LamO f (Z.F i) Z.C c dV) → H c = some (LamX.CodeO c (Z.F i).qual) → DflO H (Z.F i) dV → Rep H (.ref f) (.lam i Z)
  | xin {H} {x : XT} {ns : List Str} {fs : List V} {ds : List D} : H x.dd = some (.xd (ns.zip fs)) → ns.length = fs.length → RepL H fs ds → Rep H (.ref x.a) (.xin x ns ds)
inductive RepL : Hp → List V → List D → Prop
  | nil {H} : RepL H [] []
  | cons {H} {v : V} {vs : List V} {d : D} {ds : List D} : Rep H v d → RepL H vs ds → RepL H (v :: vs) (d :: ds)
end
end
section
variable {K : PySem.W.Frag} {mg : Str → Option Value}
theorem rd_mono {H H' : Hp} {a : Addr} {u : HO} (e : Same H H') (h : Rd H a u) : Rd H' a u := by
  rcases h with h | ⟨o, h⟩
  · exact Or.inl (e a _ h)
  · exact Or.inr ⟨o, e a _ h⟩
theorem sqT_mono {H H' : Hp} {a : Addr} {xs : List V} (e : Same H H') (h : SqT K H a xs) : SqT K H' a xs := by
  rcases h with h | h
  · exact Or.inl (rd_mono e h)
  · exact Or.inr h
theorem sqL_mono {H H' : Hp} {a : Addr} {xs : List V} (e : Same H H') (h : SqL K H a xs) : SqL K H' a xs := by
  rcases h with h | h
  · exact Or.inl (rd_mono e h)
  · exact Or.inr h
mutual
theorem Rep.mono {H H' : Hp} (e : Same H H') : ∀ {v : V} {d : D}, Rep K mg H v d → Rep K mg H' v d
  | _, _, .non => .non
  | _, _, .bl b => .bl b
  | _, _, .int b => .int b
  | _, _, .str b => .str b
  | _, _, .tup s r => .tup (sqT_mono e s) (RepL.mono e r)
  | _, _, .lst s r => .lst (e _ _ s) (RepL.mono e r)
  | _, _, .fls s r => .fls (sqL_mono e s) (RepL.mono e r)
  | _, _, .obj c h1 h2 l r => .obj c (e _ _ h1) (e _ _ h2) l (RepL.mono e r)
  | _, _, .gl a b => .gl a b
  | _, _, .ty n => .ty n
  | _, _, .lam a b c => .lam (e _ _ a) (e _ _ b) (c.mono e)
  | _, _, .xin a b c => .xin (e _ _ a) b (RepL.mono e c)
theorem RepL.mono {H H' : Hp} (e : Same H H') : ∀ {vs : List V} {ds : List D}, RepL K mg H vs ds → RepL K mg H' vs ds
  | _, _, .nil => .nil
  | _, _, .cons a b => .cons (Rep.mono e a) (RepL.mono e b)
end
theorem RepL.length {H : Hp} : ∀ {vs : List V} {ds : List D}, RepL K mg H vs ds → vs.length = ds.length
  | _, _, .nil => rfl
  | _, _, .cons _ b => by rw [List.length_cons, List.length_cons, RepL.length b]
theorem RepL.get {H : Hp} : ∀ {vs : List V} {ds : List D} {i : Nat} {d : D}, RepL K mg H vs ds → ds[i]? = some d → ∃ v, vs[i]? = some v ∧ Rep K mg H v d
  | _, _, _, _, .nil, h => by simp at h
  | _, _, 0, _, .cons (v := v) a b, h => ⟨v, rfl, by simp at h; subst h; exact a⟩
  | _, _, i + 1, _, .cons a b, h => by
    obtain ⟨v, h1, h2⟩ := RepL.get (i := i) b (by simpa using h)
    exact ⟨v, by simpa using h1, h2⟩
theorem RepL.append {H : Hp} : ∀ {vs ws : List V} {ds es : List D}, RepL K mg H vs ds → RepL K mg H ws es → RepL K mg H (vs ++ ws) (ds ++ es)
  | _, _, _, _, .nil, h => h
  | _, _, _, _, .cons a b, h => .cons a (RepL.append b h)
theorem RepL.one {H : Hp} {v : V} {d : D} (h : Rep K mg H v d) : RepL K mg H [v] [d] := .cons h .nil
mutual
theorem Rep.dp {H : Hp} : ∀ {v : V} {d : D} {p : PyData}, Rep K mg H v d → d.py = some p → Dp K H v p
  | _, _, _, .non, h => by simp only [D.py, Option.some.injEq] at h; subst h; exact .non
  | _, _, _, .bl b, h => by simp only [D.py, Option.some.injEq] at h; subst h; exact .bl b
  | _, _, _, .int b, h => by simp only [D.py, Option.some.injEq] at h; subst h; exact .int b
  | _, _, _, .str b, h => by simp only [D.py, Option.some.injEq] at h; subst h; exact .str b
  | _, _, _, .tup s r, h => by
    simp only [D.py, Option.map_eq_some_iff] at h
    obtain ⟨ps, h1, h2⟩ := h
    subst h2
    exact .tup s (RepL.dp r h1)
  | _, _, _, .lst s r, h => by
    simp only [D.py, Option.map_eq_some_iff] at h
    obtain ⟨ps, h1, h2⟩ := h
    subst h2
    exact .lst (.inl (.inl s)) (RepL.dp r h1)
  | _, _, _, .fls _ _, h => by simp [D.py] at h
  | _, _, _, .obj _ _ _ _ _, h => by simp [D.py] at h
  | _, _, _, .gl _ _, h => by simp [D.py] at h
  | _, _, _, .ty _, h => by simp [D.py] at h
  | _, _, _, .lam _ _ _, h => by simp [D.py] at h
  | _, _, _, .xin _ _ _, h => by simp [D.py] at h
theorem RepL.dp {H : Hp} : ∀ {vs : List V} {ds : List D} {ps : List PyData}, RepL K mg H vs ds → D.pyL ds = some ps → DpAll K H vs ps
  | _, _, _, .nil, h => by simp only [D.pyL, Option.some.injEq] at h; subst h; exact .nil
  | _, _, _, .cons a b, h => by
    unfold D.pyL at h
    split at h
    · rename_i x y h1 h2
      cases h
      exact .cons (Rep.dp a h1) (RepL.dp b h2)
    · cases h
end
end
/-! ### the state -/
section
variable (K : PySem.W.Frag) (mg : Str → Option Value)
def RepW (Hi : Hp) (ι : List Addr) (v : V) : W → Prop
  | .d x => Rep K mg Hi v x
  | .m k => ∃ a, ι[k]? = some a ∧ v = .ref a
inductive RepWs (Hi : Hp) (ι : List Addr) : List V → List W → Prop
  | nil : RepWs Hi ι [] []
  | cons {v : V} {vs : List V} {w : W} {ws : List W} : RepW K mg Hi ι v w → RepWs Hi ι vs ws → RepWs Hi ι (v :: vs) (w :: ws)
def RepO (Hi : Hp) (H : Hp) (a : Addr) : MO → Prop
  | .lst xs => ∃ vs, H a = some (.lst vs) ∧ RepL K mg Hi vs xs
  | .ins c ns xs => ∃ C dx vs, mg c = some (.ref C) ∧ H a = some (.ins C dx (ns.zip vs)) ∧ Hi dx = some (.own a) ∧ ns.length = vs.length ∧ RepL K mg Hi vs xs
  | .dead => ∃ o, H a = some o
  | .tab P q => a = P ∧ TabI Hi H P q
/-- Hi: what is not changed any more; ι: where the changeable objects m stand -/
structure Mok (Hi : Hp) (ι : List Addr) (m : Mem) (H : Hp) : Prop where
  sub : Same Hi H
  len : ι.length = m.length
  nd : ι.Nodup
  free : ∀ (k : Nat) (mo : MO) (a : Addr), m[k]? = some mo → ι[k]? = some a → mo ≠ .dead → Hi a = none
  obj : ∀ (k : Nat) (mo : MO) (a : Addr), m[k]? = some mo → ι[k]? = some a → RepO K mg Hi H a mo
def RepS (Hi : Hp) (ι : List Addr) (ρ : Env) (σ : L2.St) : Prop := ρ.length = σ.length ∧ ∀ (i : Nat) (w : W), ρ[i]? = some (some w) → ∃ v, σ[i]? = some (some v) ∧ RepW K mg Hi ι v w
structure Rel (Hi : Hp) (ι : List Addr) (ρ : Env) (m : Mem) (σ : L2.St) (H : Hp) : Prop where
  mok : Mok K mg Hi ι m H
  slots : RepS K mg Hi ι ρ σ
end
structure Step (Hi : Hp) (ι : List Addr) (H : Hp) (Hi' : Hp) (ι' : List Addr) (H' : Hp) : Prop where
  imm : Same Hi Hi'
  pre : ι <+: ι'
  frm : ∀ a o, H a = some o → a ∉ ι → H' a = some o
  new : ∀ a ∈ ι', a ∉ ι → H a = none
  live : ∀ a, H' a = none → H a = none
  inew : ∀ a, a ∉ ι → Hi a = none → H a ≠ none → Hi' a = none
theorem upd_live {H : Hp} {p a : Addr} {o : HO} (h : upd H p o a = none) : H a = none := by
  by_cases e : a = p
  · subst e; rw [upd_same] at h; cases h
  · rw [upd_ne e] at h; exact h
section
variable {K : PySem.W.Frag} {mg : Str → Option Value} {Hi Hi' Hi2 H H' H2 : Hp} {ι ι' ι2 : List Addr} {ρ ρ' : Env} {m m' : Mem} {σ σ' : L2.St}
theorem Step.refl : Step Hi ι H Hi ι H := ⟨Same.refl _, List.prefix_refl _, fun _ _ h _ => h, fun _ h1 h2 => absurd h1 h2, fun _ h => h, fun _ _ h _ => h⟩
theorem Step.trans (a : Step Hi ι H Hi' ι' H') (b : Step Hi' ι' H' Hi2 ι2 H2) : Step Hi ι H Hi2 ι2 H2 := by
  refine ⟨a.imm.trans b.imm, a.pre.trans b.pre, fun x o h hn => ?_, fun x h1 h2 => ?_, fun x h => a.live x (b.live x h), fun x h0 h1 h2 => b.inew x (fun h3 => h2 (a.new x h3 h0)) (a.inew x h0 h1 h2) fun q => h2 (a.live x q)⟩
  · refine b.frm x o (a.frm x o h hn) fun h3 => ?_
    rw [a.new x h3 hn] at h
    cases h
  · by_cases h3 : x ∈ ι'
    · exact a.new x h3 h2
    · cases e : H x with
      | none => rfl
      | some o =>
        have e1 := a.frm x o e h2
        rw [b.new x h1 h3] at e1
        cases e1
theorem RepW.mono (e : Same Hi Hi') (p : ι <+: ι') : ∀ {v : V} {w : W}, RepW K mg Hi ι v w → RepW K mg Hi' ι' v w
  | _, .d x, h => Rep.mono e h
  | _, .m k, ⟨a, h1, h2⟩ => ⟨a, by
    obtain ⟨t, rfl⟩ := p
    rw [List.getElem?_append_left (List.getElem?_eq_some_iff.mp h1).1]
    exact h1, h2⟩
theorem RepW.step (s : Step Hi ι H Hi' ι' H') {v : V} {w : W} (h : RepW K mg Hi ι v w) : RepW K mg Hi' ι' v w := h.mono s.imm s.pre
theorem RepWs.step (s : Step Hi ι H Hi' ι' H') : ∀ {vs : List V} {ws : List W}, RepWs K mg Hi ι vs ws → RepWs K mg Hi' ι' vs ws
  | _, _, .nil => .nil
  | _, _, .cons a b => .cons (a.step s) (b.step s)
theorem RepWs.length : ∀ {vs : List V} {ws : List W}, RepWs K mg Hi ι vs ws → vs.length = ws.length
  | _, _, .nil => rfl
  | _, _, .cons _ b => by rw [List.length_cons, List.length_cons, RepWs.length b]
theorem RepWs.get : ∀ {vs : List V} {ws : List W} {i : Nat} {w : W}, RepWs K mg Hi ι vs ws → ws[i]? = some w → ∃ v, vs[i]? = some v ∧ RepW K mg Hi ι v w
  | _, _, _, _, .nil, h => by simp at h
  | _, _, 0, _, .cons (v := v) a b, h => ⟨v, rfl, by simp at h; subst h; exact a⟩
  | _, _, i + 1, _, .cons a b, h => by
    obtain ⟨v, h1, h2⟩ := RepWs.get (i := i) b (by simpa using h)
    exact ⟨v, by simpa using h1, h2⟩
theorem RepWs.drop : ∀ {vs : List V} {ws : List W} (n : Nat), RepWs K mg Hi ι vs ws → RepWs K mg Hi ι (vs.drop n) (ws.drop n)
  | _, _, 0, r => r
  | _, _, _ + 1, .nil => .nil
  | _, _, n + 1, .cons _ t => RepWs.drop n t
theorem RepWs.take : ∀ {vs : List V} {ws : List W} (n : Nat), RepWs K mg Hi ι vs ws → RepWs K mg Hi ι (vs.take n) (ws.take n)
  | _, _, 0, _ => .nil
  | _, _, _ + 1, .nil => .nil
  | _, _, n + 1, .cons r t => .cons r (RepWs.take n t)
theorem RepWs.dats : ∀ {vs : List V} {ws : List W} {xs : List D}, RepWs K mg Hi ι vs ws → dats ws = some xs → RepL K mg Hi vs xs
  | _, _, _, .nil, h => by simp only [GD.dats, Option.some.injEq] at h; subst h; exact .nil
  | _, _, xs, .cons (w := .d x) a b, h => by
    simp only [GD.dats, Option.map_eq_some_iff] at h
    obtain ⟨ys, h1, h2⟩ := h
    subst h2
    exact .cons a (RepWs.dats b h1)
  | _, _, _, .cons (w := .m x) a b, h => by simp [GD.dats] at h
theorem RepL.ws {Hi : Hp} {ι : List Addr} : ∀ {vs : List V} {ds : List D}, RepL K mg Hi vs ds → RepWs K mg Hi ι vs (ds.map .d)
  | _, _, .nil => .nil
  | _, _, .cons a b => .cons a (RepL.ws b)
theorem RepS.step (s : Step Hi ι H Hi' ι' H') (h : RepS K mg Hi ι ρ σ) : RepS K mg Hi' ι' ρ σ := ⟨h.1, fun i w e => by
  obtain ⟨v, h1, h2⟩ := h.2 i w e
  exact ⟨v, h1, h2.step s⟩⟩
theorem RepS.set (h : RepS K mg Hi ι ρ σ) {v : V} {w : W} (i : Nat) (r : RepW K mg Hi ι v w) : RepS K mg Hi ι (ρ.set i (some w)) (σ.set i (some v)) := by
  refine ⟨by rw [List.length_set, List.length_set]; exact h.1, fun j w' e => ?_⟩
  by_cases hj : i = j
  · subst hj
    by_cases hl : i < ρ.length
    · rw [List.getElem?_set_self hl] at e
      cases e
      exact ⟨v, List.getElem?_set_self (by rw [← h.1]; exact hl), r⟩
    · rw [List.getElem?_eq_none (by rw [List.length_set]; omega)] at e
      cases e
  · rw [List.getElem?_set_ne hj] at e
    obtain ⟨v', h1, h2⟩ := h.2 j w' e
    exact ⟨v', by rw [List.getElem?_set_ne hj]; exact h1, h2⟩
theorem RepS.forget (h : RepS K mg Hi ι ρ σ) (i : Nat) : RepS K mg Hi ι (ρ.set i none) (σ.set i none) := by
  refine ⟨by rw [List.length_set, List.length_set]; exact h.1, fun j w' e => ?_⟩
  by_cases hj : i = j
  · subst hj
    by_cases hl : i < ρ.length
    · rw [List.getElem?_set_self hl] at e
      cases e
    · rw [List.getElem?_eq_none (by rw [List.length_set]; omega)] at e
      cases e
  · rw [List.getElem?_set_ne hj] at e
    obtain ⟨v', h1, h2⟩ := h.2 j w' e
    exact ⟨v', by rw [List.getElem?_set_ne hj]; exact h1, h2⟩
theorem RepS.wipe (h : RepS K mg Hi ι ρ σ) : ∀ vs : List Nat, RepS K mg Hi ι (wipeE ρ vs) (L2.wipe σ vs)
  | [] => h
  | v :: vs => by
    unfold wipeE L2.wipe
    exact RepS.forget (RepS.wipe h vs) v
/-! ### objects made and changed -/
theorem Mok.live (M : Mok K mg Hi ι m H) {a : Addr} (h : a ∈ ι) : ∃ o, H a = some o := by
  obtain ⟨k, hk⟩ := List.getElem?_of_mem h
  have hl : k < m.length := by rw [← M.len]; exact (List.getElem?_eq_some_iff.mp hk).1
  have q := M.obj k m[k] a (by simp [hl]) hk
  cases e : m[k] with
  | lst xs => rw [e] at q; obtain ⟨vs, q, _⟩ := q; exact ⟨_, q⟩
  | ins c ns xs => rw [e] at q; obtain ⟨C, dx, vs, _, q, _⟩ := q; exact ⟨_, q⟩
  | dead => rw [e] at q; exact q
  | tab P q' => rw [e] at q; obtain ⟨rfl, ps, q, _⟩ := q; exact ⟨_, q⟩
theorem RepO.mono {a : Addr} {mo : MO} (e : Same Hi Hi') (h : RepO K mg Hi H a mo) (eh : H' a = H a) : RepO K mg Hi' H' a mo := by
  cases mo with
  | lst xs => obtain ⟨vs, h1, h2⟩ := h; exact ⟨vs, by rw [eh]; exact h1, h2.mono e⟩
  | ins c ns xs => obtain ⟨C, dx, vs, h0, h1, h2, h3, h4⟩ := h; exact ⟨C, dx, vs, h0, by rw [eh]; exact h1, e _ _ h2, h3, h4.mono e⟩
  | dead => obtain ⟨o, h⟩ := h; exact ⟨o, by rw [eh]; exact h⟩
  | tab P q =>
    obtain ⟨rfl, ps, h1, h2, h3⟩ := h
    refine ⟨rfl, ps, by rw [eh]; exact h1, h2, fun pos cv hc => ?_⟩
    obtain ⟨c, h4, h5⟩ := h3 pos cv hc
    exact ⟨c, h4, e _ _ h5⟩
/-- a new object of data -/
theorem Mok.newD (M : Mok K mg Hi ι m H) {p : Addr} {o : HO} (hp : H p = none) : Mok K mg (upd Hi p o) ι m (upd H p o) ∧ Step Hi ι H (upd Hi p o) ι (upd H p o) := by
  have hi : Hi p = none := M.sub.free hp
  have nm : ∀ a ∈ ι, a ≠ p := fun a ha e => by
    obtain ⟨o', h⟩ := M.live ha
    rw [e, hp] at h
    cases h
  have im : Same Hi (upd Hi p o) := fun b u q => by rw [upd_ne (ne_of_none q hi)]; exact q
  refine ⟨⟨fun b u q => ?_, M.len, M.nd, fun k mo a h1 h2 h3 => by rw [upd_ne (nm a (List.mem_of_getElem? h2))]; exact M.free k mo a h1 h2 h3, fun k mo a h1 h2 => ?_⟩, im, List.prefix_refl _, fun a u q _ => by rw [upd_ne (ne_of_none q hp)]; exact q, fun a h1 h2 => absurd h1 h2, fun a h => upd_live h, fun a _ h1 h2 => by rw [upd_ne (fun z => h2 (by rw [z]; exact hp))]; exact h1⟩
  · by_cases hb : b = p
    · subst hb; rw [upd_same] at q ⊢; exact q
    · rw [upd_ne hb] at q ⊢; exact M.sub b u q
  · exact (M.obj k mo a h1 h2).mono im (upd_ne (nm a (List.mem_of_getElem? h2)))
/-- a new changeable list -/
theorem Mok.newM (M : Mok K mg Hi ι m H) {p : Addr} {vs : List V} {xs : List D} (hp : H p = none) (r : RepL K mg Hi vs xs) : Mok K mg Hi (ι ++ [p]) (m ++ [.lst xs]) (upd H p (.lst vs)) ∧ Step Hi ι H Hi (ι ++ [p]) (upd H p (.lst vs)) := by
  have hi : Hi p = none := M.sub.free hp
  have nm : ∀ a ∈ ι, a ≠ p := fun a ha e => by
    obtain ⟨o', h⟩ := M.live ha
    rw [e, hp] at h
    cases h
  refine ⟨⟨fun b u q => by rw [upd_ne (ne_of_none q hi)]; exact M.sub b u q, by simp [M.len], ?_, fun k mo a h1 h2 h3 => ?_, fun k mo a h1 h2 => ?_⟩, Same.refl _, List.prefix_append _ _, fun a u q _ => by rw [upd_ne (ne_of_none q hp)]; exact q, fun a h1 h2 => ?_, fun a h => upd_live h, fun a _ h1 _ => h1⟩
  · rw [List.nodup_append]
    exact ⟨M.nd, by simp, fun a ha b hb => by rw [List.mem_singleton] at hb; subst hb; exact nm a ha⟩
  · by_cases hk : k < m.length
    · rw [List.getElem?_append_left hk] at h1
      rw [List.getElem?_append_left (by rw [M.len]; exact hk)] at h2
      exact M.free k mo a h1 h2 h3
    · rw [List.getElem?_append_right (by rw [M.len]; omega)] at h2
      have hm := List.mem_of_getElem? h2
      rw [List.mem_singleton] at hm; subst hm; exact hi
  · by_cases hk : k < m.length
    · rw [List.getElem?_append_left hk] at h1
      rw [List.getElem?_append_left (by rw [M.len]; exact hk)] at h2
      exact (M.obj k mo a h1 h2).mono (Same.refl _) (upd_ne (nm a (List.mem_of_getElem? h2)))
    · rw [List.getElem?_append_right (by omega)] at h1
      rw [List.getElem?_append_right (by rw [M.len]; omega)] at h2
      have ek : k - m.length = 0 := by
        cases e : k - m.length with
        | zero => rfl
        | succ n => rw [e] at h1; simp at h1
      rw [ek] at h1
      rw [M.len, ek] at h2
      simp at h1 h2
      subst h1 h2
      exact ⟨vs, upd_same, r⟩
  · rcases List.mem_append.mp h1 with h1 | h1
    · exact absurd h1 h2
    · rw [List.mem_singleton] at h1; subst h1; exact hp
/-- a changeable list changed -/
theorem Mok.set (M : Mok K mg Hi ι m H) {p : Addr} {k : Nat} {vs : List V} {xs ys : List D} (hk : ι[k]? = some p) (ho : m[k]? = some (.lst ys)) (r : RepL K mg Hi vs xs) : Mok K mg Hi ι (m.set k (.lst xs)) (upd H p (.lst vs)) ∧ Step Hi ι H Hi ι (upd H p (.lst vs)) := by
  have hm : p ∈ ι := List.mem_of_getElem? hk
  have hi := M.free k _ p ho hk (fun q => nomatch q)
  refine ⟨⟨fun b u q => by rw [upd_ne (ne_of_none q hi)]; exact M.sub b u q, by simp [M.len], M.nd, fun j mo a h1 h2 h3 => ?_, fun j mo a h1 h2 => ?_⟩, Same.refl _, List.prefix_refl _, fun a u q hn => ?_, fun a h1 h2 => absurd h1 h2, fun a h => upd_live h, fun a _ h1 _ => h1⟩
  · by_cases hj : k = j
    · subst hj
      rw [hk] at h2
      cases h2
      exact hi
    · rw [List.getElem?_set_ne hj] at h1
      exact M.free j mo a h1 h2 h3
  · by_cases hj : k = j
    · subst hj
      have hl : k < m.length := by rw [← M.len]; exact (List.getElem?_eq_some_iff.mp hk).1
      rw [List.getElem?_set_self hl] at h1
      rw [hk] at h2
      cases h1
      cases h2
      exact ⟨vs, upd_same, r⟩
    · rw [List.getElem?_set_ne hj] at h1
      have ne : a ≠ p := fun e => hj (by
        subst e
        obtain ⟨q1, e1⟩ := List.getElem?_eq_some_iff.mp hk
        obtain ⟨q2, e2⟩ := List.getElem?_eq_some_iff.mp h2
        exact (List.getElem_inj M.nd).mp (e1.trans e2.symm))
      exact (M.obj j mo a h1 h2).mono (Same.refl _) (upd_ne ne)
  · rw [upd_ne (fun e => hn (by rw [e]; exact hm))]
    exact q
/-- a changeable list becomes data; all behind n is let go -/
theorem Mok.cut (M : Mok K mg Hi ι m H) (n : Nat) : Mok K mg Hi (ι.take n) (m.take n) H := by
  refine ⟨M.sub, by rw [List.length_take, List.length_take, M.len], M.nd.sublist (List.take_sublist _ _), fun k mo a h1 h2 h3 => ?_, fun k mo a h1 h2 => ?_⟩
  · by_cases hk : k < n
    · rw [List.getElem?_take_of_lt hk] at h1 h2
      exact M.free k mo a h1 h2 h3
    · rw [List.getElem?_eq_none (by rw [List.length_take]; omega)] at h1
      cases h1
  by_cases hk : k < n
  · rw [List.getElem?_take_of_lt hk] at h1 h2
    exact M.obj k mo a h1 h2
  · rw [List.getElem?_eq_none (by rw [List.length_take]; omega)] at h1
    cases h1
theorem Mok.keep (M : Mok K mg Hi ι m H) {a : Addr} {o : HO} (ho : H a = some o) (hn : a ∉ ι) (hi : Hi a = none) : Mok K mg (upd Hi a o) ι m H := by
  have im : Same Hi (upd Hi a o) := fun b u q => by rw [upd_ne (ne_of_none q hi)]; exact q
  refine ⟨fun b u q => ?_, M.len, M.nd, fun k mo b h1 h2 h3 => ?_, fun k mo b h1 h2 => (M.obj k mo b h1 h2).mono im rfl⟩
  · by_cases hb : b = a
    · subst hb; rw [upd_same] at q; cases q; exact ho
    · rw [upd_ne hb] at q; exact M.sub b u q
  · rw [upd_ne (fun e => hn (by rw [← e]; exact List.mem_of_getElem? h2))]
    exact M.free k mo b h1 h2 h3
/-- a changeable list becomes data -/
theorem Mok.frz (M : Mok K mg Hi ι m H) {k : Nat} {a : Addr} {vs : List V} {xs : List D} (hk : ι[k]? = some a) (ho : m[k]? = some (.lst xs)) (hv : H a = some (.lst vs)) : Mok K mg (upd Hi a (.lst vs)) ι (m.set k .dead) H ∧ Step Hi ι H (upd Hi a (.lst vs)) ι H := by
  have hi := M.free k _ a ho hk (fun q => nomatch q)
  have im : Same Hi (upd Hi a (.lst vs)) := fun b u q => by rw [upd_ne (ne_of_none q hi)]; exact q
  have hl : k < m.length := by rw [← M.len]; exact (List.getElem?_eq_some_iff.mp hk).1
  refine ⟨⟨fun b u q => ?_, by simp [M.len], M.nd, fun j mo b h1 h2 h3 => ?_, fun j mo b h1 h2 => ?_⟩, im, List.prefix_refl _, fun _ _ h _ => h, fun _ h1 h2 => absurd h1 h2, fun _ h => h, fun b h0 h1 _ => ?_⟩
  · by_cases hb : b = a
    · subst hb; rw [upd_same] at q; cases q; exact hv
    · rw [upd_ne hb] at q; exact M.sub b u q
  · by_cases hj : k = j
    · subst hj
      rw [List.getElem?_set_self hl] at h1
      cases h1
      exact absurd rfl h3
    · rw [List.getElem?_set_ne hj] at h1
      have ne : b ≠ a := fun e => hj (by
        subst e
        obtain ⟨q1, e1⟩ := List.getElem?_eq_some_iff.mp hk
        obtain ⟨q2, e2⟩ := List.getElem?_eq_some_iff.mp h2
        exact (List.getElem_inj M.nd).mp (e1.trans e2.symm))
      rw [upd_ne ne]
      exact M.free j mo b h1 h2 h3
  · by_cases hj : k = j
    · subst hj
      rw [List.getElem?_set_self hl] at h1
      cases h1
      exact M.live (List.mem_of_getElem? h2)
    · rw [List.getElem?_set_ne hj] at h1
      exact (M.obj j mo b h1 h2).mono im rfl
  · rw [upd_ne (fun e => h0 (by rw [e]; exact List.mem_of_getElem? hk))]
    exact h1
end
end GD
/-! GD2: the readings of the mirrors; expressions. -/
namespace GD
open PySem PySem.Spec PyProof.Rows L2
section
variable (K : PySem.W.Frag) (mg : Str → Option Value)
/-- what is wanted of an error -/
def GoodX (Wx : WX) (σ : L2.St) (Hi : Hp) (ι : List Addr) (H : Hp) (c : Str) (ns : List Str) (vs : List D) (m' : Mem) : Prop :=
  ∀ (Hi' : Hp) (ι' : List Addr) (H' : Hp) (C dx : Addr) (fs : List V), Step Hi ι H Hi' ι' H' → Mok K mg Hi' ι' m' H' → mg c = some (.ref C) → Hi' dx = some (.xd (ns.zip fs)) → ns.length = fs.length → RepL K mg Hi' fs vs → Wx (.ref C) (some dx) σ H'
def Good {A α : Type} (rep : Hp → List Addr → A → α → Prop) (Wx : WX) (σ : L2.St) (Hi : Hp) (ι : List Addr) (H : Hp) (r : R α) (Q : A → Hp → Prop) : Prop := match r with
  | .ok a m' => ∀ (Hi' : Hp) (ι' : List Addr) (x : A) (H' : Hp), Step Hi ι H Hi' ι' H' → Mok K mg Hi' ι' m' H' → rep Hi' ι' x a → Q x H'
  | .exc c ns vs m' => GoodX K mg Wx σ Hi ι H c ns vs m'
  | .bad => False
def tD (Wx : WX) (f : Ev) : TE := fun σ H Q => ∃ Hi ι ρ m, Rel K mg Hi ι ρ m σ H ∧ Good K mg (RepW K mg) Wx σ Hi ι H (f ρ m) Q
def tDA (Wx : WX) (f : EvL) : TA := fun σ H Q => ∃ Hi ι ρ m, Rel K mg Hi ι ρ m σ H ∧ Good K mg (RepWs K mg) Wx σ Hi ι H (f ρ m) Q
def tDT (Wx : WX) (f : EvT) : TT := fun σ H Q => ∃ Hi ι ρ m, Rel K mg Hi ι ρ m σ H ∧ Good K mg (fun _ _ x a => x = a) Wx σ Hi ι H (f ρ m) Q
end
section
variable {K : PySem.W.Frag} {mg : Str → Option Value} {Wx : WX} {σ : L2.St} {Hi Hi' H H' : Hp} {ι ι' : List Addr} {m m' : Mem} {ρ : Env}
theorem GoodX.step {c : Str} {ns : List Str} {vs : List D} (h : GoodX K mg Wx σ Hi ι H c ns vs m) (s : Step Hi ι H Hi' ι' H') : GoodX K mg Wx σ Hi' ι' H' c ns vs m :=
  fun Hi2 ι2 H2 C dx fs st => h Hi2 ι2 H2 C dx fs (s.trans st)
theorem Good.step {A α : Type} {rep : Hp → List Addr → A → α → Prop} {r : R α} {Q : A → Hp → Prop} (h : Good K mg rep Wx σ Hi ι H r Q) (s : Step Hi ι H Hi' ι' H') : Good K mg rep Wx σ Hi' ι' H' r Q := by
  cases r with
  | ok a m' => exact fun Hi2 ι2 x H2 st => h Hi2 ι2 x H2 (s.trans st)
  | exc c ns vs m' => exact GoodX.step h s
  | bad => exact h
theorem good_bind {A B α β : Type} {rep : Hp → List Addr → A → α → Prop} {rep' : Hp → List Addr → B → β → Prop} {r : R α} {k : α → Mem → R β} {Q : B → Hp → Prop} {Q1 : A → Hp → Prop} (h : Good K mg rep' Wx σ Hi ι H (r.bind k) Q)
    (f : ∀ (a : α) (m' : Mem) (Hi' : Hp) (ι' : List Addr) (x : A) (H' : Hp), Step Hi ι H Hi' ι' H' → Mok K mg Hi' ι' m' H' → rep Hi' ι' x a → Good K mg rep' Wx σ Hi' ι' H' (k a m') Q → Q1 x H') : Good K mg rep Wx σ Hi ι H r Q1 := by
  cases r with
  | ok a m' => exact fun Hi2 ι2 x H2 st M rx => f a m' Hi2 ι2 x H2 st M rx (Good.step h st)
  | exc c ns vs m' => exact h
  | bad => exact h
theorem Good.here {A α : Type} {rep : Hp → List Addr → A → α → Prop} {a : α} {x : A} {Q : A → Hp → Prop} (h : Good K mg rep Wx σ Hi ι H (.ok a m) Q) (M : Mok K mg Hi ι m H) (r : rep Hi ι x a) : Q x H := h Hi ι x H Step.refl M r
theorem Rel.step (R : Rel K mg Hi ι ρ m σ H) (s : Step Hi ι H Hi' ι' H') (M : Mok K mg Hi' ι' m' H') : Rel K mg Hi' ι' ρ m' σ H' := ⟨M, R.slots.step s⟩
theorem PE.imp {X : Cx} {e : Expr} {t t' : TE} (h : PE X e t) (hi : ∀ σ H Q, t' σ H Q → t σ H Q) : PE X e t' := ⟨fun pins s σ H Q I q => h.run pins s σ H Q I (hi σ H Q q)⟩
theorem PT.imp {X : Cx} {e : Expr} {t t' : TT} (h : PT X e t) (hi : ∀ σ H Q, t' σ H Q → t σ H Q) : PT X e t' := ⟨fun pins s σ H Q I q => h.run pins s σ H Q I (hi σ H Q q)⟩
theorem PW.imp {X : Cx} {e : Expr} {t t' : TT} (h : PW X e t) (hi : ∀ σ H Q, t' σ H Q → t σ H Q) : PW X e t' := ⟨fun wh pins s σ H Q I q => h.run wh pins s σ H Q I (hi σ H Q q)⟩
theorem PA.imp {X : Cx} {es : List Expr} {t t' : TA} (h : PA X es t) (hi : ∀ σ H Q, t' σ H Q → t σ H Q) : PA X es t' := ⟨fun p pins s σ H Q I q => h.run p pins s σ H Q I (hi σ H Q q)⟩
theorem OpR.or {X : Cx} {f : Value → Value → Sem Value} {r r' : R2} (h : OpR X f r) (h' : OpR X f r') : OpR X f (fun x y H Q => r x y H Q ∨ r' x y H Q) := fun pins s σ H x y v u Q I rx ry q =>
  q.elim (h pins s σ H x y v u Q I rx ry) (h' pins s σ H x y v u Q I rx ry)
theorem UnR.or {X : Cx} {f : Value → Sem Value} {r r' : V → Hp → VK → Prop} (h : UnR X f r) (h' : UnR X f r') : UnR X f (fun x H Q => r x H Q ∨ r' x H Q) := fun pins s σ H x v Q I rx q =>
  q.elim (h pins s σ H x v Q I rx) (h' pins s σ H x v Q I rx)
theorem CallR.or {X : Cx} {f : Value} {r r' : List V → Hp → VK → Prop} (h : CallR X f r) (h' : CallR X f r') : CallR X f (fun x H Q => r x H Q ∨ r' x H Q) := fun pins s σ H x v Q I rx q =>
  q.elim (h pins s σ H x v Q I rx) (h' pins s σ H x v Q I rx)
end
/-! ### the place where a piece of a def stands -/
structure Cc (X : Cx) (Wx : WX) (k : Nat) : Prop where
  tk : Takes X Wx
  hp : PassesOwn (model X.prog X.w) X.A X.env X.xe
  nd : X.N.Nodup
  calm : X.calm = true
  room : Room k X.A
section
variable {X : Cx} {Wx : WX} {kk : Nat}
/-! ### names, constants, displays -/
theorem pd_var {i : Nat} {x : Str} {pos : Pos} (h : PE X (.Name x pos) (tVar i)) : PE X (.Name x pos) (tD X.K X.mg Wx (fVar i)) := PE.imp h fun σ H Q t => by
  obtain ⟨Hi, ι, ρ, m, R, g⟩ := t
  unfold fVar at g
  split at g
  · rename_i w e
    obtain ⟨v, h1, h2⟩ := R.slots.2 i w e
    exact ⟨v, h1, g.here R.mok h2⟩
  · exact g.elim
theorem pd_c {e : Expr} {v : V} {x : D} (h : PE X e (tC v)) (r : ∀ Hi, Rep X.K X.mg Hi v x) : PE X e (tD X.K X.mg Wx (fC x)) := PE.imp h fun σ H Q t => by
  obtain ⟨Hi, ι, ρ, m, R, g⟩ := t
  exact g.here (rep := RepW X.K X.mg) R.mok (r Hi)
theorem pd_int {i j pos} : PE X (.Constant (.int i) j pos) (tD X.K X.mg Wx (fC (.int i))) := pd_c pe_int fun _ => .int i
theorem pd_bl {i j pos} : PE X (.Constant (.bool i) j pos) (tD X.K X.mg Wx (fC (.bl i))) := pd_c pe_bl fun _ => .bl i
theorem pd_non {j pos} : PE X (.Constant .none j pos) (tD X.K X.mg Wx (fC .non)) := pd_c pe_non fun _ => .non
theorem pd_str {x j pos} : PE X (.Constant (.str x) j pos) (tD X.K X.mg Wx (fC (.str x))) := pd_c pe_str fun _ => .str x
theorem pad_nil : PA X [] (tDA X.K X.mg Wx fNil) := PA.imp pa_nil fun σ H Q t => by
  obtain ⟨Hi, ι, ρ, m, R, g⟩ := t
  exact g.here (rep := RepWs X.K X.mg) R.mok .nil
theorem pad_cons {e : Expr} {es : List Expr} {f : Ev} {g : EvL} (ha : PE X e (tD X.K X.mg Wx f)) (hr : PA X es (tDA X.K X.mg Wx g)) (hs : starEach (e :: es) X.env = (false, eval e X.env) :: starEach es X.env := by rfl) : PA X (e :: es) (tDA X.K X.mg Wx (fCons f g)) :=
  PA.imp (pa_cons ha hr hs) fun σ H Q t => by
    obtain ⟨Hi, ι, ρ, m, R, g⟩ := t
    refine ⟨Hi, ι, ρ, m, R, good_bind g fun w m1 Hi1 ι1 v H1 st M rv g1 => ⟨Hi1, ι1, ρ, m1, R.step st M, good_bind g1 fun ws m2 Hi2 ι2 vs H2 st2 M2 rvs g2 => ?_⟩⟩
    exact g2.here M2 (.cons (rv.step st2) rvs)
end
end GD
/-! GD3: displays, operators, tests, statements. -/
namespace GD
open PySem PySem.Spec PyProof.Rows L2
theorem sz5 {n : Nat} (h : n ≤ 100000) : n ≤ sizeLine := Nat.le_trans h (by decide)
theorem sz5' {n : Nat} (h : n < 100000) : n < sizeLine := Nat.lt_of_lt_of_le h (by decide)
/-! ### operations on values -/
/-- o tells what r gives -/
def S2 (K : PySem.W.Frag) (mg : Str → Option Value) (r : R2) (o : O2) : Prop := ∀ (Wx : WX) (σ : L2.St) (Hi : Hp) (ι : List Addr) (m : Mem) (H : Hp) (x y : V) (a b : W) (Q : VK), Mok K mg Hi ι m H → RepW K mg Hi ι x a → RepW K mg Hi ι y b →
  Good K mg (RepW K mg) Wx σ Hi ι H (o a b m) Q → r x y H Q
def S1 (K : PySem.W.Frag) (mg : Str → Option Value) (r : V → Hp → VK → Prop) (o : O1) : Prop := ∀ (Wx : WX) (σ : L2.St) (Hi : Hp) (ι : List Addr) (m : Mem) (H : Hp) (x : V) (a : W) (Q : VK), Mok K mg Hi ι m H → RepW K mg Hi ι x a →
  Good K mg (RepW K mg) Wx σ Hi ι H (o a m) Q → r x H Q
/-- a call by values -/
abbrev ON := List W → Mem → R W
def SN (K : PySem.W.Frag) (mg : Str → Option Value) (r : List V → Hp → VK → Prop) (o : ON) : Prop := ∀ (Wx : WX) (σ : L2.St) (Hi : Hp) (ι : List Addr) (m : Mem) (H : Hp) (xs : List V) (as : List W) (Q : VK), Mok K mg Hi ι m H → RepWs K mg Hi ι xs as →
  Good K mg (RepW K mg) Wx σ Hi ι H (o as m) Q → r xs H Q
def fCB (o : ON) (a : EvL) : Ev := fun ρ m => (a ρ m).bind fun ws m => o ws m
section
variable {X : Cx} {Wx : WX} {kk : Nat}
theorem pd_tup {es : List Expr} {x1} {pos : Pos} {f : EvL} (h : PA X es (tDA X.K X.mg Wx f)) : PE X (.Tuple es x1 pos) (tD X.K X.mg Wx (fTup f)) := PE.imp (pe_tup h) fun σ H Q t => by
  obtain ⟨Hi, ι, ρ, m, RR, g⟩ := t
  refine ⟨Hi, ι, ρ, m, RR, good_bind g fun ws m1 Hi1 ι1 vs H1 st M rv g1 => ?_⟩
  split at g1
  · rename_i xs e
    split at g1
    · rename_i hl
      have rl := rv.dats e
      refine ⟨sz5 (by rw [rl.length]; exact hl), fun p hp => ?_⟩
      obtain ⟨M2, st2⟩ := M.newD (o := .tup vs) hp
      exact g1 _ _ _ _ st2 M2 (.tup (.inl (.inl upd_same)) (rl.mono st2.imm))
    · exact g1.elim
  · exact g1.elim
theorem pd_lst {es : List Expr} {pos : Pos} {f : EvL} (h : PA X es (tDA X.K X.mg Wx f)) : PE X (.List es pos) (tD X.K X.mg Wx (fLst f)) := PE.imp (pe_lst h) fun σ H Q t => by
  obtain ⟨Hi, ι, ρ, m, RR, g⟩ := t
  refine ⟨Hi, ι, ρ, m, RR, good_bind g fun ws m1 Hi1 ι1 vs H1 st M rv g1 => ?_⟩
  split at g1
  · rename_i xs e
    split at g1
    · rename_i hl
      have rl := rv.dats e
      refine ⟨sz5 (by rw [rl.length]; exact hl), fun p hp => ?_⟩
      obtain ⟨M2, st2⟩ := M.newD (o := .lst vs) hp
      exact g1 _ _ _ _ st2 M2 (.lst upd_same (rl.mono st2.imm))
    · exact g1.elim
  · exact g1.elim
theorem pd_lstM {es : List Expr} {pos : Pos} {f : EvL} (h : PA X es (tDA X.K X.mg Wx f)) : PE X (.List es pos) (tD X.K X.mg Wx (fLstM f)) := PE.imp (pe_lst h) fun σ H Q t => by
  obtain ⟨Hi, ι, ρ, m, RR, g⟩ := t
  refine ⟨Hi, ι, ρ, m, RR, good_bind g fun ws m1 Hi1 ι1 vs H1 st M rv g1 => ?_⟩
  split at g1
  · rename_i xs e
    split at g1
    · rename_i hl
      have rl := rv.dats e
      refine ⟨sz5 (by rw [rl.length]; exact hl), fun p hp => ?_⟩
      obtain ⟨M2, st2⟩ := M.newM hp rl
      exact g1 _ _ _ _ st2 M2 ⟨p, by rw [← M.len, List.getElem?_append_right (Nat.le_refl _)]; simp, rfl⟩
    · exact g1.elim
  · exact g1.elim
theorem pd_op {a b : Expr} {op : Operator} {pos : Pos} {r : R2} {o : O2} {fa fb : Ev} (ho : OpR X (binaryOp op) r) (so : S2 X.K X.mg r o) (ha : PE X a (tD X.K X.mg Wx fa)) (hb : PE X b (tD X.K X.mg Wx fb)) : PE X (.BinOp a op b pos) (tD X.K X.mg Wx (fOp o fa fb)) :=
  PE.imp (pe_op ho ha hb) fun σ H Q t => by
    obtain ⟨Hi, ι, ρ, m, RR, g⟩ := t
    exact ⟨Hi, ι, ρ, m, RR, good_bind g fun x m1 Hi1 ι1 v H1 st M rv g1 => ⟨Hi1, ι1, ρ, m1, RR.step st M, good_bind g1 fun y m2 Hi2 ι2 u H2 st2 M2 ru g2 => so _ _ _ _ _ _ _ _ _ _ _ M2 (rv.step st2) ru g2⟩⟩
theorem pd_cmp {a b : Expr} {op : CmpOp} {pos : Pos} {r : R2} {o : O2} {fa fb : Ev} (ho : OpR X (compareOp op) r) (so : S2 X.K X.mg r o) (ha : PE X a (tD X.K X.mg Wx fa)) (hb : PE X b (tD X.K X.mg Wx fb)) (hm : behindInMarks op b = false) : PE X (.Compare a [op] [b] pos) (tD X.K X.mg Wx (fOp o fa fb)) :=
  PE.imp (pe_cmpR ho ha hb hm) fun σ H Q t => by
    obtain ⟨Hi, ι, ρ, m, RR, g⟩ := t
    exact ⟨Hi, ι, ρ, m, RR, good_bind g fun x m1 Hi1 ι1 v H1 st M rv g1 => ⟨Hi1, ι1, ρ, m1, RR.step st M, good_bind g1 fun y m2 Hi2 ι2 u H2 st2 M2 ru g2 => so _ _ _ _ _ _ _ _ _ _ _ M2 (rv.step st2) ru g2⟩⟩
theorem ptd_cmp {a b : Expr} {op : CmpOp} {pos : Pos} {r : R2} {o : O2} {fa fb : Ev} (ho : OpR X (compareOp op) r) (so : S2 X.K X.mg r o) (ha : PE X a (tD X.K X.mg Wx fa)) (hb : PE X b (tD X.K X.mg Wx fb)) (hm : behindInMarks op b = false) : PT X (.Compare a [op] [b] pos) (tDT X.K X.mg Wx (gBool (fOp o fa fb))) :=
  PT.imp (pt_cmpR ho ha hb hm) fun σ H Q t => by
    obtain ⟨Hi, ι, ρ, m, RR, g⟩ := t
    unfold gBool fOp at g
    have g' : Good X.K X.mg (fun _ _ x a => x = a) Wx σ Hi ι H ((fa ρ m).bind fun x m => (fb ρ m).bind fun y m => (o x y m).bind fun z m => match z with | .d (.bl b) => R.ok b m | _ => R.bad) Q := by
      cases e : fa ρ m with
      | ok x m1 =>
        rw [e] at g
        simp only [R.bind_ok] at g ⊢
        cases e2 : fb ρ m1 with
        | ok y m2 => rw [e2] at g; exact g
        | exc c ns vs m2 => rw [e2] at g; exact g
        | bad => rw [e2] at g; exact g
      | exc c ns vs m2 => rw [e] at g; exact g
      | bad => rw [e] at g; exact g
    refine ⟨Hi, ι, ρ, m, RR, good_bind g' fun x m1 Hi1 ι1 v H1 st M rv g1 => ⟨Hi1, ι1, ρ, m1, RR.step st M, good_bind g1 fun y m2 Hi2 ι2 u H2 st2 M2 ru g2 => so Wx σ _ _ _ _ _ _ _ _ _ M2 (rv.step st2) ru (good_bind g2 fun z m3 Hi3 ι3 z' H3 st3 M3 rz g3 => ?_)⟩⟩
    split at g3
    · cases rz
      exact ⟨_, rfl, g3.here M3 rfl⟩
    · exact g3.elim
theorem pd_un {a : Expr} {op : UnaryOp} {pos : Pos} {r : V → Hp → VK → Prop} {o : O1} {fa : Ev} (ho : UnR X (unaryOp op) r) (so : S1 X.K X.mg r o) (ha : PE X a (tD X.K X.mg Wx fa)) : PE X (.UnaryOp op a pos) (tD X.K X.mg Wx (fUn o fa)) :=
  PE.imp (pe_un ho ha) fun σ H Q t => by
    obtain ⟨Hi, ι, ρ, m, RR, g⟩ := t
    exact ⟨Hi, ι, ρ, m, RR, good_bind g fun x m1 Hi1 ι1 v H1 st M rv g1 => so _ _ _ _ _ _ _ _ _ M rv g1⟩
theorem pd_callB {x : Str} {p pos : Pos} {e : Expr} {es : List Expr} {id : String} {r : List V → Hp → VK → Prop} {o : ON} {f : EvL} (hc : CallR X (.builtin id) r) (so : SN X.K X.mg r o) (hg : Gl X x) (hm : X.mg x = none) (hv : bootBuiltins x = some (.builtin id)) (ha : PA X (e :: es) (tDA X.K X.mg Wx f))
    (hn : x ≠ "__name__" := by decide) (hdb : (x == ("__debug__" : Str)) = false := by decide) (he : starEach (e :: es) X.env = (false, eval e X.env) :: starEach es X.env := by rfl) (hpl : (backTo pos (starEach es X.env)).any (·.1) = false := by rfl) :
    PE X (.Call (.Name x p) (e :: es) [] pos) (tD X.K X.mg Wx (fCB o f)) := PE.imp (pe_callB hc hg hm hv ha hn hdb he hpl) fun σ H Q t => by
  obtain ⟨Hi, ι, ρ, m, RR, g⟩ := t
  exact ⟨Hi, ι, ρ, m, RR, good_bind g fun x m1 Hi1 ι1 v H1 st M rv g1 => so _ _ _ _ _ _ _ _ _ M rv g1⟩
theorem pd_callTy {x : Str} {p pos : Pos} {e : Expr} {es : List Expr} {T : String} {r : List V → Hp → VK → Prop} {o : ON} {f : EvL} (hc : CallR X (.type T) r) (so : SN X.K X.mg r o) (hg : Gl X x) (hm : X.mg x = none) (hv : bootBuiltins x = some (.type T)) (ha : PA X (e :: es) (tDA X.K X.mg Wx f))
    (hn : x ≠ "__name__" := by decide) (hdb : (x == ("__debug__" : Str)) = false := by decide) (he : starEach (e :: es) X.env = (false, eval e X.env) :: starEach es X.env := by rfl) (hpl : (backTo pos (starEach es X.env)).any (·.1) = false := by rfl) :
    PE X (.Call (.Name x p) (e :: es) [] pos) (tD X.K X.mg Wx (fCB o f)) := PE.imp (pe_callTy hc hg hm hv ha hn hdb he hpl) fun σ H Q t => by
  obtain ⟨Hi, ι, ρ, m, RR, g⟩ := t
  exact ⟨Hi, ι, ρ, m, RR, good_bind g fun x m1 Hi1 ι1 v H1 st M rv g1 => so _ _ _ _ _ _ _ _ _ M rv g1⟩
/-! ### tests -/
theorem natE (n : Nat) : (n != 0) = ((n : Int) != 0) := by
  cases n with
  | zero => rfl
  | succ n =>
    have h1 : ((n + 1 : Nat) != 0) = true := by simp
    have h2 : (((n + 1 : Nat) : Int) != 0) = true := by simp; omega
    rw [h1, h2]
theorem isE {α : Type} {xs : List α} {n : Nat} (h : xs.length = n) : xs.isEmpty = (n == 0) := by
  cases xs with
  | nil => subst h; rfl
  | cons a l => subst h; rfl
theorem ptd_truth {a : Expr} {f : Ev} (ha : PE X a (tD X.K X.mg Wx f)) (he : ∀ whole, isTrue a X.env whole = (do let v ← whole; standAt a.pos; holding [v] (truthy v)) := by intro _; rfl) : PT X a (tDT X.K X.mg Wx (gTest f)) :=
  PT.imp (pt_truth ha he) fun σ H Q t => by
    obtain ⟨Hi, ι, ρ, m, RR, g⟩ := t
    refine ⟨Hi, ι, ρ, m, RR, good_bind g fun x m1 Hi1 ι1 v H1 st M rv g1 => ?_⟩
    split at g1
    · rename_i b e
      refine ⟨b, ?_, g1.here M rfl⟩
      unfold truth at e
      split at e
      · cases e; cases rv; rfl
      · cases e; cases rv; rfl
      · cases e; cases rv; rfl
      · cases e
        cases rv with
        | lst s r => exact .inl ⟨_, .inl (.inl (M.sub _ _ s)), by rw [isE r.length, isE rfl]⟩
      · cases e
        cases rv with
        | tup s r => exact .inr (.inl ⟨_, sqT_mono M.sub s, by rw [isE r.length, isE rfl]⟩)
      · split at e
        · rename_i hl
          cases e
          cases rv
          exact ⟨sz5 hl, natE _⟩
        · cases e
      · cases e
    · exact g1.elim
theorem ptd_not {a : Expr} {pos : Pos} {f : EvT} (ha : PT X a (tDT X.K X.mg Wx f)) : PT X (.UnaryOp .Not a pos) (tDT X.K X.mg Wx (gNot f)) := PT.imp (pt_not ha) fun σ H Q t => by
  obtain ⟨Hi, ι, ρ, m, RR, g⟩ := t
  exact ⟨Hi, ι, ρ, m, RR, good_bind g fun x m1 Hi1 ι1 v H1 st M rv g1 => by cases rv; exact g1.here M rfl⟩
theorem pwd_and1 {a : Expr} {pos : Pos} {f : EvT} (ha : PT X a (tDT X.K X.mg Wx f)) : PW X (.BoolOp .And [a] pos) (tDT X.K X.mg Wx f) := pw_and1 ha
theorem pwd_or1 {a : Expr} {pos : Pos} {f : EvT} (ha : PT X a (tDT X.K X.mg Wx f)) : PW X (.BoolOp .Or [a] pos) (tDT X.K X.mg Wx f) := pw_or1 ha
theorem pwd_and {a b : Expr} {rest : List Expr} {pos : Pos} {f g : EvT} (ha : PT X a (tDT X.K X.mg Wx f)) (hb : PW X (.BoolOp .And (b :: rest) pos) (tDT X.K X.mg Wx g)) : PW X (.BoolOp .And (a :: b :: rest) pos) (tDT X.K X.mg Wx (gAnd f g)) :=
  PW.imp (pw_and ha hb) fun σ H Q t => by
    obtain ⟨Hi, ι, ρ, m, RR, g⟩ := t
    refine ⟨Hi, ι, ρ, m, RR, good_bind g fun x m1 Hi1 ι1 v H1 st M rv g1 => ?_⟩
    cases rv
    cases x with
    | true => exact ⟨Hi1, ι1, ρ, m1, RR.step st M, g1⟩
    | false => exact g1.here (rep := fun _ _ x a => x = a) M rfl
theorem pwd_or {a b : Expr} {rest : List Expr} {pos : Pos} {f g : EvT} (ha : PT X a (tDT X.K X.mg Wx f)) (hb : PW X (.BoolOp .Or (b :: rest) pos) (tDT X.K X.mg Wx g)) : PW X (.BoolOp .Or (a :: b :: rest) pos) (tDT X.K X.mg Wx (gOr f g)) :=
  PW.imp (pw_or ha hb) fun σ H Q t => by
    obtain ⟨Hi, ι, ρ, m, RR, g⟩ := t
    refine ⟨Hi, ι, ρ, m, RR, good_bind g fun x m1 Hi1 ι1 v H1 st M rv g1 => ?_⟩
    cases rv
    cases x with
    | true => exact g1.here (rep := fun _ _ x a => x = a) M rfl
    | false => exact ⟨Hi1, ι1, ρ, m1, RR.step st M, g1⟩
theorem pd_if {c a b : Expr} {pos : Pos} {t : EvT} {f g : Ev} (hc : PT X c (tDT X.K X.mg Wx t)) (ha : PE X a (tD X.K X.mg Wx f)) (hb : PE X b (tD X.K X.mg Wx g)) : PE X (.IfExp c a b pos) (tD X.K X.mg Wx (fIf t f g)) := PE.imp (pe_ifExp hc ha hb) fun σ H Q t => by
  obtain ⟨Hi, ι, ρ, m, RR, g⟩ := t
  refine ⟨Hi, ι, ρ, m, RR, good_bind g fun x m1 Hi1 ι1 v H1 st M rv g1 => ?_⟩
  cases rv
  cases x with
  | true => exact ⟨Hi1, ι1, ρ, m1, RR.step st M, g1⟩
  | false => exact ⟨Hi1, ι1, ρ, m1, RR.step st M, g1⟩
/-- a and b, a or b, not a as values -/
theorem pd_one {op : BoolOp} {a : Expr} {pos : Pos} {t : TE} (ha : PE X a t) : PE X (.BoolOp op [a] pos) t := pe_one ha
theorem pd_and {a b : Expr} {rest : List Expr} {pos : Pos} {f g : Ev} (ha : PE X a (tD X.K X.mg Wx f)) (hb : PE X (.BoolOp .And (b :: rest) pos) (tD X.K X.mg Wx g)) : PE X (.BoolOp .And (a :: b :: rest) pos) (tD X.K X.mg Wx (fAnd f g)) := PE.imp (pe_and ha hb) fun σ H Q t => by
  obtain ⟨Hi, ι, ρ, m, RR, g⟩ := t
  refine ⟨Hi, ι, ρ, m, RR, good_bind g fun x m1 Hi1 ι1 v H1 st M rv g1 => ?_⟩
  split at g1
  · cases rv; exact ⟨true, rfl, ⟨Hi1, ι1, ρ, m1, RR.step st M, g1⟩⟩
  · cases rv; exact ⟨false, rfl, g1.here (rep := RepW X.K X.mg) M (.bl false)⟩
  · exact g1.elim
end
/-! ### statements -/
section
variable (K : PySem.W.Frag) (mg : Str → Option Value)
def GoodS (Wx : WX) (E : Ends) (Hi : Hp) (ι : List Addr) (H : Hp) (r : RS) : Prop := match r with
  | .nx ρ m => ∀ (Hi' : Hp) (ι' : List Addr) (σ' : L2.St) (H' : Hp), Step Hi ι H Hi' ι' H' → Rel K mg Hi' ι' ρ m σ' H' → E.nx σ' H'
  | .bk ρ m => ∀ (Hi' : Hp) (ι' : List Addr) (σ' : L2.St) (H' : Hp), Step Hi ι H Hi' ι' H' → Rel K mg Hi' ι' ρ m σ' H' → E.bk σ' H'
  | .ct ρ m => ∀ (Hi' : Hp) (ι' : List Addr) (σ' : L2.St) (H' : Hp), Step Hi ι H Hi' ι' H' → Rel K mg Hi' ι' ρ m σ' H' → E.ct σ' H'
  | .rt w m => ∀ (Hi' : Hp) (ι' : List Addr) (v : V) (H' : Hp), Step Hi ι H Hi' ι' H' → Mok K mg Hi' ι' m H' → RepW K mg Hi' ι' v w → E.rt v H'
  | .xc c ns vs ρ m => ∀ (Hi' : Hp) (ι' : List Addr) (σ' : L2.St) (H' : Hp) (C dx : Addr) (fs : List V), Step Hi ι H Hi' ι' H' → Rel K mg Hi' ι' ρ m σ' H' → mg c = some (.ref C) → Hi' dx = some (.xd (ns.zip fs)) → ns.length = fs.length → RepL K mg Hi' fs vs → Wx (.ref C) (some dx) σ' H'
  | .bad => False
def tDS (Wx : WX) (f : Ex) : TS := fun E σ H => ∃ Hi ι ρ m, Rel K mg Hi ι ρ m σ H ∧ GoodS K mg Wx E Hi ι H (f ρ m)
def tDG (g : Tg) : TG := fun v σ H Q => ∃ Hi ι ρ m w, Rel K mg Hi ι ρ m σ H ∧ RepW K mg Hi ι v w ∧ (match g w ρ m with
  | .ok ρ' m' => ∀ (Hi' : Hp) (ι' : List Addr) (σ' : L2.St) (H' : Hp), Step Hi ι H Hi' ι' H' → Rel K mg Hi' ι' ρ' m' σ' H' → Q σ' H'
  | _ => False)
def tDGs (g : TgL) : TGs := fun vs σ H Q => ∃ Hi ι ρ m ws, Rel K mg Hi ι ρ m σ H ∧ RepWs K mg Hi ι vs ws ∧ (match g ws ρ m with
  | .ok ρ' m' => ∀ (Hi' : Hp) (ι' : List Addr) (σ' : L2.St) (H' : Hp), Step Hi ι H Hi' ι' H' → Rel K mg Hi' ι' ρ' m' σ' H' → Q σ' H'
  | _ => False)
end
section
variable {K : PySem.W.Frag} {mg : Str → Option Value} {Wx : WX} {E : Ends} {σ : L2.St} {Hi Hi' H H' : Hp} {ι ι' : List Addr} {m m' : Mem} {ρ : Env}
theorem GoodS.step {r : RS} (h : GoodS K mg Wx E Hi ι H r) (s : Step Hi ι H Hi' ι' H') : GoodS K mg Wx E Hi' ι' H' r := by
  cases r with
  | nx ρ m => exact fun a b c d st => h a b c d (s.trans st)
  | bk ρ m => exact fun a b c d st => h a b c d (s.trans st)
  | ct ρ m => exact fun a b c d st => h a b c d (s.trans st)
  | rt w m => exact fun a b c d st => h a b c d (s.trans st)
  | xc x ns vs ρ m => exact fun a b c d e f g st => h a b c d e f g (s.trans st)
  | bad => exact h
theorem goodS_lift {A α : Type} {rep : Hp → List Addr → A → α → Prop} {r : R α} {k : α → Mem → RS} {Q1 : A → Hp → Prop} (RR : Rel K mg Hi ι ρ m σ H) (h : GoodS K mg Wx E Hi ι H (r.lift ρ k))
    (f : ∀ (a : α) (m' : Mem) (Hi' : Hp) (ι' : List Addr) (x : A) (H' : Hp), Step Hi ι H Hi' ι' H' → Mok K mg Hi' ι' m' H' → rep Hi' ι' x a → GoodS K mg Wx E Hi' ι' H' (k a m') → Q1 x H') : Good K mg rep Wx σ Hi ι H r Q1 := by
  cases r with
  | ok a m' => exact fun Hi2 ι2 x H2 st M rx => f a m' Hi2 ι2 x H2 st M rx (GoodS.step h st)
  | exc c ns vs m' => exact fun Hi2 ι2 H2 C dx fs st M => h Hi2 ι2 σ H2 C dx fs st (RR.step st M)
  | bad => exact h
theorem PS.imp {X : Cx} {st : Stmt} {t t' : TS} (h : PS X st t) (hi : ∀ D σ H, t' D σ H → t D σ H) : PS X st t' := ⟨fun pins s σ H D I q => h.run pins s σ H D I (hi D σ H q)⟩
theorem PSs.imp {X : Cx} {st : List Stmt} {t t' : TS} (h : PSs X st t) (hi : ∀ D σ H, t' D σ H → t D σ H) : PSs X st t' := ⟨fun pins s σ H D I q => h.run pins s σ H D I (hi D σ H q)⟩
theorem PG.imp {X : Cx} {e : Expr} {t t' : TG} (h : PG X e t) (hi : ∀ v σ H Q, t' v σ H Q → t v σ H Q) : PG X e t' := ⟨fun pins s σ H v u Q I r q => h.run pins s σ H v u Q I r (hi v σ H Q q)⟩
theorem PGs.imp {X : Cx} {e : List Expr} {t t' : TGs} (h : PGs X e t) (hi : ∀ v σ H Q, t' v σ H Q → t v σ H Q) : PGs X e t' := ⟨fun pins s σ H v u Q I r q => h.run pins s σ H v u Q I r (hi v σ H Q q)⟩
end
section
variable {X : Cx} {Wx : WX} {kk : Nat}
theorem pssd_nil : PSs X [] (tDS X.K X.mg Wx sNext) := PSs.imp pss_nil fun D σ H t => by
  obtain ⟨Hi, ι, ρ, m, RR, g⟩ := t
  exact g _ _ _ _ Step.refl RR
theorem pssd_one {st : Stmt} {f : Ex} (h : PS X st (tDS X.K X.mg Wx f)) : PSs X [st] (tDS X.K X.mg Wx f) := pss_one h
theorem pssd_cons {st : Stmt} {rest : List Stmt} {f g : Ex} (h1 : PS X st (tDS X.K X.mg Wx f)) (h2 : PSs X rest (tDS X.K X.mg Wx g)) : PSs X (st :: rest) (tDS X.K X.mg Wx (sSeq f g)) := PSs.imp (pss_cons h1 h2) fun D σ H t => by
  obtain ⟨Hi, ι, ρ, m, RR, gd⟩ := t
  refine ⟨Hi, ι, ρ, m, RR, ?_⟩
  unfold sSeq at gd
  cases e : f ρ m with
  | nx ρ' m' =>
    rw [e] at gd
    intro Hi2 ι2 σ2 H2 st R2
    exact ⟨Hi2, ι2, ρ', m', R2, GoodS.step gd st⟩
  | bk ρ' m' => rw [e] at gd; exact gd
  | ct ρ' m' => rw [e] at gd; exact gd
  | rt w m' => rw [e] at gd; exact gd
  | xc c ns vs ρ' m' => rw [e] at gd; exact gd
  | bad => rw [e] at gd; exact gd
theorem psd_if {c : Expr} {a b : List Stmt} {pos : Pos} {t : EvT} {f g : Ex} (hc : PT X c (tDT X.K X.mg Wx t)) (ha : PSs X a (tDS X.K X.mg Wx f)) (hb : PSs X b (tDS X.K X.mg Wx g)) : PS X (.If c a b pos) (tDS X.K X.mg Wx (sIf t f g)) := PS.imp (ps_if hc ha hb) fun D σ H t => by
  obtain ⟨Hi, ι, ρ, m, RR, g⟩ := t
  refine ⟨Hi, ι, ρ, m, RR, goodS_lift RR g fun x m1 Hi1 ι1 v H1 st M rv g1 => ?_⟩
  cases rv
  cases x with
  | true => exact ⟨Hi1, ι1, ρ, m1, RR.step st M, g1⟩
  | false => exact ⟨Hi1, ι1, ρ, m1, RR.step st M, g1⟩
theorem psd_expr {e : Expr} {pos : Pos} {f : Ev} (he : PE X e (tD X.K X.mg Wx f)) (hs : swapsWith e none pos.line X.env = pure false := by rfl) : PS X (.Expr e pos) (tDS X.K X.mg Wx (sDrop f)) := PS.imp (ps_expr he hs) fun D σ H t => by
  obtain ⟨Hi, ι, ρ, m, RR, g⟩ := t
  exact ⟨Hi, ι, ρ, m, RR, goodS_lift RR g fun x m1 Hi1 ι1 v H1 st M rv g1 => g1 _ _ _ _ Step.refl (RR.step st M)⟩
theorem psd_ret {e : Expr} {pos : Pos} {f : Ev} (he : PE X e (tD X.K X.mg Wx f)) : PS X (.Return (some e) pos) (tDS X.K X.mg Wx (sRet f)) := PS.imp (ps_ret he) fun D σ H t => by
  obtain ⟨Hi, ι, ρ, m, RR, g⟩ := t
  exact ⟨Hi, ι, ρ, m, RR, goodS_lift RR g fun x m1 Hi1 ι1 v H1 st M rv g1 => g1 _ _ _ _ Step.refl M rv⟩
/-! targets -/
theorem pgd_name {i : Nat} {x : Str} {pos : Pos} (h : PG X (.Name x pos) (gName i)) : PG X (.Name x pos) (tDG X.K X.mg (tgName i)) := PG.imp h fun v σ H Q t => by
  obtain ⟨Hi, ι, ρ, m, w, RR, rw', g⟩ := t
  exact g _ _ _ _ Step.refl ⟨RR.mok, RR.slots.set i rw'⟩
theorem pgsd_nil : PGs X [] (tDGs X.K X.mg tgNil) := PGs.imp pgs_nil fun v σ H Q t => by
  obtain ⟨Hi, ι, ρ, m, ws, RR, rw', g⟩ := t
  cases rw' with
  | nil => exact ⟨rfl, g _ _ _ _ Step.refl RR⟩
  | cons a b => exact g.elim
theorem pgsd_cons {e : Expr} {es : List Expr} {f : Tg} {g : TgL} (h1 : PG X e (tDG X.K X.mg f)) (h2 : PGs X es (tDGs X.K X.mg g)) (hs : (assignEach (e :: es) X.env).map (·.2) = assign e X.env :: (assignEach es X.env).map (·.2) := by rfl) : PGs X (e :: es) (tDGs X.K X.mg (tgCons f g)) :=
  PGs.imp (pgs_cons h1 h2 hs) fun v σ H Q t => by
    obtain ⟨Hi, ι, ρ, m, ws, RR, rw', gd⟩ := t
    cases rw' with
    | nil => exact gd.elim
    | cons a b =>
      rename_i v vs w ws
      refine ⟨v, vs, rfl, Hi, ι, ρ, m, w, RR, a, ?_⟩
      unfold tgCons at gd
      cases e : f w ρ m with
      | ok ρ' m' =>
        simp only [e, R.bind_ok] at gd
        intro Hi2 ι2 σ2 H2 st R2
        refine ⟨Hi2, ι2, ρ', m', ws, R2, b.step st, ?_⟩
        cases e2 : g ws ρ' m' with
        | ok ρ2 m2 =>
          rw [e2] at gd
          exact fun a b c d st2 => gd a b c d (st.trans st2)
        | exc c ns vs m2 => rw [e2] at gd; exact gd
        | bad => rw [e2] at gd; exact gd
      | exc c ns vs m2 => simp only [e, R.bind_exc] at gd
      | bad => simp only [e, R.bind_bad] at gd
theorem asg_imp {f : Ev} {g : Tg} {D : Ends} {σ : L2.St} {H : Hp} (t : tDS X.K X.mg Wx (sAsg f g) D σ H) : tAsg (tD X.K X.mg Wx f) (tDG X.K X.mg g) D σ H := by
  obtain ⟨Hi, ι, ρ, m, RR, gd⟩ := t
  refine ⟨Hi, ι, ρ, m, RR, goodS_lift RR gd fun x m1 Hi1 ι1 v H1 st M rv g1 => ⟨Hi1, ι1, ρ, m1, x, RR.step st M, rv, ?_⟩⟩
  cases e : g x ρ m1 with
  | ok ρ2 m2 =>
    rw [e] at g1
    exact g1
  | exc c ns vs m2 => rw [e] at g1; exact g1
  | bad => rw [e] at g1; exact g1
theorem psd_asg {tg e : Expr} {pos : Pos} {f : Ev} {g : Tg} (he : PE X e (tD X.K X.mg Wx f)) (hg : PG X tg (tDG X.K X.mg g)) (hs : swapsWithSole [tg] e pos.line X.env = pure false := by rfl) (hw : swappedStores [tg] e X.env = pure none := by rfl)
    (h1 : (assignEach [tg] X.env).map (·.2) = [assign tg X.env] := by rfl) : PS X (.Assign [tg] e pos) (tDS X.K X.mg Wx (sAsg f g)) := PS.imp (ps_asg he hg hs hw h1) fun D σ H t => asg_imp t
theorem psd_set {i : Nat} {x : Str} {e : Expr} {pos pos' : Pos} {f : Ev} (hN : X.N.Nodup) (hi : X.N[i]? = some x) (hx : Loc X.env.scope x) (he : PE X e (tD X.K X.mg Wx f)) (hs : swapsWith e (some (.Name x pos')) pos.line X.env = pure false := by rfl) (hf : X.fn x = true ∨ X.env.scope.names.lookup x = some .local := by first | exact .inl rfl | exact .inr rfl | assumption) :
    PS X (.Assign [.Name x pos'] e pos) (tDS X.K X.mg Wx (sAsg f (tgName i))) := PS.imp (ps_set hN hi hx he hs hf) fun D σ H t => by
  obtain ⟨Hi, ι, ρ, m, RR, gd⟩ := t
  refine ⟨Hi, ι, ρ, m, RR, goodS_lift RR gd fun x m1 Hi1 ι1 v H1 st M rv g1 => ?_⟩
  exact g1 _ _ _ _ Step.refl ⟨M, (RR.slots.step st).set i rv⟩
theorem psd_par {i j : Nat} {x y : Str} {a b : Expr} {f : EvL} {px py pt pos : Pos} {kt k2 pt2} (h : ∀ ta : TA, PA X [a, b] ta → PS X (.Assign [.Tuple [.Name x px, .Name y py] kt pt] (.Tuple [a, b] k2 pt2) pos) (tPar i j ta)) (ha : PA X [a, b] (tDA X.K X.mg Wx f)) :
    PS X (.Assign [.Tuple [.Name x px, .Name y py] kt pt] (.Tuple [a, b] k2 pt2) pos) (tDS X.K X.mg Wx (sPar i j f)) := PS.imp (h _ ha) fun D σ H t => by
  obtain ⟨Hi, ι, ρ, m, RR, gd⟩ := t
  refine ⟨Hi, ι, ρ, m, RR, goodS_lift RR gd fun ws m1 Hi1 ι1 vs H1 st M rv g1 => ?_⟩
  split at g1
  · cases rv with
    | cons a1 b1 =>
      cases b1 with
      | cons a2 b2 =>
        cases b2
        exact ⟨_, _, rfl, g1 _ _ _ _ Step.refl ⟨M, ((RR.slots.step st).set i a1).set j a2⟩⟩
  · exact g1.elim
/-! while -/
end
end GD
/-! GD4: loops, comprehensions, defs. -/
namespace GD
open PySem PySem.Spec PyProof.Rows L2
section
variable (K : PySem.W.Frag) (mg : Str → Option Value)
/-- J walks the items ws, whatever is made or changed meanwhile -/
structure ItOk (Hi : Hp) (ι : List Addr) (J : It) (ws : List W) : Prop where
  go : ∀ (i : Nat) (Hi1 : Hp) (ι1 : List Addr) (m1 : Mem) (H1 : Hp), Same Hi Hi1 → ι <+: ι1 → Mok K mg Hi1 ι1 m1 H1 → i < ws.length → J.go i H1
  stop : ∀ (i : Nat) (Hi1 : Hp) (ι1 : List Addr) (m1 : Mem) (H1 : Hp), Same Hi Hi1 → ι <+: ι1 → Mok K mg Hi1 ι1 m1 H1 → ws.length ≤ i → J.stop i H1
  yld : ∀ (i : Nat) (w : W) (Hi1 : Hp) (ι1 : List Addr) (m1 : Mem) (H1 : Hp) (x : V) (H2 : Hp), Same Hi Hi1 → ι <+: ι1 → Mok K mg Hi1 ι1 m1 H1 → ws[i]? = some w → J.yld i H1 x H2 → ∃ Hi2, Step Hi1 ι1 H1 Hi2 ι1 H2 ∧ Mok K mg Hi2 ι1 m1 H2 ∧ RepW K mg Hi2 ι1 x w
def tDI (Wx : WX) (f : EvL) : TI := fun σ H Q => ∃ Hi ι ρ m, Rel K mg Hi ι ρ m σ H ∧ Good K mg (ItOk K mg) Wx σ Hi ι H (f ρ m) Q
end
section
variable {X : Cx} {Wx : WX} {kk : Nat}
theorem PI.imp {tg iter : Expr} {t t' : TI} (h : PI X tg iter t) (hi : ∀ σ H Q, t' σ H Q → t σ H Q) : PI X tg iter t' := ⟨fun pins s σ H R I q => h.run pins s σ H R I (hi σ H R q)⟩
theorem drop_cons {α : Type} {ws : List α} {i : Nat} {w : α} {r : List α} (h : ws.drop i = w :: r) : i < ws.length ∧ ws[i]? = some w ∧ ws.drop (i + 1) = r := by
  have h1 : i < ws.length := by
    apply Nat.lt_of_not_le
    intro hl
    rw [List.drop_eq_nil_of_le hl] at h
    cases h
  rw [List.drop_eq_getElem_cons h1] at h
  injection h with h2 h3
  exact ⟨h1, by rw [List.getElem?_eq_getElem h1, h2], h3⟩
theorem drop_nil {α : Type} {ws : List α} {i : Nat} (h : ws.drop i = []) : ws.length ≤ i := by
  rw [List.drop_eq_nil_iff] at h
  exact h
theorem psd_for {tg iter : Expr} {body : List Stmt} {pos : Pos} {it : EvL} {g : Tg} {b : Ex} (hp : PassesOwn (model X.prog X.w) X.A X.env X.xe) (hc : X.calm = true) (hi : PI X tg iter (tDI X.K X.mg Wx it)) (hg : PG X tg (tDG X.K X.mg g)) (hb : PSs X body (tDS X.K X.mg Wx b))
    (hs : ∀ x, foldedSetIterable iter X.env x = pure x := by intro _; rfl) : PS X (.For tg iter body [] pos) (tDS X.K X.mg Wx (sFor it g b)) := PS.imp (ps_for hp hc hi hg hb hs) fun D σ H t0 => by
  obtain ⟨Hi, ι, ρ, m, RR, gd⟩ := t0
  refine ⟨Hi, ι, ρ, m, RR, goodS_lift RR gd fun ws m1 Hi1 ι1 J H1 st M rJ g1 => ?_⟩
  refine ⟨fun i n σ' H' => ∃ Hi' ι' ρ' m', Same Hi1 Hi' ∧ ι1 <+: ι' ∧ Rel X.K X.mg Hi' ι' ρ' m' σ' H' ∧ n = ws.length - i ∧ GoodS X.K X.mg Wx D Hi' ι' H' (loop g b (ws.drop i) ρ' m'), ⟨_, Hi1, ι1, ρ, m1, Same.refl _, List.prefix_refl _, RR.step st M, rfl, g1⟩, ?_⟩
  rintro i n σ' H' ⟨Hi', ι', ρ', m', sm, pr, R', rfl, gd'⟩
  cases e : ws.drop i with
  | nil =>
    rw [e] at gd'
    exact .inl ⟨rJ.stop i _ _ _ _ sm pr R'.mok (drop_nil e), gd' _ _ _ _ Step.refl R'⟩
  | cons w r =>
    obtain ⟨h1, h2, h3⟩ := drop_cons e
    rw [e] at gd'
    refine .inr ⟨rJ.go i _ _ _ _ sm pr R'.mok h1, fun σ'' H'' => ∃ Hi2 ι2 ρ2 m2, Same Hi1 Hi2 ∧ ι1 <+: ι2 ∧ Rel X.K X.mg Hi2 ι2 ρ2 m2 σ'' H'' ∧ GoodS X.K X.mg Wx D Hi2 ι2 H'' (loop g b (ws.drop (i + 1)) ρ2 m2),
      fun σ'' H'' ⟨Hi2, ι2, ρ2, m2, a1, a2, a3, a4⟩ => ⟨ws.length - (i + 1), by omega, Hi2, ι2, ρ2, m2, a1, a2, a3, rfl, a4⟩, fun x H2 hy => ?_⟩
    obtain ⟨Hi2, st2, M2, rx⟩ := rJ.yld i w _ _ _ _ x H2 sm pr R'.mok h2 hy
    refine ⟨Hi2, ι', ρ', m', w, R'.step st2 M2, rx, ?_⟩
    unfold loop at gd'
    cases e2 : g w ρ' m' with
    | exc c ns vs m2 => rw [e2] at gd'; exact gd'.elim
    | bad => rw [e2] at gd'; exact gd'.elim
    | ok ρ2 m2 =>
      rw [e2] at gd'
      simp only [noX, R.lift_ok] at gd'
      intro Hi3 ι3 σ3 H3 st3 R3
      refine ⟨Hi3, ι3, ρ2, m2, R3, ?_⟩
      have sm3 := (sm.trans st2.imm).trans st3.imm
      have pr3 := pr.trans st3.pre
      have gd3 := GoodS.step gd' (st2.trans st3)
      rw [h3]
      cases e4 : b ρ2 m2 with
      | nx ρ4 m4 =>
        rw [e4] at gd3
        exact fun Hi5 ι5 σ5 H5 st5 R5 => ⟨Hi5, ι5, ρ4, m4, sm3.trans st5.imm, pr3.trans st5.pre, R5, GoodS.step gd3 st5⟩
      | ct ρ4 m4 =>
        rw [e4] at gd3
        exact fun Hi5 ι5 σ5 H5 st5 R5 => ⟨Hi5, ι5, ρ4, m4, sm3.trans st5.imm, pr3.trans st5.pre, R5, GoodS.step gd3 st5⟩
      | bk ρ4 m4 => rw [e4] at gd3; exact gd3
      | rt w m4 => rw [e4] at gd3; exact gd3
      | xc c ns vs ρ4 m4 => rw [e4] at gd3; exact gd3
      | bad => rw [e4] at gd3; exact gd3
theorem psd_frz {st : Stmt} {i : Nat} {f : Ex} (h : PS X st (tDS X.K X.mg Wx f)) : PS X st (tDS X.K X.mg Wx (sFrz i f)) := PS.imp h fun D σ H t => by
  obtain ⟨Hi, ι, ρ, m, RR, gd⟩ := t
  refine ⟨Hi, ι, ρ, m, RR, ?_⟩
  unfold sFrz at gd
  cases e : f ρ m with
  | nx ρ' m' =>
    rw [e] at gd
    dsimp only at gd
    intro Hi2 ι2 σ2 H2 st R2
    split at gd
    · rename_i k e1
      split at gd
      · rename_i xs e2
        obtain ⟨v, hv, a, h1, rfl⟩ := R2.slots.2 i _ e1
        obtain ⟨vs, h2, h3⟩ := R2.mok.obj k _ a e2 h1
        obtain ⟨M3, st3⟩ := R2.mok.frz h1 e2 h2
        refine gd _ _ _ _ (st.trans st3) ⟨M3, ?_⟩
        have hs := (R2.slots.step st3).set (v := .ref a) (w := .d (.lst xs)) i (.lst upd_same (h3.mono st3.imm))
        have es : σ2.set i (some (.ref a)) = σ2 := by
          apply List.ext_getElem?
          intro j
          by_cases hj : i = j
          · subst hj
            rw [hv]
            exact List.getElem?_set_self (List.getElem?_eq_some_iff.mp hv).1
          · rw [List.getElem?_set_ne hj]
        rw [es] at hs
        exact hs
      · exact gd.elim
    · exact gd.elim
  | bk ρ' m' => rw [e] at gd; exact gd
  | ct ρ' m' => rw [e] at gd; exact gd
  | rt w m' => rw [e] at gd; exact gd
  | xc c ns vs ρ' m' => rw [e] at gd; exact gd
  | bad => rw [e] at gd; exact gd
/-! ### what is walked -/
/-- a list or a tuple -/
def iSeq (a : Ev) : EvL := fun ρ m => (a ρ m).bind fun w m => match w with
  | .d (.lst xs) => .ok (xs.map .d) m
  | .d (.fls xs) => .ok (xs.map .d) m
  | .d (.tup xs) => .ok (xs.map .d) m
  | _ => .bad
theorem PI.or {tg iter : Expr} {t t' : TI} (h : PI X tg iter t) (h' : PI X tg iter t') : PI X tg iter (fun σ H Q => t σ H Q ∨ t' σ H Q) := ⟨fun pins s σ H R I q => q.elim (h.run pins s σ H R I) (h'.run pins s σ H R I)⟩
theorem get_map {ds : List D} {i : Nat} {w : W} (h : (ds.map W.d)[i]? = some w) : ∃ x, ds[i]? = some x ∧ w = .d x := by
  rw [List.getElem?_map] at h
  cases e : ds[i]? with
  | none => rw [e] at h; cases h
  | some x => rw [e] at h; cases h; exact ⟨x, rfl, rfl⟩
theorem itOk_list {K : PySem.W.Frag} {mg : Str → Option Value} {Hi : Hp} {ι : List Addr} {a : Addr} {vs : List V} {ds : List D} (s : SqL K Hi a vs) (r : RepL K mg Hi vs ds) : ItOk K mg Hi ι (Itl K a) (ds.map .d) where
  go := fun i Hi1 ι1 m1 H1 sm _ M hi => by
    have hl : i < vs.length := by rw [r.length]; simpa using hi
    exact ⟨vs, vs[i], sqL_mono (sm.trans M.sub) s, by simp [hl]⟩
  stop := fun i Hi1 ι1 m1 H1 sm _ M hi => ⟨vs, sqL_mono (sm.trans M.sub) s, by rw [r.length]; simpa using hi⟩
  yld := fun i w Hi1 ι1 m1 H1 x H2 sm pr M hw hy => by
    obtain ⟨e, hy⟩ := hy
    subst e
    have hv := hy vs (sqL_mono (sm.trans M.sub) s)
    obtain ⟨d, hd, rfl⟩ := get_map hw
    obtain ⟨v, h1, h2⟩ := r.get hd
    rw [hv] at h1
    cases h1
    exact ⟨Hi1, Step.refl, M, h2.mono sm⟩
theorem itOk_tup {K : PySem.W.Frag} {mg : Str → Option Value} {Hi : Hp} {ι : List Addr} {a : Addr} {vs : List V} {ds : List D} (s : SqT K Hi a vs) (r : RepL K mg Hi vs ds) : ItOk K mg Hi ι (Itt K a) (ds.map .d) where
  go := fun i Hi1 ι1 m1 H1 sm _ M hi => by
    have hl : i < vs.length := by rw [r.length]; simpa using hi
    exact ⟨vs, vs[i], sqT_mono (sm.trans M.sub) s, by simp [hl]⟩
  stop := fun i Hi1 ι1 m1 H1 sm _ M hi => ⟨vs, sqT_mono (sm.trans M.sub) s, by rw [r.length]; simpa using hi⟩
  yld := fun i w Hi1 ι1 m1 H1 x H2 sm pr M hw hy => by
    obtain ⟨e, hy⟩ := hy
    subst e
    have hv := hy vs (sqT_mono (sm.trans M.sub) s)
    obtain ⟨d, hd, rfl⟩ := get_map hw
    obtain ⟨v, h1, h2⟩ := r.get hd
    rw [hv] at h1
    cases h1
    exact ⟨Hi1, Step.refl, M, h2.mono sm⟩
theorem pid_seq {tg l : Expr} {f : Ev} (hl : PE X l (tD X.K X.mg Wx f)) : PI X tg l (tDI X.K X.mg Wx (iSeq f)) := PI.imp (PI.or (pi_list hl) (pi_tup hl)) fun σ H Q t => by
  obtain ⟨Hi, ι, ρ, m, RR, gd⟩ := t
  unfold iSeq at gd
  cases e : f ρ m with
  | bad => rw [e] at gd; exact gd.elim
  | exc c ns vs m1 => rw [e] at gd; exact .inl ⟨Hi, ι, ρ, m, RR, by rw [e]; exact gd⟩
  | ok w m1 =>
    rw [e, R.bind_ok] at gd
    split at gd
    · rename_i xs
      refine .inl ⟨Hi, ι, ρ, m, RR, ?_⟩
      rw [e]
      intro Hi1 ι1 v H1 st M rv
      cases rv with
      | lst s r => exact ⟨_, rfl, ⟨_, .inl (.inl (M.sub _ _ s))⟩, gd _ _ _ _ st M (itOk_list (.inl (.inl s)) r)⟩
    · rename_i xs
      refine .inl ⟨Hi, ι, ρ, m, RR, ?_⟩
      rw [e]
      intro Hi1 ι1 v H1 st M rv
      cases rv with
      | fls s r => exact ⟨_, rfl, ⟨_, sqL_mono M.sub s⟩, gd _ _ _ _ st M (itOk_list s r)⟩
    · rename_i xs
      refine .inr ⟨Hi, ι, ρ, m, RR, ?_⟩
      rw [e]
      intro Hi1 ι1 v H1 st M rv
      cases rv with
      | tup s r => exact ⟨_, rfl, ⟨_, sqT_mono M.sub s⟩, gd _ _ _ _ st M (itOk_tup s r)⟩
    · exact gd.elim
/-- range(a), range(a, b) -/
def rngL (i j : Int) : List W := (List.range (j - i).toNat).map fun (k : Nat) => W.d (.int (i + (k : Int)))
def iRange1 (a : EvL) : EvL := fun ρ m => (a ρ m).bind fun ws m => match ws with
  | [.d (.int j)] => if j < 2 ^ 62 ∧ -(2 ^ 62) ≤ j then .ok (rngL 0 j) m else .bad
  | _ => .bad
theorem itOk_rng {K : PySem.W.Frag} {mg : Str → Option Value} {Hi : Hp} {ι : List Addr} {i j : Int} : ItOk K mg Hi ι (Itr i (j - i).toNat) (rngL i j) where
  go := fun k Hi1 ι1 m1 H1 sm _ M hi => by
    have hi' : k < (rngL i j).length := hi
    unfold rngL at hi'
    rw [List.length_map, List.length_range] at hi'
    exact hi'
  stop := fun k Hi1 ι1 m1 H1 sm _ M hi => by
    have hi' : (rngL i j).length ≤ k := hi
    unfold rngL at hi'
    rw [List.length_map, List.length_range] at hi'
    exact hi'
  yld := fun k w Hi1 ι1 m1 H1 x H2 sm pr M hw hy => by
    obtain ⟨e, hy⟩ := hy
    subst e hy
    refine ⟨Hi1, Step.refl, M, ?_⟩
    unfold rngL at hw
    rw [List.getElem?_map] at hw
    cases e : (List.range (j - i).toNat)[k]? with
    | none => rw [e] at hw; cases hw
    | some n =>
      rw [e] at hw
      cases hw
      have e2 : k = n := by
        obtain ⟨h1, h2⟩ := List.getElem?_eq_some_iff.mp e
        simpa using h2
      subst e2
      exact .int _
theorem pid_range1 {tg a : Expr} {p pos : Pos} {f : EvL} (hg : Gl X "range") (hm : X.mg "range" = none) (ha : PA X [a] (tDA X.K X.mg Wx f)) (hs : starEach [a] X.env = [(false, eval a X.env)] := by rfl) : PI X tg (.Call (.Name "range" p) [a] [] pos) (tDI X.K X.mg Wx (iRange1 f)) :=
  PI.imp (pi_range1 hg hm ha hs) fun σ H Q t => by
    obtain ⟨Hi, ι, ρ, m, RR, gd⟩ := t
    refine ⟨Hi, ι, ρ, m, RR, good_bind gd fun ws m1 Hi1 ι1 vs H1 st M rv g1 => ?_⟩
    split at g1
    · rename_i j
      split at g1
      · rename_i hj
        cases rv with
        | cons r1 r2 =>
          cases r2
          cases r1
          have z := itOk_rng (K := X.K) (mg := X.mg) (Hi := Hi1) (ι := ι1) (i := 0) (j := j)
          rw [Int.sub_zero] at z
          exact ⟨j, rfl, hj.2, hj.1, g1.here M z⟩
      · exact g1.elim
    · exact g1.elim
end
/-! ### comprehensions -/
section
variable (K : PySem.W.Frag) (mg : Str → Option Value)
/-- a target of a comprehension: it stores to the slots vs alone -/
def tDGv (vs : List Nat) (g : Tg) : TG := fun v σ H Q => ∃ Hi ι ρ m w, Rel K mg Hi ι ρ m σ H ∧ RepW K mg Hi ι v w ∧ (match g w ρ m with
  | .ok ρ' m' => ∀ (Hi' : Hp) (ι' : List Addr) (σ' : L2.St) (H' : Hp), Step Hi ι H Hi' ι' H' → Rel K mg Hi' ι' ρ' m' σ' H' → L2.wipe σ' vs = L2.wipe σ vs → Q σ' H'
  | _ => False)
def tDGsv (vs : List Nat) (g : TgL) : TGs := fun us σ H Q => ∃ Hi ι ρ m ws, Rel K mg Hi ι ρ m σ H ∧ RepWs K mg Hi ι us ws ∧ (match g ws ρ m with
  | .ok ρ' m' => ∀ (Hi' : Hp) (ι' : List Addr) (σ' : L2.St) (H' : Hp), Step Hi ι H Hi' ι' H' → Rel K mg Hi' ι' ρ' m' σ' H' → L2.wipe σ' vs = L2.wipe σ vs → Q σ' H'
  | _ => False)
end
theorem wipe_set {σ : L2.St} {i : Nat} {o : Option V} : ∀ {vs : List Nat}, i ∈ vs → L2.wipe (σ.set i o) vs = L2.wipe σ vs
  | [], h => by cases h
  | v :: vs, h => by
    unfold L2.wipe
    by_cases hv : i ∈ vs
    · rw [wipe_set hv]
    · have e : v = i := by
        rcases List.mem_cons.mp h with h | h
        · exact h.symm
        · exact absurd h hv
      subst e
      have com : ∀ us : List Nat, v ∉ us → L2.wipe (σ.set v o) us = (L2.wipe σ us).set v o := by
        intro us
        induction us with
        | nil => intro _; rfl
        | cons u us ih =>
          intro hu
          unfold L2.wipe
          rw [ih (fun q => hu (List.mem_cons_of_mem _ q)), List.set_comm]
          intro q
          exact hu (by rw [q]; exact List.mem_cons_self)
      rw [com vs hv, List.set_set]
theorem wipe_wipe (σ : L2.St) : ∀ vs : List Nat, L2.wipe (L2.wipe σ vs) vs = L2.wipe σ vs := by
  intro vs
  have h : ∀ us : List Nat, (∀ u ∈ us, u ∈ vs) → L2.wipe (L2.wipe σ us) vs = L2.wipe σ vs := by
    intro us
    induction us with
    | nil => intro _; rfl
    | cons u us ih =>
      intro hu
      show L2.wipe ((L2.wipe σ us).set u none) vs = _
      rw [wipe_set (hu u List.mem_cons_self)]
      exact ih fun z hz => hu z (List.mem_cons_of_mem _ hz)
  exact h vs fun _ h => h
section
variable {X : Cx} {Wx : WX} {kk : Nat} {vs : List Nat}
theorem pgv_name {i : Nat} {x : Str} {pos : Pos} (h : PG X (.Name x pos) (gName i)) (hi : i ∈ vs) : PG X (.Name x pos) (tDGv X.K X.mg vs (tgName i)) := PG.imp h fun v σ H Q t => by
  obtain ⟨Hi, ι, ρ, m, w, RR, rw', g⟩ := t
  exact g _ _ _ _ Step.refl ⟨RR.mok, RR.slots.set i rw'⟩ (wipe_set hi)
theorem pgsv_nil : PGs X [] (tDGsv X.K X.mg vs tgNil) := PGs.imp pgs_nil fun v σ H Q t => by
  obtain ⟨Hi, ι, ρ, m, ws, RR, rw', g⟩ := t
  cases rw' with
  | nil => exact ⟨rfl, g _ _ _ _ Step.refl RR rfl⟩
  | cons a b => exact g.elim
theorem pgsv_cons {e : Expr} {es : List Expr} {f : Tg} {g : TgL} (h1 : PG X e (tDGv X.K X.mg vs f)) (h2 : PGs X es (tDGsv X.K X.mg vs g)) (hs : (assignEach (e :: es) X.env).map (·.2) = assign e X.env :: (assignEach es X.env).map (·.2) := by rfl) : PGs X (e :: es) (tDGsv X.K X.mg vs (tgCons f g)) :=
  PGs.imp (pgs_cons h1 h2 hs) fun v σ H Q t => by
    obtain ⟨Hi, ι, ρ, m, ws, RR, rw', gd⟩ := t
    cases rw' with
    | nil => exact gd.elim
    | cons a b =>
      rename_i v vs w ws
      refine ⟨v, vs, rfl, Hi, ι, ρ, m, w, RR, a, ?_⟩
      unfold tgCons at gd
      cases e : f w ρ m with
      | ok ρ' m' =>
        simp only [e, R.bind_ok] at gd
        intro Hi2 ι2 σ2 H2 st R2 ew
        refine ⟨Hi2, ι2, ρ', m', ws, R2, b.step st, ?_⟩
        cases e2 : g ws ρ' m' with
        | ok ρ2 m2 =>
          rw [e2] at gd
          exact fun a b c d st2 r2 ew2 => gd a b c d (st.trans st2) r2 (ew2.trans ew)
        | exc c ns vs m2 => rw [e2] at gd; exact gd
        | bad => rw [e2] at gd; exact gd
      | exc c ns vs m2 => simp only [e, R.bind_exc] at gd
      | bad => simp only [e, R.bind_bad] at gd
theorem pgv_tup {es : List Expr} {k : Nat} {pos : Pos} {g : TgL} {n : Nat} (hc : X.calm = true) (h : PGs X es (tDGsv X.K X.mg vs g)) (hn : (assignEach es X.env).length = n := by rfl) (hst : (assignEach es X.env).findIdx? (·.1) = none := by rfl) :
    PG X (.Tuple es k pos) (tDGv X.K X.mg vs (tgTup n g)) := PG.imp (pg_tup hc h hn hst) fun v σ H Q t => by
  obtain ⟨Hi, ι, ρ, m, w, RR, rw', gd⟩ := t
  cases w with
  | m k => exact gd.elim
  | d x =>
    cases x with
    | tup xs =>
      by_cases hl : xs.length = n
      · have e : tgTup n g (.d (.tup xs)) ρ m = g (xs.map .d) ρ m := if_pos hl
        rw [e] at gd
        cases rw' with
        | tup s r =>
          rename_i a vs
          exact ⟨a, vs, rfl, sqT_mono RR.mok.sub s, r.length.trans hl, Hi, ι, ρ, m, _, RR, r.ws, gd⟩
      · have e : tgTup n g (.d (.tup xs)) ρ m = .bad := if_neg hl
        rw [e] at gd
        exact gd.elim
    | _ => exact gd.elim
/-- no error is wanted -/
abbrev W0 : WX := fun _ _ _ _ => False
theorem ptsd_nil : PTs X [] (tDT X.K X.mg Wx gYes) := ⟨fun pins s σ H Q I h => pts_nil.run pins s σ H Q I (by
  obtain ⟨Hi, ι, ρ, m, RR, gd⟩ := h
  exact gd.here (rep := fun _ _ x a => x = a) RR.mok rfl)⟩
theorem lc_imp {it : EvL} {g : Tg} {t : EvT} {e : Ev} {mu : Bool} {σ : L2.St} {H : Hp} {Q : VK} (h : tD X.K X.mg Wx (if mu then fLcM it g t e vs else fLc it g t e vs) σ H Q) : tLc (tDI X.K X.mg Wx it) (tDGv X.K X.mg vs g) (tDT X.K X.mg W0 t) (tD X.K X.mg W0 e) vs σ H Q := by
  obtain ⟨Hi, ι, ρ, m, RR, gd⟩ := h
  have gd' : Good X.K X.mg (RepW X.K X.mg) Wx σ Hi ι H ((it ρ m).bind fun ws m => (noX (lcs g t e (wipeE ρ vs) ws [] m)).bind fun xs m => if mu then .ok (.m m.length) (m ++ [MO.lst xs]) else .ok (W.d (D.lst xs)) m) Q := by
    cases mu with
    | true => exact gd
    | false => exact gd
  clear gd
  refine ⟨Hi, ι, ρ, m, RR, good_bind gd' fun ws m1 Hi1 ι1 J H1 st M rJ g1 => ?_⟩
  intro DD hD
  have R1 := RR.step st M
  have hDi : Hi1 DD = none := M.sub.free hD
  have hDm : DD ∉ ι1 := fun hm => by
    obtain ⟨o, ho⟩ := M.live hm
    rw [hD] at ho
    cases ho
  refine ⟨fun i n H' => ∃ Hi' ι' m' acc vacc, Step Hi1 ι1 H1 Hi' ι' H' ∧ Mok X.K X.mg Hi' ι' m' H' ∧ Hi' DD = none ∧ DD ∉ ι' ∧ H' DD = some (.lst vacc) ∧ RepL X.K X.mg Hi' vacc acc ∧ n = ws.length - i ∧
    Good X.K X.mg (RepW X.K X.mg) Wx σ Hi1 ι1 H1 ((noX (lcs g t e (wipeE ρ vs) (ws.drop i) acc m')).bind fun xs m => if mu then .ok (.m m.length) (m ++ [MO.lst xs]) else .ok (W.d (D.lst xs)) m) Q,
    ⟨_, Hi1, ι1, m1, [], [], ⟨Same.refl _, List.prefix_refl _, fun a o ha _ => by rw [upd_ne (ne_of_none ha hD)]; exact ha, fun a h1 h2 => absurd h1 h2, fun a h => upd_live h, fun a _ h1 _ => h1⟩, ?_, hDi, hDm, upd_same, .nil, rfl, g1⟩, ?_⟩
  · refine ⟨fun b u q => by rw [upd_ne (ne_of_none q hDi)]; exact M.sub b u q, M.len, M.nd, M.free, fun k mo a h1 h2 => (M.obj k mo a h1 h2).mono (Same.refl _) (upd_ne fun z => hDm (by rw [← z]; exact List.mem_of_getElem? h2))⟩
  rintro i n H' ⟨Hi', ι', m', acc, vacc, st', M', hi', hm', hd', ra, rfl, gd⟩
  cases ew : ws.drop i with
  | nil =>
    rw [ew] at gd
    refine .inl ⟨rJ.stop i _ _ _ _ st'.imm st'.pre M' (drop_nil ew), ?_⟩
    cases mu with
    | false =>
      refine gd (upd Hi' DD (.lst vacc)) ι' (.ref DD) H' ?_ (M'.keep hd' hm' hi') (.lst upd_same (ra.mono fun b u q => by rw [upd_ne (ne_of_none q hi')]; exact q))
      exact ⟨st'.imm.trans fun b u q => by rw [upd_ne (ne_of_none q hi')]; exact q, st'.pre, st'.frm, st'.new, st'.live, fun a h0 h1 h2 => by rw [upd_ne (fun z => h2 (by rw [z]; exact hD))]; exact st'.inew a h0 h1 h2⟩
    | true =>
      refine gd Hi' (ι' ++ [DD]) (.ref DD) H' ⟨st'.imm, st'.pre.trans (List.prefix_append _ _), st'.frm, fun a h1 h2 => ?_, st'.live, st'.inew⟩ ?_ ⟨DD, by rw [← M'.len, List.getElem?_append_right (Nat.le_refl _)]; simp, rfl⟩
      · rcases List.mem_append.mp h1 with h1 | h1
        · exact st'.new a h1 h2
        · rw [List.mem_singleton] at h1; subst h1; exact hD
      · refine ⟨M'.sub, by simp [M'.len], ?_, fun k mo a h1 h2 h3 => ?_, fun k mo a h1 h2 => ?_⟩
        · rw [List.nodup_append]
          exact ⟨M'.nd, by simp, fun a ha b hb => by rw [List.mem_singleton] at hb; subst hb; exact fun z => hm' (by rw [← z]; exact ha)⟩
        · by_cases hk : k < m'.length
          · rw [List.getElem?_append_left hk] at h1
            rw [List.getElem?_append_left (by rw [M'.len]; exact hk)] at h2
            exact M'.free k mo a h1 h2 h3
          · rw [List.getElem?_append_right (by rw [M'.len]; omega)] at h2
            have hm := List.mem_of_getElem? h2
            rw [List.mem_singleton] at hm; subst hm; exact hi'
        · by_cases hk : k < m'.length
          · rw [List.getElem?_append_left hk] at h1
            rw [List.getElem?_append_left (by rw [M'.len]; exact hk)] at h2
            exact M'.obj k mo a h1 h2
          · rw [List.getElem?_append_right (by omega)] at h1
            rw [List.getElem?_append_right (by rw [M'.len]; omega)] at h2
            have ek : k - m'.length = 0 := by
              cases e : k - m'.length with
              | zero => rfl
              | succ n => rw [e] at h1; simp at h1
            rw [ek] at h1
            rw [M'.len, ek] at h2
            simp at h1 h2
            subst h1 h2
            exact ⟨vacc, hd', ra⟩
  | cons w r =>
    obtain ⟨h1, h2, h3⟩ := drop_cons ew
    rw [ew] at gd
    refine .inr ⟨rJ.go i _ _ _ _ st'.imm st'.pre M' h1, fun H'' => ∃ Hi2 ι2 m2 acc2 vacc2, Step Hi1 ι1 H1 Hi2 ι2 H'' ∧ Mok X.K X.mg Hi2 ι2 m2 H'' ∧ Hi2 DD = none ∧ DD ∉ ι2 ∧ H'' DD = some (.lst vacc2) ∧ RepL X.K X.mg Hi2 vacc2 acc2 ∧
      Good X.K X.mg (RepW X.K X.mg) Wx σ Hi1 ι1 H1 ((noX (lcs g t e (wipeE ρ vs) (ws.drop (i + 1)) acc2 m2)).bind fun xs m => if mu then .ok (.m m.length) (m ++ [MO.lst xs]) else .ok (W.d (D.lst xs)) m) Q,
      fun H'' ⟨Hi2, ι2, m2, acc2, vacc2, a1, a2, a3, a4, a5, a6, a7⟩ => ⟨ws.length - (i + 1), by omega, Hi2, ι2, m2, acc2, vacc2, a1, a2, a3, a4, a5, a6, rfl, a7⟩, fun x H2 hy => ?_⟩
    rw [h3]
    obtain ⟨Hi2, st2, M2, rx⟩ := rJ.yld i w _ _ _ _ x H2 st'.imm st'.pre M' h2 hy
    -- what happens to DD in a step
    have dstep : ∀ {Ha : Hp} {ιa : List Addr} {Hb : Hp} {ιb : List Addr} {Ga Gb : Hp}, Step Ha ιa Ga Hb ιb Gb → DD ∉ ιa → Ga DD = some (.lst vacc) → Ha DD = none → Gb DD = some (.lst vacc) ∧ DD ∉ ιb ∧ Hb DD = none := fun s h1 h2 h3 =>
      ⟨s.frm DD _ h2 h1, (fun hm => by rw [s.new DD hm h1] at h2; cases h2), s.inew DD h1 h3 (by rw [h2]; exact fun q => nomatch q)⟩
    obtain ⟨d2, m2, i2⟩ := dstep st2 hm' hd' hi'
    have st12 := st'.trans st2
    refine ⟨Hi2, ι', wipeE ρ vs, m', w, ⟨M2, (R1.slots.wipe vs).step st12⟩, rx, ?_⟩
    unfold lcs at gd
    cases e3 : g w (wipeE ρ vs) m' with
    | exc c ns vs m2 => rw [e3] at gd; exact gd.elim
    | bad => rw [e3] at gd; exact gd.elim
    | ok ρ3 m3 =>
      rw [e3, R.bind_ok] at gd
      intro Hi3 ι3 σ3 H3 st3 R3 ew3
      refine ⟨ew3.trans (wipe_wipe σ vs), Hi3, ι3, ρ3, m3, R3, ?_⟩
      obtain ⟨d3, mm3, i3⟩ := dstep st3 m2 d2 i2
      have st13 := st12.trans st3
      cases e4 : t ρ3 m3 with
      | exc c ns vs m2 => rw [e4] at gd; exact gd.elim
      | bad => rw [e4] at gd; exact gd.elim
      | ok b m4 =>
        rw [e4, R.bind_ok] at gd
        intro Hi4 ι4 b' H4 st4 M4 eb
        cases eb
        obtain ⟨d4, mm4, i4⟩ := dstep st4 mm3 d3 i3
        have st14 := st13.trans st4
        cases b with
        | false =>
          simp only [Bool.false_eq_true, if_false] at gd ⊢
          exact ⟨Hi4, ι4, m4, acc, vacc, st14, M4, i4, mm4, d4, ra.mono ((st2.trans st3).trans st4).imm, gd⟩
        | true =>
          simp only [if_true] at gd ⊢
          refine ⟨Hi4, ι4, ρ3, m4, ⟨M4, R3.slots.step st4⟩, ?_⟩
          cases e5 : e ρ3 m4 with
          | exc c ns vs m2 => rw [e5] at gd; exact gd.elim
          | bad => rw [e5] at gd; exact gd.elim
          | ok y m5 =>
            rw [e5, R.bind_ok] at gd
            intro Hi5 ι5 yv H5 st5 M5 ry
            obtain ⟨d5, mm5, i5⟩ := dstep st5 mm4 d4 i4
            have st15 := st14.trans st5
            have ra5 := ra.mono (((st2.trans st3).trans st4).trans st5).imm
            cases y with
            | m k => exact gd.elim
            | d y =>
              simp only at gd
              split at gd
              · rename_i hl
                refine ⟨vacc, d5, sz5' (by rw [ra.length]; exact hl), Hi5, ι5, m5, acc ++ [y], vacc ++ [yv], ?_, ?_, i5, mm5, upd_same, ra5.append (.one ry), gd⟩
                · refine ⟨st15.imm, st15.pre, fun a o h1 h2 => ?_, st15.new, fun a h => st15.live a (upd_live h), st15.inew⟩
                  rw [upd_ne (ne_of_none h1 hD)]
                  exact st15.frm a o h1 h2
                · refine ⟨fun b u q => ?_, M5.len, M5.nd, M5.free, fun k mo a h1 h2 => (M5.obj k mo a h1 h2).mono (Same.refl _) (upd_ne fun z => mm5 (by rw [← z]; exact List.mem_of_getElem? h2))⟩
                  rw [upd_ne (ne_of_none q i5)]
                  exact M5.sub b u q
              · exact gd.elim
theorem pd_lc {elt tg iter : Expr} {ifs : List Expr} {scope : Scope} {own : List (Str × Nat)} {pos : Pos} {it : EvL} {g : Tg} {t : EvT} {e : Ev} (hc : X.calm = true) (hN : X.N.Nodup) (hi : PI X tg iter (tDI X.K X.mg Wx it)) (ok : BlkOk X.N X.env.scope scope own)
    (hg : ∀ (s : Shared) (H : Hp) (C : Addr) (cl : List (Str × Addr)) (fp : List Addr), PG (X.blk s H scope (compEnvC scope cl C X.env) fp) tg (tDGv X.K X.mg (own.map (·.2)) g)) (ht : ∀ (s : Shared) (H : Hp) (C : Addr) (cl : List (Str × Addr)) (fp : List Addr), PTs (X.blk s H scope (compEnvC scope cl C X.env) fp) ifs (tDT X.K X.mg W0 t))
    (he : ∀ (s : Shared) (H : Hp) (C : Addr) (cl : List (Str × Addr)) (fp : List Addr), PE (X.blk s H scope (compEnvC scope cl C X.env) fp) elt (tD X.K X.mg W0 e)) (hs : ∀ x, foldedSetIterable iter X.env x = pure x := by intro _; rfl) :
    PE X (.ListComp elt [⟨tg, iter, ifs, 0⟩] scope pos) (tD X.K X.mg Wx (fLc it g t e (own.map (·.2)))) := PE.imp (pe_lc hc hN hi ok hg ht he hs) fun σ H Q h => lc_imp (mu := false) h
end
/-! ### defs -/
/-- a def's promise by its mirror f -/
def spN (K : PySem.W.Frag) (mg : Str → Option Value) (f : Fn) : Sp := fun vs H Q E => ∃ Hi ι ws m, Mok K mg Hi ι m H ∧ RepWs K mg Hi ι vs ws ∧ Good K mg (RepW K mg) (fun c d _ H' => E c d H') [] Hi ι H (f ws m) Q
section
variable {P : Program} {w : World} {K : PySem.W.Frag} {mg : Str → Option Value} {base : Heap}
theorem start_rep {Hi : Hp} {ι : List Addr} {N : List Str} {n : Nat} : ∀ {vs : List V} {ws : List W}, RepWs K mg Hi ι vs ws → N.length = n → RepS K mg Hi ι (ws.map some ++ List.replicate (n - ws.length) none) (L2.start N vs) := fun {vs ws} r hn => by
  have hl := r.length
  unfold L2.start
  refine ⟨by simp [hl, hn], fun i w' e => ?_⟩
  by_cases hi : i < ws.length
  · rw [List.getElem?_append_left (by simpa using hi), List.getElem?_map] at e
    cases e2 : ws[i]? with
    | none => rw [e2] at e; cases e
    | some w2 =>
      rw [e2] at e
      cases e
      obtain ⟨v, h1, h2⟩ := r.get e2
      exact ⟨v, by rw [List.getElem?_append_left (by rw [List.length_map, hl]; exact hi), List.getElem?_map, h1]; rfl, h2⟩
  · rw [List.getElem?_append_right (by simpa using hi), List.getElem?_replicate] at e
    split at e <;> cases e
theorem take_pre {ι ι' : List Addr} {n : Nat} (p : ι <+: ι') (h : ι.length = n) : ι'.take n = ι := by
  obtain ⟨t, rfl⟩ := p
  rw [← h]
  simp
theorem body_imp {mu : Bool} {N : List Str} {n np : Nat} {b : Ex} {vs : List V} {ws : List W} {Hi : Hp} {ι : List Addr} {m : Mem} {H : Hp} {Q : VK} {E : XK} (hn : N.length = n) (M : Mok K mg Hi ι m H) (r : RepWs K mg Hi ι vs ws)
    (g : Good K mg (RepW K mg) (fun c d _ H' => E c d H') [] Hi ι H (fnOf mu np n b ws m) Q) : tDS K mg (fun c d _ H' => E c d H') b { nx := fun _ H' => Q .non H', rt := Q } (L2.start N vs) H := by
  refine ⟨Hi, ι, _, m, ⟨M, start_rep r hn⟩, ?_⟩
  have cutS : ∀ {Hi' ι' H'}, Step Hi ι H Hi' ι' H' → Step Hi ι H Hi' (ι'.take m.length) H' := fun {Hi' ι' H'} s => by
    have e := take_pre s.pre M.len
    exact ⟨s.imm, by rw [e]; exact List.prefix_refl _, s.frm, fun a h1 h2 => by rw [e] at h1; exact absurd h1 h2, s.live, s.inew⟩
  have lv : ∀ {w : W} {m' : Mem} {Hi' : Hp} {ι' : List Addr} {v : V} {H' : Hp}, Good K mg (RepW K mg) (fun c d _ H' => E c d H') [] Hi ι H (leave mu m.length w m') Q → Step Hi ι H Hi' ι' H' → Mok K mg Hi' ι' m' H' → RepW K mg Hi' ι' v w → Q v H' := by
    intro w m' Hi' ι' v H' g s M' rv
    have e := take_pre s.pre M.len
    cases w with
    | d x => exact g _ _ _ _ (cutS s) (M'.cut m.length) rv
    | m k =>
      unfold leave at g
      simp only at g
      obtain ⟨a, h1, h2⟩ := rv
      split at g
      · rename_i hk
        exact g _ _ _ _ (cutS s) (M'.cut m.length) ⟨a, by rw [List.getElem?_take_of_lt hk]; exact h1, h2⟩
      · rename_i hk
        split at g
        · rename_i xs em
          obtain ⟨us, q1, q2⟩ := M'.obj k _ a em h1
          have hi : Hi' a = none := M'.free k _ a em h1 (fun q => nomatch q)
          have nin : a ∉ ι'.take m.length := fun hm => by
            obtain ⟨j, hj⟩ := List.getElem?_of_mem hm
            have hjl : j < m.length := by
              have := (List.getElem?_eq_some_iff.mp hj).1
              rw [List.length_take] at this
              omega
            rw [List.getElem?_take_of_lt hjl] at hj
            obtain ⟨p1, e1⟩ := List.getElem?_eq_some_iff.mp hj
            obtain ⟨p2, e2⟩ := List.getElem?_eq_some_iff.mp h1
            have := (List.getElem_inj M'.nd).mp (e1.trans e2.symm)
            omega
          have nH : H a = none := s.new a (List.mem_of_getElem? h1) (by rw [← e]; exact nin)
          cases mu with
          | false =>
            simp only [Bool.false_eq_true, if_false] at g
            subst h2
            refine g (upd Hi' a (.lst us)) (ι'.take m.length) (.ref a) H' ?_ ((M'.cut m.length).keep q1 nin hi) (.lst upd_same (q2.mono fun b u q => by rw [upd_ne (ne_of_none q hi)]; exact q))
            have c := cutS s
            exact ⟨c.imm.trans fun b u q => by rw [upd_ne (ne_of_none q hi)]; exact q, c.pre, c.frm, c.new, c.live, fun b z0 z1 z2 => by rw [upd_ne (fun z => z2 (by rw [z]; exact nH))]; exact c.inew b z0 z1 z2⟩
          | true =>
            simp only [if_true] at g
            subst h2
            have c := cutS s
            have Mc := M'.cut m.length
            have lc : (ι'.take m.length).length = m.length := by rw [e, M.len]
            have lm : (m'.take m.length).length = m.length := by rw [← Mc.len, lc]
            refine g Hi' (ι'.take m.length ++ [a]) (.ref a) H' ⟨c.imm, c.pre.trans (List.prefix_append _ _), c.frm, fun b z1 z2 => ?_, c.live, c.inew⟩ ?_ ⟨a, by rw [List.getElem?_append_right (by omega), lc]; simp, rfl⟩
            · rcases List.mem_append.mp z1 with z1 | z1
              · exact c.new b z1 z2
              · rw [List.mem_singleton] at z1; subst z1; exact nH
            · refine ⟨Mc.sub, by simp [Mc.len], ?_, fun j mo b z1 z2 z3 => ?_, fun j mo b z1 z2 => ?_⟩
              · rw [List.nodup_append]
                exact ⟨Mc.nd, by simp, fun b hb b' hb' => by rw [List.mem_singleton] at hb'; subst hb'; exact fun z => nin (by rw [← z]; exact hb)⟩
              · by_cases hj : j < m.length
                · rw [List.getElem?_append_left (by omega)] at z1 z2
                  exact Mc.free j mo b z1 z2 z3
                · rw [List.getElem?_append_right (by omega)] at z2
                  have hm := List.mem_of_getElem? z2
                  rw [List.mem_singleton] at hm; subst hm; exact hi
              · by_cases hj : j < m.length
                · rw [List.getElem?_append_left (by omega)] at z1 z2
                  exact Mc.obj j mo b z1 z2
                · rw [List.getElem?_append_right (by omega)] at z1 z2
                  rw [lm] at z1
                  rw [lc] at z2
                  have ej : j - m.length = 0 := by
                    cases e : j - m.length with
                    | zero => rfl
                    | succ n => rw [e] at z1; simp at z1
                  rw [ej] at z1 z2
                  simp at z1 z2
                  subst z1 z2
                  exact ⟨us, q1, q2⟩
        · exact g.elim
  unfold fnOf at g
  split at g
  case isFalse => exact g.elim
  cases e : b (ws.map some ++ List.replicate (n - ws.length) none) m with
  | nx ρ' m' => rw [e] at g; exact fun Hi' ι' σ' H' s R' => lv g s R'.mok (v := .non) (w := .d .non) .non
  | rt w m' => rw [e] at g; exact fun Hi' ι' v H' s M' rv => lv g s M' rv
  | xc c ns xs ρ' m' =>
    rw [e] at g
    exact fun Hi' ι' σ' H' C dx fs s R' => g Hi' (ι'.take m.length) H' C dx fs (cutS s) (R'.mok.cut m.length)
  | bk ρ' m' => rw [e] at g; exact g.elim
  | ct ρ' m' => rw [e] at g; exact g.elim
  | bad => rw [e] at g; exact g.elim
/-- THE RULE for a def -/
theorem fun_ok {x qual : Str} {st : Stmt} {f : Addr} {fd : FuncData} {N ps : List Str} {k n np : Nat} {mu : Bool} {b : Ex} (F : Fun K x qual st f fd) (S : FnScope N ps (defScope st)) (hn : N.length = n) (hp : ps.length = np)
    (hbody : ∀ (cdv : Value) (A : Around) (outer : List PySem.Env) (s : Shared) (H : Hp) (E : XK), Room k (A.deeper (envOfC qual (defScope st) s.heap.objs.size f cdv)) →
      PSs (cxOf (L2.CX P w) P w K mg base N qual (defScope st) f cdv A outer s H E) (defBody st) (tDS K mg (fun c d _ H' => E c d H') b)) : FnOk P w K mg base (L2.CX P w) (k + 1) f fd ps (spN K mg (fnOf mu np n b)) := by
  refine F.okX S (fun vs H Q E h => ?_) fun cdv A outer s H vs Q E hr h => ?_
  · obtain ⟨Hi, ι, ws, m, _, r, g⟩ := h
    unfold fnOf at g
    split at g
    · rename_i hl
      rw [r.length, hl, hp]
    · exact g.elim
  · obtain ⟨Hi, ι, ws, m, M, r, g⟩ := h
    exact ⟨_, hbody cdv A outer s H E hr, body_imp hn M r g⟩
/-- a promise by positional values, from one by bound ones -/
theorem fnR_of {CX : CXT} {k : Nat} {f : Addr} {fd : FuncData} {ps : List Str} {sp : Sp} {ds : List Value} {dvs : List V} (F : FnOk P w K mg base CX k f fd ps sp) (hb : Binds K fd ps ds) (hd : Vals dvs ds) : FnR P w K mg base CX k f (fun vs H Q E => sp (vs ++ dvs) H Q E) :=
  fun A outer s H us vs Q E hr e0 r h => by
    have r2 : Vals (vs ++ dvs) (us ++ ds) := r.append hd
    have hl : (us ++ ds).length = ps.length := by rw [← r2.length]; exact F.len _ _ _ _ h
    exact F.run A outer s H ⟨us, []⟩ (us ++ ds) (vs ++ dvs) Q E hr e0 (hb s us (e0.mod.kin.keeps fun b o e => (e0.bs b o e).1) hl) r2 h
/-- a def of the module, as its callers see it -/
structure DefOk (P : Program) (w : World) (K : PySem.W.Frag) (mg : Str → Option Value) (base : Heap) (x : Str) (k : Nat) (g : Fn) : Prop where
  ex : ∃ f, FnR P w K mg base (L2.CX P w) k f (spN K mg g) ∧ mg x = some (.ref f) ∧ PySem.W.keepIn K (.ref f) = true
/-- where a def of the text stands -/
structure TopDef (K : PySem.W.Frag) (mg : Str → Option Value) (x : Str) (st : Stmt) : Prop where
  ex : ∃ f fd, Fun K x x st f fd ∧ mg x = some (.ref f)
theorem def_ok {x : Str} {st : Stmt} {N ps : List Str} {k n np : Nat} {b : Ex} (mu : Bool) (T : TopDef K mg x st) (S : FnScope N ps (defScope st)) (hn : N.length = n) (hp : ps.length = np)
    (hb : ∀ (kV doc pm : Value) (an : Option Addr) (cdv ct : Value) (us : List Value), us.length = ps.length → bindArgs (PySem.W.fnOf x x (defArgs st) (defBody st) (defScope st) .none kV doc pm an cdv ct) ⟨us, []⟩ = pure (ps.zip us))
    (hbody : ∀ (f : Addr) (cdv : Value) (A : Around) (outer : List PySem.Env) (s : Shared) (H : Hp) (E : XK),
      Cc (cxOf (L2.CX P w) P w K mg base N x (defScope st) f cdv A outer s H E) (fun c d _ H' => E c d H') k →
      PSs (cxOf (L2.CX P w) P w K mg base N x (defScope st) f cdv A outer s H E) (defBody st) (tDS K mg (fun c d _ H' => E c d H') b)) : DefOk P w K mg base x (k + 1) (fnOf mu np n b) := by
  obtain ⟨f, fd, F, hm⟩ := T.ex
  have z := fnR_of (fun_ok (P := P) (w := w) (base := base) (mg := mg) (mu := mu) F S hn hp fun cdv A outer s H E hr => hbody f cdv A outer s H E ⟨takes_of rfl rfl rfl rfl, passes_of rfl, S.nd, rfl, hr⟩) (F.binds hb) .nil
  simp only [List.append_nil] at z
  exact ⟨f, z, hm, F.kp⟩
end
section
variable {X : Cx} {Wx : WX} {kk j : Nat} {g : Fn} {x : Str} {p pos : Pos} {e : Expr} {es : List Expr} {a : EvL}
theorem run_fnRS {CX : CXT} {k : Nat} {f : Addr} {sp : Sp} {E : XK} {Q : VK} {us : List Value} {vs : List V} {pins : List (Addr × Obj)} {σ : L2.St} {H : Hp} {s : Shared} (F : FnR X.prog X.w X.K X.mg X.base CX k f sp) (hr : Room k X.A) (hx : PassesAt CX X σ E) (I : Inv X pins σ H s) (r : Vals vs us) (h : sp vs H Q E) :
    codeAny (model X.prog X.w) X.A (.call (.ref f) ⟨us, []⟩) (fun r s' => match r with | .ok (.ret v) => EP X pins σ Q v s' | .ok _ => False | .error e => X.xe e s') s := by
  refine codeAny_mono (F X.A X.stack s H us vs Q E hr I.env0 r h) fun r s' hq => ?_
  cases r with
  | error e => exact hx pins H s e s' I hq
  | ok fl =>
    cases fl with
    | ret u => exact I.after hq
    | next => exact False.elim hq
    | brk => exact False.elim hq
    | cont => exact False.elim hq
theorem call_imp {σ : L2.St} {H : Hp} {Q : VK} (t : tD X.K X.mg Wx (fCall g a) σ H Q) : tCallS (spN X.K X.mg g) (WE Wx) (tDA X.K X.mg Wx a) σ H Q := by
  obtain ⟨Hi, ι, ρ, m, RR, gd⟩ := t
  refine ⟨Hi, ι, ρ, m, RR, good_bind gd fun ws m1 Hi1 ι1 vs H1 st M rv g1 => ⟨Hi1, ι1, ws, m1, M, rv, g1⟩⟩
theorem pd_call (c : Cc X Wx kk) (F : DefOk X.prog X.w X.K X.mg X.base x j g) (hj : j ≤ kk) (hg : Gl X x) (ha : PA X (e :: es) (tDA X.K X.mg Wx a)) (hdb : (x == ("__debug__" : Str)) = false := by decide)
    (he : starEach (e :: es) X.env = (false, eval e X.env) :: starEach es X.env := by rfl) (hpl : (backTo pos (starEach es X.env)).any (·.1) = false := by rfl) : PE X (.Call (.Name x p) (e :: es) [] pos) (tD X.K X.mg Wx (fCall g a)) := by
  obtain ⟨f, F, hm, hk⟩ := F.ex
  refine ⟨fun pins s σ H Q I h => ?_⟩
  refine wpAny_Call_Name_kw (ld_glob I hg hm ?_ hdb)
  refine PySem.W.callWith_K (h₀ := X.base) I.ok.mod.kin hk (thn (ha.run pos pins s σ H _ I (call_imp h)) fun us s1 ⟨vs, H1, I1, r, q⟩ => ⟨I1.kIn, ?_⟩) he hpl
  exact wpAny_call (run_fnRS F (c.room.mono hj) (passAt c.tk σ) I1 r q)
theorem pd_call0 (c : Cc X Wx kk) (F : DefOk X.prog X.w X.K X.mg X.base x j g) (hj : j ≤ kk) (hg : Gl X x) (hdb : (x == ("__debug__" : Str)) = false := by decide) : PE X (.Call (.Name x p) [] [] pos) (tD X.K X.mg Wx (fCall g fNil)) := by
  obtain ⟨f, F, hm, hk⟩ := F.ex
  refine ⟨fun pins s σ H Q I h => ?_⟩
  refine wpAny_Call_Name_kw (ld_glob I hg hm ?_ hdb)
  obtain ⟨Hi, ι, ρ, m, RR, gd⟩ := h
  exact PySem.W.callWith_K0 I.kIn hk (wpAny_call (run_fnRS F (c.room.mono hj) (passAt c.tk σ) I .nil ⟨Hi, ι, [], m, RR.mok, .nil, gd⟩))
/-- *e among arguments -/
theorem RepWs.append {K : PySem.W.Frag} {mg : Str → Option Value} {Hi : Hp} {ι : List Addr} : ∀ {as bs : List V} {cs ds : List W}, RepWs K mg Hi ι as cs → RepWs K mg Hi ι bs ds → RepWs K mg Hi ι (as ++ bs) (cs ++ ds)
  | _, _, _, _, .nil, h => h
  | _, _, _, _, .cons a b, h => .cons a (RepWs.append b h)
end
/-- within a comprehension -/
theorem Cc.blk {X : Cx} {Wx : WX} {kk : Nat} (c : Cc X Wx kk) (s : Shared) (H : Hp) (scope : Scope) (cenv : PySem.Env) (fp : List Addr) : Cc (X.blk s H scope cenv fp) W0 kk := ⟨takes0, PassesOwn.never, c.nd, c.calm, c.room⟩
end GD
/-! GD5: operations. -/
namespace GD
open PySem PySem.Spec PyProof.Rows L2
/-- no number greater than this is multiplied or divided by -/
def BIG : Nat := 2 ^ 3000
@[irreducible] def small (i : Int) : Bool := decide (i.natAbs < BIG)
theorem small_log {i : Int} (h : small i = true) : i.natAbs.log2 < 9000 := by
  unfold small BIG at h
  have h1 : i.natAbs < 2 ^ 3000 := of_decide_eq_true h
  have := PySem.Flt.log2_lt_of (show 0 < 3000 by decide) h1
  omega
/-- the items of a list, changeable or not -/
def lstOf : W → Mem → Option (List D)
  | .d (.lst xs), _ => some xs
  | .m k, m => match m[k]? with
    | some (.lst xs) => some xs
    | _ => none
  | _, _ => none
/-- the data that a value stands for now -/
def datOf : W → Mem → Option D
  | .d x, _ => some x
  | .m k, m => match m[k]? with
    | some (.lst xs) => some (.lst xs)
    | _ => none
section
variable {K : PySem.W.Frag} {mg : Str → Option Value} {Hi H : Hp} {ι : List Addr} {m : Mem}
theorem Mok.get (M : Mok K mg Hi ι m H) {k : Nat} {mo : MO} {v : V} (h : m[k]? = some mo) (r : RepW K mg Hi ι v (.m k)) : ∃ a, v = .ref a ∧ ι[k]? = some a ∧ RepO K mg Hi H a mo := by
  obtain ⟨a, h1, h2⟩ := r
  exact ⟨a, h2, h1, M.obj k mo a h h1⟩
theorem lstOf_rep (M : Mok K mg Hi ι m H) {w : W} {v : V} {xs : List D} (h : lstOf w m = some xs) (r : RepW K mg Hi ι v w) : ∃ a vs, v = .ref a ∧ H a = some (.lst vs) ∧ RepL K mg Hi vs xs := by
  unfold lstOf at h
  split at h
  · cases h
    cases r with
    | lst s r => exact ⟨_, _, rfl, M.sub _ _ s, r⟩
  · split at h
    · rename_i e
      cases h
      obtain ⟨a, rfl, h1, vs, h2, h3⟩ := M.get e r
      exact ⟨a, vs, rfl, h2, h3⟩
    · cases h
  · cases h
theorem datOf_rep (M : Mok K mg Hi ι m H) {w : W} {v : V} {x : D} (h : datOf w m = some x) (r : RepW K mg Hi ι v w) : Rep K mg H v x := by
  unfold datOf at h
  split at h
  · cases h
    exact Rep.mono M.sub r
  · split at h
    · rename_i e
      cases h
      obtain ⟨a, rfl, h1, vs, h2, h3⟩ := M.get e r
      exact .lst h2 (h3.mono M.sub)
    · cases h
theorem RepL.ints_ : ∀ {vs : List V} {ns : List Int}, RepL K mg H vs (ns.map .int) → vs = ns.map V.int
  | _, [], h => by cases h; rfl
  | _, n :: ns, h => by
    cases h with
    | cons a b =>
      cases a
      rw [RepL.ints_ b]
      rfl
theorem RepL.bools_ : ∀ {vs : List V} {ns : List Bool}, RepL K mg H vs (ns.map .bl) → vs = ns.map V.bl
  | _, [], h => by cases h; rfl
  | _, n :: ns, h => by
    cases h with
    | cons a b =>
      cases a
      rw [RepL.bools_ b]
      rfl
theorem RepL.drop : ∀ {vs : List V} {ds : List D} (n : Nat), RepL K mg H vs ds → RepL K mg H (vs.drop n) (ds.drop n)
  | _, _, 0, r => r
  | _, _, _ + 1, .nil => .nil
  | _, _, n + 1, .cons _ t => RepL.drop n t
theorem RepL.take : ∀ {vs : List V} {ds : List D} (n : Nat), RepL K mg H vs ds → RepL K mg H (vs.take n) (ds.take n)
  | _, _, 0, _ => .nil
  | _, _, _ + 1, .nil => .nil
  | _, _, n + 1, .cons r t => .cons r (RepL.take n t)
theorem RepL.set {v : V} {d : D} (r : Rep K mg H v d) : ∀ {vs : List V} {ds : List D} (i : Nat), RepL K mg H vs ds → RepL K mg H (vs.set i v) (ds.set i d)
  | _, _, _, .nil => .nil
  | _, _, 0, .cons _ t => .cons r t
  | _, _, i + 1, .cons q t => .cons q (RepL.set r i t)
end
/-- a list's numbers, truth values, texts -/
def intsD : List D → Option (List Int)
  | [] => some []
  | .int i :: r => (intsD r).map (i :: ·)
  | _ => none
theorem ints_eq : ∀ {xs : List D} {ns : List Int}, intsD xs = some ns → xs = ns.map .int
  | [], ns, h => by simp [intsD] at h; subst h; rfl
  | .int i :: r, ns, h => by
    simp only [intsD, Option.map_eq_some_iff] at h
    obtain ⟨l, h1, h2⟩ := h
    subst h2
    rw [ints_eq h1]
    rfl
  | .non :: _, _, h | .bl _ :: _, _, h | .str _ :: _, _, h | .tup _ :: _, _, h | .lst _ :: _, _, h | .fls _ :: _, _, h | .obj _ _ _ :: _, _, h | .gl _ :: _, _, h | .ty _ :: _, _, h => by simp [intsD] at h
def boolsD : List D → Option (List Bool)
  | [] => some []
  | .bl i :: r => (boolsD r).map (i :: ·)
  | _ => none
theorem bools_eq : ∀ {xs : List D} {ns : List Bool}, boolsD xs = some ns → xs = ns.map .bl
  | [], ns, h => by simp [boolsD] at h; subst h; rfl
  | .bl i :: r, ns, h => by
    simp only [boolsD, Option.map_eq_some_iff] at h
    obtain ⟨l, h1, h2⟩ := h
    subst h2
    rw [bools_eq h1]
    rfl
  | .non :: _, _, h | .int _ :: _, _, h | .str _ :: _, _, h | .tup _ :: _, _, h | .lst _ :: _, _, h | .fls _ :: _, _, h | .obj _ _ _ :: _, _, h | .gl _ :: _, _, h | .ty _ :: _, _, h => by simp [boolsD] at h
/-! ### arithmetic -/
def oAdd : O2 := fun a b m => match a, b with
  | .d (.int i), .d (.int j) => .ok (.d (.int (i + j))) m
  | .d (.str x), .d (.str y) => if x.length + y.length ≤ 100000 then .ok (.d (.str (x ++ y))) m else .bad
  | .d (.tup xs), .d (.tup ys) => if xs.length + ys.length ≤ 100000 then .ok (.d (.tup (xs ++ ys))) m else .bad
  | a, b => match lstOf a m, lstOf b m with
    | some xs, some ys => if xs.length + ys.length ≤ 100000 then .ok (.d (.lst (xs ++ ys))) m else .bad
    | _, _ => .bad
def rAddU (K : PySem.W.Frag) : R2 := fun x y H Q => (rI0 fun i j => .int (i + j)) x y H Q ∨ ((fun x y H Q => ∃ i j, x = .str i ∧ y = .str j ∧ i.length + j.length ≤ sizeLine ∧ Q (.str (i ++ j)) H) x y H Q ∨ (rCatA K x y H Q ∨ rCat x y H Q))
theorem op_addU {X : Cx} : OpR X (binaryOp .Add) (rAddU X.K) := OpR.or op_add (OpR.or op_add_str (OpR.or op_catA op_cat))
theorem s_add {K : PySem.W.Frag} {mg : Str → Option Value} : S2 K mg (rAddU K) oAdd := by
  intro Wx σ Hi ι m H x y a b Q M rx ry g
  unfold oAdd at g
  split at g
  · cases rx; cases ry; exact .inl ⟨_, _, rfl, rfl, g.here (rep := RepW K mg) M (.int _)⟩
  · split at g
    · rename_i hl
      cases rx; cases ry; exact .inr (.inl ⟨_, _, rfl, rfl, sz5 hl, g.here (rep := RepW K mg) M (.str _)⟩)
    · exact g.elim
  · split at g
    · rename_i xs ys hl
      cases rx with
      | tup s1 r1 =>
        cases ry with
        | tup s2 r2 =>
          rename_i a1 v1 a2 v2
          refine .inr (.inr (.inl ⟨a1, a2, v1, v2, rfl, rfl, sqT_mono M.sub s1, sqT_mono M.sub s2, sz5 (by rw [r1.length, r2.length]; exact hl), fun e => ?_, fun e1 e2 => ?_, fun e1 e2 p hp => ?_⟩))
          · subst e
            cases r1
            exact g _ _ _ _ Step.refl M (.tup s2 r2)
          · subst e2
            cases r2
            rw [List.append_nil] at g
            exact g _ _ _ _ Step.refl M (.tup s1 r1)
          · obtain ⟨M2, st2⟩ := M.newD (o := .tup (v1 ++ v2)) hp
            exact g _ _ _ _ st2 M2 (.tup (.inl (.inl upd_same)) ((r1.append r2).mono st2.imm))
    · exact g.elim
  · split at g
    · rename_i xs ys h1 h2
      split at g
      · rename_i hl
        obtain ⟨a1, v1, rfl, q1, r1⟩ := lstOf_rep M h1 rx
        obtain ⟨a2, v2, rfl, q2, r2⟩ := lstOf_rep M h2 ry
        refine .inr (.inr (.inr ⟨a1, a2, v1, v2, rfl, rfl, q1, q2, sz5 (by rw [r1.length, r2.length]; exact hl), fun p hp => ?_⟩))
        obtain ⟨M2, st2⟩ := M.newD (o := .lst (v1 ++ v2)) hp
        exact g _ _ _ _ st2 M2 (.lst upd_same ((r1.append r2).mono st2.imm))
      · exact g.elim
    · exact g.elim
def oSub : O2 := fun a b m => match a, b with
  | .d (.int i), .d (.int j) => .ok (.d (.int (i - j))) m
  | _, _ => .bad
theorem s_int0 {K : PySem.W.Frag} {mg : Str → Option Value} {f : Int → Int → Int} : S2 K mg (rI0 fun i j => .int (f i j)) (fun a b m => match a, b with
  | .d (.int i), .d (.int j) => .ok (.d (.int (f i j))) m
  | _, _ => .bad) := by
  intro Wx σ Hi ι m H x y a b Q M rx ry g
  dsimp only at g
  split at g
  · cases rx; cases ry; exact ⟨_, _, rfl, rfl, g.here (rep := RepW K mg) M (.int _)⟩
  · exact g.elim
theorem s_sub {K : PySem.W.Frag} {mg : Str → Option Value} : S2 K mg (rI0 fun i j => .int (i - j)) oSub := s_int0
theorem s_boo0 {K : PySem.W.Frag} {mg : Str → Option Value} {f : Int → Int → Bool} : S2 K mg (rI0 fun i j => .bl (f i j)) (fun a b m => match a, b with
  | .d (.int i), .d (.int j) => .ok (.d (.bl (f i j))) m
  | _, _ => .bad) := by
  intro Wx σ Hi ι m H x y a b Q M rx ry g
  dsimp only at g
  split at g
  · cases rx; cases ry; exact ⟨_, _, rfl, rfl, g.here (rep := RepW K mg) M (.bl _)⟩
  · exact g.elim
def oLt : O2 := fun a b m => match a, b with
  | .d (.int i), .d (.int j) => .ok (.d (.bl (decide (i < j)))) m
  | _, _ => .bad
def oLe : O2 := fun a b m => match a, b with
  | .d (.int i), .d (.int j) => .ok (.d (.bl (decide (i ≤ j)))) m
  | _, _ => .bad
def oGt : O2 := fun a b m => match a, b with
  | .d (.int i), .d (.int j) => .ok (.d (.bl (decide (j < i)))) m
  | _, _ => .bad
def oGe : O2 := fun a b m => match a, b with
  | .d (.int i), .d (.int j) => .ok (.d (.bl (decide (j ≤ i)))) m
  | _, _ => .bad
theorem s_lt {K : PySem.W.Frag} {mg : Str → Option Value} : S2 K mg (rI0 fun i j => .bl (decide (i < j))) oLt := s_boo0
theorem s_le {K : PySem.W.Frag} {mg : Str → Option Value} : S2 K mg (rI0 fun i j => .bl (decide (i ≤ j))) oLe := s_boo0
theorem s_gt {K : PySem.W.Frag} {mg : Str → Option Value} : S2 K mg (rI0 fun i j => .bl (decide (j < i))) oGt := s_boo0
theorem s_ge {K : PySem.W.Frag} {mg : Str → Option Value} : S2 K mg (rI0 fun i j => .bl (decide (j ≤ i))) oGe := s_boo0
def oMul : O2 := fun a b m => match a, b with
  | .d (.int i), .d (.int j) => if small i && small j then .ok (.d (.int (i * j))) m else .bad
  | a, .d (.int j) => match lstOf a m with
    | some xs => if 0 ≤ j ∧ j ≤ 100000 ∧ xs.length * j.toNat ≤ 100000 then .ok (.d (.lst (List.replicate j.toNat xs).flatten)) m else .bad
    | none => .bad
  | _, _ => .bad
theorem rep_flat {K : PySem.W.Frag} {mg : Str → Option Value} {H : Hp} {vs : List V} {ds : List D} (r : RepL K mg H vs ds) : ∀ n : Nat, RepL K mg H (List.replicate n vs).flatten (List.replicate n ds).flatten
  | 0 => .nil
  | n + 1 => by
    rw [List.replicate_succ, List.replicate_succ, List.flatten_cons, List.flatten_cons]
    exact r.append (rep_flat r n)
theorem s_mul {X : Cx} : S2 X.K X.mg (fun x y H Q => (rI CMulW fun i j => .int (i * j)) x y H Q ∨ rRep x y H Q) oMul := by
  intro Wx σ Hi ι m H x y a b Q M rx ry g
  unfold oMul at g
  split at g
  · split at g
    · rename_i i j hs
      rw [Bool.and_eq_true] at hs
      have h1 := small_log hs.1
      have h2 := small_log hs.2
      cases rx; cases ry; exact .inl ⟨_, _, rfl, rfl, by show _ + _ < _; omega, g.here (rep := RepW X.K X.mg) M (.int _)⟩
    · exact g.elim
  · rename_i j _
    split at g
    · rename_i xs e
      split at g
      · rename_i hj
        obtain ⟨a1, v1, rfl, q1, r1⟩ := lstOf_rep M e rx
        cases ry
        refine .inr ⟨a1, j, v1, rfl, rfl, q1, by omega, by omega, sz5 (by rw [r1.length]; exact hj.2.2), fun p hp => ?_⟩
        obtain ⟨M2, st2⟩ := M.newD (o := .lst (List.replicate j.toNat v1).flatten) hp
        exact g _ _ _ _ st2 M2 (.lst upd_same ((rep_flat r1 _).mono st2.imm))
      · exact g.elim
    · exact g.elim
  · exact g.elim
theorem op_mulU {X : Cx} : OpR X (binaryOp .Mult) (fun x y H Q => (rI CMulW fun i j => .int (i * j)) x y H Q ∨ rRep x y H Q) := OpR.or op_mulW op_rep
def oDiv : O2 := fun a b m => match a, b with
  | .d (.int i), .d (.int j) => if decide (0 < j) && small j then .ok (.d (.int (i / j))) m else .bad
  | _, _ => .bad
theorem s_div {K : PySem.W.Frag} {mg : Str → Option Value} : S2 K mg (rI CDivW fun i j => .int (i / j)) oDiv := by
  intro Wx σ Hi ι m H x y a b Q M rx ry g
  unfold oDiv at g
  split at g
  · split at g
    · rename_i i j hs
      rw [Bool.and_eq_true] at hs
      cases rx; cases ry; exact ⟨_, _, rfl, rfl, ⟨of_decide_eq_true hs.1, small_log hs.2⟩, g.here (rep := RepW K mg) M (.int _)⟩
    · exact g.elim
  · exact g.elim
def oMod : O2 := fun a b m => match a, b with
  | .d (.int i), .d (.int j) => if 0 < j then .ok (.d (.int (i % j))) m else .bad
  | _, _ => .bad
theorem s_mod {K : PySem.W.Frag} {mg : Str → Option Value} : S2 K mg (rI (fun _ j => 0 < j) fun i j => .int (i % j)) oMod := by
  intro Wx σ Hi ι m H x y a b Q M rx ry g
  unfold oMod at g
  split at g
  · split at g
    · rename_i i j hs
      cases rx; cases ry; exact ⟨_, _, rfl, rfl, hs, g.here (rep := RepW K mg) M (.int _)⟩
    · exact g.elim
  · exact g.elim
def oPow : O2 := fun a b m => match a, b with
  | .d (.int i), .d (.int j) => if (decide (0 ≤ j) && decide (j ≤ 1000)) && small i then .ok (.d (.int (i ^ j.toNat))) m else .bad
  | _, _ => .bad
def CPowW (i j : Int) : Prop := 0 ≤ j ∧ (Builtin.Int.intBits i : Int) * j ≤ 2 ^ 27
theorem op_powW {X : Cx} : OpR X (binaryOp .Pow) (rI CPowW fun i j => .int (i ^ j.toNat)) := opI fun _ _ _ _ _ _ _ hc q => pow_int hc.1 hc.2 q
theorem s_pow {K : PySem.W.Frag} {mg : Str → Option Value} : S2 K mg (rI CPowW fun i j => .int (i ^ j.toNat)) oPow := by
  intro Wx σ Hi ι m H x y a b Q M rx ry g
  unfold oPow at g
  split at g
  · split at g
    · rename_i i j hs
      rw [Bool.and_eq_true, Bool.and_eq_true] at hs
      have h1 := of_decide_eq_true hs.1.1
      have h2 := of_decide_eq_true hs.1.2
      have h3 := small_log hs.2
      have h4 : Builtin.Int.intBits i ≤ 9000 := by
        unfold Builtin.Int.intBits
        split <;> omega
      have h5 : (Builtin.Int.intBits i : Int) * j ≤ 9000 * 1000 := Int.mul_le_mul (by omega) h2 h1 (by omega)
      cases rx; cases ry; exact ⟨_, _, rfl, rfl, ⟨h1, by omega⟩, g.here (rep := RepW K mg) M (.int _)⟩
    · exact g.elim
  · exact g.elim
def oNeg : O1 := fun a m => match a with
  | .d (.int i) => .ok (.d (.int (-i))) m
  | _ => .bad
theorem s_neg {K : PySem.W.Frag} {mg : Str → Option Value} : S1 K mg (rU fun i => .int (-i)) oNeg := by
  intro Wx σ Hi ι m H x a Q M rx g
  unfold oNeg at g
  split at g
  · cases rx; exact ⟨_, rfl, g.here (rep := RepW K mg) M (.int _)⟩
  · exact g.elim
/-! ### equality -/
def eqD (x y : D) : Option Bool := match x, y with
  | .int i, .int j => some (decide (i = j))
  | .str i, .str j => some (decide (i = j))
  | .bl i, .bl j => some (decide (i = j))
  | .non, .non => some true
  | .int _, .str _ => some false
  | .str _, .int _ => some false
  | .int _, .non => some false
  | .non, .int _ => some false
  | .str _, .non => some false
  | .non, .str _ => some false
  | x, y => match x.py, y.py with
    | some p, some q => if SeqAt.shaped p && SeqAt.shaped q then some (PyData.eqv p q) else none
    | _, _ => none
def oEq : O2 := fun a b m => match datOf a m, datOf b m with
  | some x, some y => match eqD x y with
    | some c => .ok (.d (.bl c)) m
    | none => .bad
  | _, _ => .bad
def oNe : O2 := fun a b m => match datOf a m, datOf b m with
  | some x, some y => match eqD x y with
    | some c => .ok (.d (.bl (!c))) m
    | none => .bad
  | _, _ => .bad
def rEqU (K : PySem.W.Frag) : R2 := fun x y H Q => rEq x y H Q ∨ rEqD K x y H Q
def rNeU (K : PySem.W.Frag) : R2 := fun x y H Q => rNe x y H Q ∨ rNeD K x y H Q
theorem eqD_rep {K : PySem.W.Frag} {mg : Str → Option Value} {H : Hp} {v u : V} {x y : D} {c : Bool} (h : eqD x y = some c) (rx : Rep K mg H v x) (ry : Rep K mg H u y) :
    (scal v u = true ∧ decide (v = u) = c) ∨ ∃ p q, Dp K H v p ∧ Dp K H u q ∧ SeqAt.shaped p = true ∧ SeqAt.shaped q = true ∧ PyData.eqv p q = c := by
  unfold eqD at h
  split at h
  · cases h; cases rx; cases ry; exact .inl ⟨rfl, by simp⟩
  · cases h; cases rx; cases ry; exact .inl ⟨rfl, by simp⟩
  · cases h; cases rx; cases ry; exact .inl ⟨rfl, by simp⟩
  · cases h; cases rx; cases ry; exact .inl ⟨rfl, by simp⟩
  · cases h; cases rx; cases ry; exact .inl ⟨rfl, by simp⟩
  · cases h; cases rx; cases ry; exact .inl ⟨rfl, by simp⟩
  · cases h; cases rx; cases ry; exact .inl ⟨rfl, by simp⟩
  · cases h; cases rx; cases ry; exact .inl ⟨rfl, by simp⟩
  · cases h; cases rx; cases ry; exact .inl ⟨rfl, by simp⟩
  · cases h; cases rx; cases ry; exact .inl ⟨rfl, by simp⟩
  · split at h
    · rename_i p q hp hq
      split at h
      · rename_i hs
        rw [Bool.and_eq_true] at hs
        cases h
        exact .inr ⟨p, q, rx.dp hp, ry.dp hq, hs.1, hs.2, rfl⟩
      · cases h
    · cases h
theorem s_eq {K : PySem.W.Frag} {mg : Str → Option Value} : S2 K mg (rEqU K) oEq := by
  intro Wx σ Hi ι m H x y a b Q M rx ry g
  unfold oEq at g
  split at g
  · rename_i d e h1 h2
    split at g
    · rename_i c hc
      have q := g.here (rep := RepW K mg) M (x := .bl c) (.bl c)
      rcases eqD_rep hc (datOf_rep M h1 rx) (datOf_rep M h2 ry) with ⟨s, e⟩ | ⟨p, q', z1, z2, z3, z4, e⟩
      · subst e; exact .inl ⟨s, q⟩
      · subst e; exact .inr ⟨p, q', z1, z2, z3, z4, q⟩
    · exact g.elim
  · exact g.elim
theorem s_ne {K : PySem.W.Frag} {mg : Str → Option Value} : S2 K mg (rNeU K) oNe := by
  intro Wx σ Hi ι m H x y a b Q M rx ry g
  unfold oNe at g
  split at g
  · rename_i d e h1 h2
    split at g
    · rename_i c hc
      have q := g.here (rep := RepW K mg) M (x := .bl (!c)) (.bl (!c))
      rcases eqD_rep hc (datOf_rep M h1 rx) (datOf_rep M h2 ry) with ⟨s, e⟩ | ⟨p, q', z1, z2, z3, z4, e⟩
      · subst e; exact .inl ⟨s, q⟩
      · subst e; exact .inr ⟨p, q', z1, z2, z3, z4, q⟩
    · exact g.elim
  · exact g.elim
theorem op_eqU {X : Cx} {k : Nat} (hr : Room k X.A) : OpR X (compareOp .Eq) (rEqU X.K) := OpR.or op_eq (op_eqD hr.units)
theorem op_neU {X : Cx} {k : Nat} (hr : Room k X.A) : OpR X (compareOp .NotEq) (rNeU X.K) := OpR.or op_ne (op_neD hr.units)
/-! ### is -/
def oIs : O2 := fun a b m => match a, b with
  | .d .non, .d .non => .ok (.d (.bl true)) m
  | .d (.int _), .d .non => .ok (.d (.bl false)) m
  | .d (.str _), .d .non => .ok (.d (.bl false)) m
  | .d (.bl _), .d .non => .ok (.d (.bl false)) m
  | .d (.tup _), .d .non => .ok (.d (.bl false)) m
  | .d (.lst _), .d .non => .ok (.d (.bl false)) m
  | .d (.obj _ _ _), .d .non => .ok (.d (.bl false)) m
  | .m _, .d .non => .ok (.d (.bl false)) m
  | .d (.bl x), .d (.bl y) => .ok (.d (.bl (decide (x = y)))) m
  | _, _ => .bad
def rIsU : R2 := fun x y H Q => (fun x y H Q => y = .non ∧ Q (.bl (decide (x = .non))) H) x y H Q ∨ rIsB x y H Q
theorem s_is {K : PySem.W.Frag} {mg : Str → Option Value} : S2 K mg rIsU oIs := by
  intro Wx σ Hi ι m H x y a b Q M rx ry g
  unfold oIs at g
  split at g
  · cases rx; cases ry; exact .inl ⟨rfl, g.here (rep := RepW K mg) M (.bl true)⟩
  · cases rx; cases ry; exact .inl ⟨rfl, g.here (rep := RepW K mg) M (.bl false)⟩
  · cases rx; cases ry; exact .inl ⟨rfl, g.here (rep := RepW K mg) M (.bl false)⟩
  · cases rx; cases ry; exact .inl ⟨rfl, g.here (rep := RepW K mg) M (.bl false)⟩
  · cases rx; cases ry; exact .inl ⟨rfl, g.here (rep := RepW K mg) M (.bl false)⟩
  · cases rx; cases ry; exact .inl ⟨rfl, g.here (rep := RepW K mg) M (.bl false)⟩
  · cases rx; cases ry; exact .inl ⟨rfl, g.here (rep := RepW K mg) M (.bl false)⟩
  · obtain ⟨a1, _, rfl⟩ := rx; cases ry; exact .inl ⟨rfl, g.here (rep := RepW K mg) M (.bl false)⟩
  · cases rx; cases ry; exact .inr ⟨_, _, rfl, rfl, g.here (rep := RepW K mg) M (.bl _)⟩
  · exact g.elim
theorem op_isU {X : Cx} : OpR X (compareOp .Is) rIsU := OpR.or op_isN op_isBl
def oIsNot : O2 := fun a b m => match oIs a b m with
  | .ok (.d (.bl c)) m => .ok (.d (.bl (!c))) m
  | _ => .bad
end GD
/-! GD6: subscripts, slices, stores, built-ins. -/
namespace GD
open PySem PySem.Spec PyProof.Rows L2
/-! ### subscripts -/
theorem atI_rep {K : PySem.W.Frag} {mg : Str → Option Value} {H : Hp} {vs : List V} {ds : List D} {i : Int} {d : D} (r : RepL K mg H vs ds) (h : atI ds i = some d) : ∃ v, atI vs i = some v ∧ Rep K mg H v d := by
  unfold atI at h ⊢
  rw [r.length]
  cases e : ixN ds.length i with
  | none => rw [e] at h; cases h
  | some j =>
    rw [e] at h
    exact r.get h
def oIx : O2 := fun a b m => match a, b with
  | .d (.tup xs), .d (.int i) => match atI xs i with
    | some x => .ok (.d x) m
    | none => .bad
  | .d (.fls xs), .d (.int i) => match atI xs i with
    | some x => .ok (.d x) m
    | none => .bad
  | .d (.str x), .d (.int i) => if x.length ≤ 100000 then match atI x.cps.toList i with
    | some c => .ok (.d (.str ⟨#[c]⟩)) m
    | none => .bad else .bad
  | a, .d (.int i) => match lstOf a m with
    | some xs => match atI xs i with
      | some x => .ok (.d x) m
      | none => .bad
    | none => .bad
  | _, _ => .bad
def rIxU (K : PySem.W.Frag) : R2 := fun x y H Q => rIxL K x y H Q ∨ (rIxT K x y H Q ∨ rIxS x y H Q)
theorem ix_U {X : Cx} : IxR X (rIxU X.K) := IxR.or ix_list (IxR.or ix_tup ix_str)
theorem s_ix {K : PySem.W.Frag} {mg : Str → Option Value} : S2 K mg (rIxU K) oIx := by
  intro Wx σ Hi ι m H x y a b Q M rx ry g
  unfold oIx at g
  split at g
  · split at g
    · rename_i e
      cases ry
      cases rx with
      | tup s r =>
        obtain ⟨v, h1, h2⟩ := atI_rep r e
        exact .inr (.inl ⟨_, _, _, v, rfl, rfl, sqT_mono M.sub s, h1, g _ _ _ _ Step.refl M h2⟩)
    · exact g.elim
  · split at g
    · rename_i e
      cases ry
      cases rx with
      | fls s r =>
        obtain ⟨v, h1, h2⟩ := atI_rep r e
        exact .inl ⟨_, _, _, v, rfl, rfl, sqL_mono M.sub s, h1, g _ _ _ _ Step.refl M h2⟩
    · exact g.elim
  · split at g
    · rename_i hl
      split at g
      · rename_i c e
        cases ry
        cases rx
        exact .inr (.inr ⟨_, _, c, rfl, rfl, sz5 hl, e, g _ _ _ _ Step.refl M (.str _)⟩)
      · exact g.elim
    · exact g.elim
  · split at g
    · rename_i xs e1
      split at g
      · rename_i e
        cases ry
        obtain ⟨a1, v1, rfl, q1, r1⟩ := lstOf_rep M e1 rx
        obtain ⟨v, h1, h2⟩ := atI_rep r1 e
        exact .inl ⟨_, _, _, v, rfl, rfl, .inl (.inl q1), h1, g _ _ _ _ Step.refl M h2⟩
      · exact g.elim
    · exact g.elim
  · exact g.elim
section
variable {X : Cx} {Wx : WX} {kk : Nat}
theorem pd_ix {a b : Expr} {pos : Pos} {fa fb : Ev} (ha : PE X a (tD X.K X.mg Wx fa)) (hb : PE X b (tD X.K X.mg Wx fb)) (hs : PlainIx b) : PE X (.Subscript a b pos) (tD X.K X.mg Wx (fOp oIx fa fb)) :=
  PE.imp (pe_ix ix_U ha hb hs) fun σ H Q t => by
    obtain ⟨Hi, ι, ρ, m, R, g⟩ := t
    exact ⟨Hi, ι, ρ, m, R, good_bind g fun x m1 Hi1 ι1 v H1 st M rv g1 => ⟨Hi1, ι1, ρ, m1, R.step st M, good_bind g1 fun y m2 Hi2 ι2 u H2 st2 M2 ru g2 => s_ix _ _ _ _ _ _ _ _ _ _ _ M2 (rv.step st2) ru g2⟩⟩
end
/-! ### slices -/
def cutD (xs : List D) (lo hi : Option Int) : List D := (xs.drop (HT.sIx xs.length 0 lo)).take (HT.sIx xs.length xs.length hi - HT.sIx xs.length 0 lo)
theorem cut_rep {K : PySem.W.Frag} {mg : Str → Option Value} {H : Hp} {vs : List V} {ds : List D} (r : RepL K mg H vs ds) (lo hi : Option Int) : RepL K mg H (cutV vs lo hi) (cutD ds lo hi) := by
  unfold cutV cutD
  rw [r.length]
  exact (r.drop _).take _
abbrev EvO := Env → Mem → R (Option Int)
def pNone : EvO := fun _ m => .ok none m
def pSome (a : Ev) : EvO := fun ρ m => (a ρ m).bind fun x m => match x with
  | .d (.int i) => .ok (some i) m
  | _ => .bad
def tDO (K : PySem.W.Frag) (mg : Str → Option Value) (Wx : WX) (f : EvO) : TO := fun σ H Q => ∃ Hi ι ρ m, Rel K mg Hi ι ρ m σ H ∧ Good K mg (fun _ _ x a => x = a) Wx σ Hi ι H (f ρ m) Q
/-- mu: the new list may be changed -/
def oSl (mu : Bool) (a : W) (lo hi : Option Int) (m : Mem) : R W := match a with
  | .d (.tup xs) => .ok (.d (.tup (cutD xs lo hi))) m
  | .d (.str x) => if x.length ≤ 100000 then .ok (.d (.str (cutS x lo hi))) m else .bad
  | .d (.fls xs) => if mu then .ok (.m m.length) (m ++ [.lst (cutD xs lo hi)]) else .ok (.d (.lst (cutD xs lo hi))) m
  | a => match lstOf a m with
    | some xs => if mu then .ok (.m m.length) (m ++ [.lst (cutD xs lo hi)]) else .ok (.d (.lst (cutD xs lo hi))) m
    | none => .bad
def fSl (mu : Bool) (a : Ev) (lo hi : EvO) : Ev := fun ρ m => (a ρ m).bind fun x m => (lo ρ m).bind fun l m => (hi ρ m).bind fun h m => oSl mu x l h m
section
variable {X : Cx} {Wx : WX} {kk : Nat}
theorem pod_none : PO X none (tDO X.K X.mg Wx pNone) := ⟨fun pins s σ H Q I h => po_none.run pins s σ H Q I (by
  obtain ⟨Hi, ι, ρ, m, RR, gd⟩ := h
  exact gd.here (rep := fun _ _ x a => x = a) RR.mok rfl)⟩
theorem pod_some {e : Expr} {f : Ev} (h : PE X e (tD X.K X.mg Wx f)) : PO X (some e) (tDO X.K X.mg Wx (pSome f)) := ⟨fun pins s σ H Q I t => (po_some h).run pins s σ H Q I (by
  obtain ⟨Hi, ι, ρ, m, RR, gd⟩ := t
  refine ⟨Hi, ι, ρ, m, RR, good_bind gd fun x m1 Hi1 ι1 v H1 st M rv g1 => ?_⟩
  split at g1
  · cases rv
    exact ⟨_, rfl, g1.here (rep := fun _ _ x a => x = a) M rfl⟩
  · exact g1.elim)⟩
theorem newL {K : PySem.W.Frag} {mg : Str → Option Value} {Hi H : Hp} {ι : List Addr} {m : Mem} {mu : Bool} {xs : List D} {vs : List V} {Q : VK} {σ : L2.St} (M : Mok K mg Hi ι m H) (r : RepL K mg Hi vs xs)
    (g : Good K mg (RepW K mg) Wx σ Hi ι H (if mu then .ok (.m m.length) (m ++ [.lst xs]) else .ok (.d (.lst xs)) m) Q) : ∀ p, H p = none → Q (.ref p) (upd H p (.lst vs)) := fun p hp => by
  cases mu with
  | false =>
    obtain ⟨M2, st2⟩ := M.newD (o := .lst vs) hp
    exact g _ _ _ _ st2 M2 (.lst upd_same (r.mono st2.imm))
  | true =>
    obtain ⟨M2, st2⟩ := M.newM hp r
    exact g _ _ _ _ st2 M2 ⟨p, by rw [← M.len, List.getElem?_append_right (Nat.le_refl _)]; simp, rfl⟩
theorem pd_slice {mu : Bool} {e : Expr} {lo hi : Option Expr} {pos p2 : Pos} {f : Ev} {fl fh : EvO} (he : PE X e (tD X.K X.mg Wx f)) (hl : PO X lo (tDO X.K X.mg Wx fl)) (hu : PO X hi (tDO X.K X.mg Wx fh)) : PE X (.Subscript e (.Slice lo hi none p2) pos) (tD X.K X.mg Wx (fSl mu f fl fh)) :=
  PE.imp (pe_slice (SlR.or sl_list (SlR.or sl_tupA sl_str)) he hl hu) fun σ H Q t => by
    obtain ⟨Hi, ι, ρ, m, RR, gd⟩ := t
    refine ⟨Hi, ι, ρ, m, RR, good_bind gd fun x m1 Hi1 ι1 v H1 st M rv g1 => ⟨Hi1, ι1, ρ, m1, RR.step st M, good_bind g1 fun l m2 Hi2 ι2 l' H2 st2 M2 el g2 => ⟨Hi2, ι2, ρ, m2, (RR.step st M).step st2 M2, good_bind g2 fun h m3 Hi3 ι3 h' H3 st3 M3 eh g3 => ?_⟩⟩⟩
    cases el
    cases eh
    have rv3 := (rv.step st2).step st3
    unfold oSl at g3
    split at g3
    · cases rv3 with
      | tup s r =>
        rename_i a vs
        refine .inr (.inl ⟨a, vs, rfl, sqT_mono M3.sub s, fun hw => ?_, fun _ p hp => ?_⟩)
        · refine g3 _ _ _ _ Step.refl M3 ?_
          have e1 : cutD _ l h = _ := (by unfold cutD; rw [← r.length, hw.1, hw.2] : cutD _ l h = ((_ : List D).drop 0).take (vs.length - 0))
          rw [e1, List.drop_zero, Nat.sub_zero, r.length, List.take_length]
          exact .tup s r
        · obtain ⟨M4, st4⟩ := M3.newD (o := .tup (cutV vs l h)) hp
          exact g3 _ _ _ _ st4 M4 (.tup (.inl (.inl upd_same)) ((cut_rep r l h).mono st4.imm))
    · split at g3
      · rename_i hl
        cases rv3
        exact .inr (.inr ⟨_, rfl, sz5 hl, g3 _ _ _ _ Step.refl M3 (.str _)⟩)
      · exact g3.elim
    · cases rv3 with
      | fls s r => exact .inl ⟨_, _, rfl, sqL_mono M3.sub s, newL M3 (cut_rep r l h) g3⟩
    · split at g3
      · rename_i xs e1
        obtain ⟨a1, v1, rfl, q1, r1⟩ := lstOf_rep M3 e1 rv3
        exact .inl ⟨_, _, rfl, .inl (.inl q1), newL M3 (cut_rep r1 l h) g3⟩
      · exact g3.elim
end
/-! ### stores -/
def tgSub (fo fi : Ev) : Tg := fun w ρ m => (fo ρ m).bind fun o m => (fi ρ m).bind fun i m => match o, i, w with
  | .m k, .d (.int i), .d x => match m[k]? with
    | some (.lst xs) => match ixN xs.length i with
      | some j => .ok ρ (m.set k (.lst (xs.set j x)))
      | none => .bad
    | _ => .bad
  | _, _, _ => .bad
section
variable {X : Cx} {Wx : WX} {kk : Nat}
theorem pgd_sub {o i : Expr} {pos : Pos} {fo fi : Ev} (ho : PE X o (tD X.K X.mg W0 fo)) (hi : PE X i (tD X.K X.mg W0 fi)) (ha : ∀ v, assign (.Subscript o i pos) X.env v = (do
      let ov ← holding [v] (eval o X.env)
      let iv ← holding [v, ov] (eval i X.env)
      standAt pos
      holding [v, ov, iv] (setItem ov iv v)
      release [v, ov, iv] []) := by intro _; rfl) : PG X (.Subscript o i pos) (tDG X.K X.mg (tgSub fo fi)) := PG.imp (pg_sub ho hi set_list ha) fun v σ H Q t => by
  obtain ⟨Hi, ι, ρ, m, w, RR, rw', gd⟩ := t
  refine ⟨Hi, ι, ρ, m, RR, ?_⟩
  unfold tgSub at gd
  cases e1 : fo ρ m with
  | exc c ns vs m1 => rw [e1] at gd; exact gd.elim
  | bad => rw [e1] at gd; exact gd.elim
  | ok ow m1 =>
    rw [e1, R.bind_ok] at gd
    intro Hi1 ι1 ov H1 st1 M1 ro
    refine ⟨Hi1, ι1, ρ, m1, RR.step st1 M1, ?_⟩
    cases e2 : fi ρ m1 with
    | exc c ns vs m1 => rw [e2] at gd; exact gd.elim
    | bad => rw [e2] at gd; exact gd.elim
    | ok iw m2 =>
      rw [e2, R.bind_ok] at gd
      intro Hi2 ι2 iv H2 st2 M2 ri
      have ro2 := ro.step st2
      have rw2 := (rw'.step st1).step st2
      cases ow with
      | d x => exact gd.elim
      | m k =>
        cases iw with
        | m k => exact gd.elim
        | d ix =>
          cases ix with
          | int ii =>
            cases w with
            | m k => exact gd.elim
            | d x =>
              dsimp only at gd
              cases e3 : m2[k]? with
              | none => rw [e3] at gd; exact gd.elim
              | some mo =>
                cases mo with
                | ins c ns vs => rw [e3] at gd; exact gd.elim
                | dead => rw [e3] at gd; exact gd.elim
                | tab P0 q0 => rw [e3] at gd; exact gd.elim
                | lst xs =>
                  rw [e3] at gd
                  dsimp only at gd
                  cases e4 : ixN xs.length ii with
                  | none => rw [e4] at gd; exact gd.elim
                  | some j =>
                    rw [e4] at gd
                    obtain ⟨a, rfl, h1, us, h2, h3⟩ := M2.get e3 ro2
                    cases ri
                    refine ⟨a, us, ii, j, rfl, rfl, h2, by rw [h3.length]; exact e4, ?_⟩
                    obtain ⟨M3, st3⟩ := M2.set h1 e3 (RepL.set rw2 j h3)
                    exact gd _ _ _ _ ((st1.trans st2).trans st3) ⟨M3, ((RR.slots.step st1).step st2).step st3⟩
          | _ => exact gd.elim
end
/-! ### methods of built-in types -/
def isL (w : W) (m : Mem) : Bool := (lstOf w m).isSome
def isS (w : W) (_ : Mem) : Bool := match w with
  | .d (.str _) => true
  | _ => false
abbrev OM := W → List W → Mem → R W
def fBM (ty : W → Mem → Bool) (op : OM) (fo : Ev) (fa : EvL) : Ev := fun ρ m => (fo ρ m).bind fun o m => if ty o m then (fa ρ m).bind fun ws m => op o ws m else .bad
def fBM0 (ty : W → Mem → Bool) (op : OM) (fo : Ev) : Ev := fun ρ m => (fo ρ m).bind fun o m => if ty o m then op o [] m else .bad
def STy (K : PySem.W.Frag) (mg : Str → Option Value) (T : String) (ty : W → Mem → Bool) : Prop := ∀ (Hi : Hp) (ι : List Addr) (m : Mem) (H : Hp) (x : V) (o : W), Mok K mg Hi ι m H → RepW K mg Hi ι x o → ty o m = true → tyV K T x H
def SM (K : PySem.W.Frag) (mg : Str → Option Value) (r : V → List V → Hp → VK → Prop) (op : OM) : Prop := ∀ (Wx : WX) (σ : L2.St) (Hi : Hp) (ι : List Addr) (m : Mem) (H : Hp) (x : V) (xs : List V) (o : W) (ws : List W) (Q : VK), Mok K mg Hi ι m H → RepW K mg Hi ι x o → RepWs K mg Hi ι xs ws →
  Good K mg (RepW K mg) Wx σ Hi ι H (op o ws m) Q → r x xs H Q
theorem ty_list {K : PySem.W.Frag} {mg : Str → Option Value} : STy K mg "list" isL := fun Hi ι m H x o M rx h => by
  unfold isL at h
  obtain ⟨xs, e⟩ := Option.isSome_iff_exists.mp h
  obtain ⟨a, vs, rfl, q, _⟩ := lstOf_rep M e rx
  exact .inl ⟨rfl, vs, .inl (.inl q)⟩
theorem ty_str {K : PySem.W.Frag} {mg : Str → Option Value} : STy K mg "str" isS := fun Hi ι m H x o M rx h => by
  unfold isS at h
  split at h
  · cases rx; rfl
  · cases h
section
variable {X : Cx} {Wx : WX} {kk : Nat}
theorem pd_bm {o e : Expr} {es : List Expr} {apos cpos : Pos} {fo : Ev} {fa : EvL} {T id : String} {name : Str} {r : V → List V → Hp → VK → Prop} {ty : W → Mem → Bool} {op : OM} (pa : PlainAttrs T) (slot : Slot T name id) (hty : typeOf (.builtin id) = pure (.type "method_descriptor")) (hm : MtR X id r)
    (st : STy X.K X.mg T ty) (so : SM X.K X.mg r op) (ho : PE X o (tD X.K X.mg Wx fo)) (ha : PA X (e :: es) (tDA X.K X.mg Wx fa))
    (hbase : attributeBase o name X.env (eval o X.env) = eval o X.env := by rfl)
    (hfew : ((backTo cpos (starEach (e :: es) X.env)).all (fun x => !x.1) && (backToKw cpos (keywordEach [] X.env)).all (fun x => x.1.isSome)
      && decide ((e :: es).length + ([] : List Keyword).length + (if ([] : List Keyword).isEmpty then 0 else 1) < 30)) = true := by rfl)
    (hline : (apos.endLine == cpos.line) = true := by rfl) (hs : starEach (e :: es) X.env = (false, eval e X.env) :: starEach es X.env := by rfl) (hplain : (backTo cpos (starEach es X.env)).any (·.1) = false := by rfl) :
    PE X (.Call (.Attribute o name apos) (e :: es) [] cpos) (tD X.K X.mg Wx (fBM ty op fo fa)) :=
  PE.imp (pe_bm pa slot hty hm ho ha hbase hfew hline hs hplain) fun σ H Q t => by
    obtain ⟨Hi, ι, ρ, m, RR, gd⟩ := t
    refine ⟨Hi, ι, ρ, m, RR, good_bind gd fun ow m1 Hi1 ι1 ov H1 st1 M1 ro g1 => ?_⟩
    split at g1
    · rename_i h
      exact ⟨st _ _ _ _ _ _ M1 ro h, Hi1, ι1, ρ, m1, RR.step st1 M1, good_bind g1 fun ws m2 Hi2 ι2 vs H2 st2 M2 rs g2 => so _ _ _ _ _ _ _ _ _ _ _ M2 (ro.step st2) rs g2⟩
    · exact g1.elim
end
/-- a changeable list becomes another -/
theorem Mok.put {K : PySem.W.Frag} {mg : Str → Option Value} {Hi H : Hp} {ι : List Addr} {m : Mem} {k : Nat} {xs ys : List D} {x : V} (M : Mok K mg Hi ι m H) (e : m[k]? = some (.lst xs)) (r : RepW K mg Hi ι x (.m k)) :
    ∃ a vs, x = .ref a ∧ H a = some (.lst vs) ∧ RepL K mg Hi vs xs ∧ ∀ us, RepL K mg Hi us ys → Mok K mg Hi ι (m.set k (.lst ys)) (upd H a (.lst us)) ∧ Step Hi ι H Hi ι (upd H a (.lst us)) := by
  obtain ⟨a, rfl, h1, us, h2, h3⟩ := M.get e r
  exact ⟨a, us, rfl, h2, h3, fun us ru => M.set h1 e ru⟩
def oAppend : OM := fun o ws m => match o, ws with
  | .m k, [.d x] => match m[k]? with
    | some (.lst xs) => if xs.length < 100000 then .ok (.d .non) (m.set k (.lst (xs ++ [x]))) else .bad
    | _ => .bad
  | _, _ => .bad
theorem s_append {K : PySem.W.Frag} {mg : Str → Option Value} : SM K mg rAppend oAppend := by
  intro Wx σ Hi ι m H x xs o ws Q M rx rs g
  unfold oAppend at g
  split at g
  · split at g
    · rename_i e
      split at g
      · rename_i hl
        cases rs with
        | cons r1 r2 =>
          cases r2
          obtain ⟨a, vs, rfl, q1, q2, q3⟩ := M.put e rx
          obtain ⟨M2, st2⟩ := q3 _ (q2.append (.one r1))
          exact ⟨a, vs, _, rfl, rfl, q1, sz5' (by rw [q2.length]; exact hl), g _ _ _ _ st2 M2 .non⟩
      · exact g.elim
    · exact g.elim
  · exact g.elim
/-! ### built-ins -/
def oAbs : ON := fun ws m => match ws with
  | [.d (.int i)] => .ok (.d (.int (if i < 0 then -i else i))) m
  | _ => .bad
theorem s_abs {K : PySem.W.Frag} {mg : Str → Option Value} : SN K mg (fun xs H Q => ∃ i, xs = [.int i] ∧ Q (.int (if i < 0 then -i else i)) H) oAbs := by
  intro Wx σ Hi ι m H xs ws Q M rs g
  unfold oAbs at g
  split at g
  · cases rs with
    | cons r1 r2 => cases r2; cases r1; exact ⟨_, rfl, g.here (rep := RepW K mg) M (.int _)⟩
  · exact g.elim
def oInt : ON := fun ws m => match ws with
  | [.d (.int i)] => .ok (.d (.int i)) m
  | _ => .bad
theorem s_int {K : PySem.W.Frag} {mg : Str → Option Value} : SN K mg (fun xs H Q => (∃ i, xs = [.int i] ∧ Q (.int i) H) ∨ ∃ k, xs = [.bl k] ∧ Q (.int (if k then 1 else 0)) H) oInt := by
  intro Wx σ Hi ι m H xs ws Q M rs g
  unfold oInt at g
  split at g
  · cases rs with
    | cons r1 r2 => cases r2; cases r1; exact .inl ⟨_, rfl, g.here (rep := RepW K mg) M (.int _)⟩
  · exact g.elim
def oLen : ON := fun ws m => match ws with
  | [.d (.tup xs)] => .ok (.d (.int xs.length)) m
  | [.d (.fls xs)] => .ok (.d (.int xs.length)) m
  | [.d (.str x)] => if x.length ≤ 100000 then .ok (.d (.int x.length)) m else .bad
  | [w] => match lstOf w m with
    | some xs => .ok (.d (.int xs.length)) m
    | none => .bad
  | _ => .bad
theorem s_len {K : PySem.W.Frag} {mg : Str → Option Value} : SN K mg (fun xs H Q => ∃ x n, xs = [x] ∧ LenV K x H n ∧ Q (.int n) H) oLen := by
  intro Wx σ Hi ι m H xs ws Q M rs g
  unfold oLen at g
  split at g
  · cases rs with
    | cons r1 r2 =>
      cases r2
      cases r1 with
      | tup s r => exact ⟨_, _, rfl, .inr ⟨_, sqT_mono M.sub s, rfl⟩, by rw [r.length]; exact g.here (rep := RepW K mg) M (.int _)⟩
  · cases rs with
    | cons r1 r2 =>
      cases r2
      cases r1 with
      | fls s r => exact ⟨_, _, rfl, .inl ⟨_, sqL_mono M.sub s, rfl⟩, by rw [r.length]; exact g.here (rep := RepW K mg) M (.int _)⟩
  · split at g
    · rename_i hl
      cases rs with
      | cons r1 r2 => cases r2; cases r1; exact ⟨_, _, rfl, ⟨sz5 hl, rfl⟩, g.here (rep := RepW K mg) M (.int _)⟩
    · exact g.elim
  · split at g
    · rename_i e
      cases rs with
      | cons r1 r2 =>
        cases r2
        obtain ⟨a, vs, rfl, q, r⟩ := lstOf_rep M e r1
        exact ⟨_, _, rfl, .inl ⟨vs, .inl (.inl q), rfl⟩, by rw [r.length]; exact g.here (rep := RepW K mg) M (.int _)⟩
    · exact g.elim
  · exact g.elim
/-- list(x); mu: it may be changed -/
def oList (mu : Bool) : ON := fun ws m => match ws with
  | [.d (.tup xs)] => if mu then .ok (.m m.length) (m ++ [.lst xs]) else .ok (.d (.lst xs)) m
  | [.d (.fls xs)] => if mu then .ok (.m m.length) (m ++ [.lst xs]) else .ok (.d (.lst xs)) m
  | [w] => match lstOf w m with
    | some xs => if mu then .ok (.m m.length) (m ++ [.lst xs]) else .ok (.d (.lst xs)) m
    | none => .bad
  | _ => .bad
theorem s_list {K : PySem.W.Frag} {mg : Str → Option Value} (mu : Bool) : SN K mg (fun xs H Q => ∃ p ys, xs = [.ref p] ∧ (SqL K H p ys ∨ SqT K H p ys) ∧ ∀ l, H l = none → Q (.ref l) (upd H l (.lst ys))) (oList mu) := by
  intro Wx σ Hi ι m H xs ws Q M rs g
  unfold oList at g
  split at g
  · cases rs with
    | cons r1 r2 =>
      cases r2
      cases r1 with
      | tup s r => exact ⟨_, _, rfl, .inr (sqT_mono M.sub s), newL M r g⟩
  · cases rs with
    | cons r1 r2 =>
      cases r2
      cases r1 with
      | fls s r => exact ⟨_, _, rfl, .inl (sqL_mono M.sub s), newL M r g⟩
  · split at g
    · rename_i e
      cases rs with
      | cons r1 r2 =>
        cases r2
        obtain ⟨a, vs, rfl, q, r⟩ := lstOf_rep M e r1
        exact ⟨_, _, rfl, .inl (.inl (.inl q)), newL M r g⟩
    · exact g.elim
  · exact g.elim
/-- max, min of ints: two, or a list -/
def maxL : List Int → Int
  | [] => 0
  | [a] => a
  | a :: r => max a (maxL r)
def minL : List Int → Int
  | [] => 0
  | [a] => a
  | a :: r => min a (minL r)
theorem maxL_spec : ∀ (l : List Int), 0 < l.length → maxL l ∈ l ∧ ∀ y ∈ l, y ≤ maxL l
  | [], h => by simp at h
  | [a], _ => by simp [maxL]
  | a :: b :: r, _ => by
    obtain ⟨h1, h2⟩ := maxL_spec (b :: r) (by simp)
    have e : maxL (a :: b :: r) = max a (maxL (b :: r)) := rfl
    rw [e]
    refine ⟨?_, fun y hy => ?_⟩
    · by_cases hc : a ≤ maxL (b :: r)
      · rw [Int.max_eq_right hc]; exact List.mem_cons_of_mem _ h1
      · rw [Int.max_eq_left (by omega)]; exact List.mem_cons_self
    · rcases List.mem_cons.mp hy with rfl | hy
      · omega
      · have := h2 y hy; omega
def oMax : ON := fun ws m => match ws with
  | [.d (.int i), .d (.int j)] => .ok (.d (.int (if j > i then j else i))) m
  | [w] => match lstOf w m with
    | some xs => match intsD xs with
      | some ns => if 0 < ns.length then .ok (.d (.int (maxL ns))) m else .bad
      | none => .bad
    | none => .bad
  | _ => .bad
def oMin : ON := fun ws m => match ws with
  | [.d (.int i), .d (.int j)] => .ok (.d (.int (if j < i then j else i))) m
  | [w] => match lstOf w m with
    | some xs => match intsD xs with
      | some ns => if 0 < ns.length then .ok (.d (.int (minL ns))) m else .bad
      | none => .bad
    | none => .bad
  | _ => .bad
theorem s_max {K : PySem.W.Frag} {mg : Str → Option Value} : SN K mg (fun xs H Q => (∃ i j, xs = [.int i, .int j] ∧ Q (.int (if j > i then j else i)) H) ∨ rMax K xs H Q) oMax := by
  intro Wx σ Hi ι m H xs ws Q M rs g
  unfold oMax at g
  split at g
  · cases rs with
    | cons r1 r2 => cases r2 with | cons r2 r3 => cases r3; cases r1; cases r2; exact .inl ⟨_, _, rfl, g.here (rep := RepW K mg) M (.int _)⟩
  · split at g
    · rename_i e
      split at g
      · rename_i ns e2
        split at g
        · rename_i hl
          cases rs with
          | cons r1 r2 =>
            cases r2
            obtain ⟨a, vs, rfl, q, r⟩ := lstOf_rep M e r1
            rw [ints_eq e2] at r
            rw [RepL.ints_ r] at q
            refine .inr ⟨a, ns, rfl, .inl (.inl q), hl, fun z hz1 hz2 => ?_⟩
            obtain ⟨p1, p2⟩ := maxL_spec ns hl
            have e3 : z = maxL ns := by have := hz2 _ p1; have := p2 _ hz1; omega
            subst e3
            exact g.here (rep := RepW K mg) M (.int _)
        · exact g.elim
      · exact g.elim
    · exact g.elim
  · exact g.elim
def oAll : ON := fun ws m => match ws with
  | [w] => match lstOf w m with
    | some xs => match boolsD xs with
      | some ns => .ok (.d (.bl (ns.all id))) m
      | none => .bad
    | none => .bad
  | _ => .bad
theorem s_all {K : PySem.W.Frag} {mg : Str → Option Value} : SN K mg (rAll K) oAll := by
  intro Wx σ Hi ι m H xs ws Q M rs g
  unfold oAll at g
  split at g
  · split at g
    · rename_i e
      split at g
      · rename_i ns e2
        cases rs with
        | cons r1 r2 =>
          cases r2
          obtain ⟨a, vs, rfl, q, r⟩ := lstOf_rep M e r1
          rw [bools_eq e2] at r
          rw [RepL.bools_ r] at q
          exact ⟨a, ns, rfl, .inl (.inl q), g.here (rep := RepW K mg) M (.bl _)⟩
      · exact g.elim
    · exact g.elim
  · exact g.elim
def oSum : ON := fun ws m => match ws with
  | [w] => match lstOf w m with
    | some xs => match intsD xs with
      | some ns => .ok (.d (.int ns.sum)) m
      | none => .bad
    | none => .bad
  | _ => .bad
theorem s_sum {K : PySem.W.Frag} {mg : Str → Option Value} : SN K mg (rSum K) oSum := by
  intro Wx σ Hi ι m H xs ws Q M rs g
  unfold oSum at g
  split at g
  · split at g
    · rename_i e
      split at g
      · rename_i ns e2
        cases rs with
        | cons r1 r2 =>
          cases r2
          obtain ⟨a, vs, rfl, q, r⟩ := lstOf_rep M e r1
          rw [ints_eq e2] at r
          rw [RepL.ints_ r] at q
          exact ⟨a, ns, rfl, .inl (.inl q), g.here (rep := RepW K mg) M (.int _)⟩
      · exact g.elim
    · exact g.elim
  · exact g.elim
end GD
/-! GD7: isinstance, zip, enumerate, keywords. -/
namespace GD
open PySem PySem.Spec PyProof.Rows L2
/-! ### isinstance of a built-in class -/
def tyName : W → Mem → Option String
  | .d .non, _ => some "NoneType"
  | .d (.bl _), _ => some "bool"
  | .d (.int _), _ => some "int"
  | .d (.str _), _ => some "str"
  | .d (.tup _), _ => some "tuple"
  | .d (.lst _), _ => some "list"
  | .m k, m => match m[k]? with
    | some (.lst _) => some "list"
    | _ => none
  | _, _ => none
def subTy (t n : String) : Option Bool :=
  if ["list", "tuple", "dict", "bool", "int", "str"].contains n && ["NoneType", "bool", "int", "str", "tuple", "list"].contains t then some (t == n || (t == "bool" && n == "int")) else none
theorem subTy_kit {t n : String} {b : Bool} (h : subTy t n = some b) : kitB t n = some b := by
  unfold subTy at h
  split at h
  · rename_i hc
    rw [Bool.and_eq_true] at hc
    cases h
    obtain ⟨h1, h2⟩ := hc
    simp only [List.contains_eq_mem, List.mem_cons, List.not_mem_nil, or_false, decide_eq_true_eq] at h1 h2
    rcases h1 with rfl | rfl | rfl | rfl | rfl | rfl <;> rcases h2 with rfl | rfl | rfl | rfl | rfl | rfl <;> decide +kernel
  · cases h
def oIsi : ON := fun ws m => match ws with
  | [x, .d (.ty n)] => match tyName x m with
    | some t => match subTy t n with
      | some b => .ok (.d (.bl b)) m
      | none => .bad
    | none => .bad
  | _ => .bad
theorem tyName_rep {K : PySem.W.Frag} {mg : Str → Option Value} {Hi H : Hp} {ι : List Addr} {m : Mem} (M : Mok K mg Hi ι m H) {w : W} {v : V} {t : String} (h : tyName w m = some t) (r : RepW K mg Hi ι v w) : TyX K H v (.type t) := by
  unfold tyName at h
  split at h
  · cases h; cases r; exact .base .non
  · cases h; cases r; exact .base (.bl _)
  · cases h; cases r; exact .base (.int _)
  · cases h; cases r; exact .base (.str _)
  · cases h
    cases r with
    | tup s r =>
      rcases sqT_mono M.sub s with (h | ⟨o, h⟩) | ⟨o, its, n, h1, h2, _⟩
      · exact .base (.tup h)
      · exact .fTuple h
      · exact .kTuple h1 h2
  · cases h
    cases r with
    | lst s r => exact .base (.lst (M.sub _ _ s))
  · split at h
    · rename_i e
      cases h
      obtain ⟨a, rfl, h1, us, h2, h3⟩ := M.get e r
      exact .base (.lst h2)
    · cases h
  · cases h
theorem s_isi {K : PySem.W.Frag} {mg : Str → Option Value} : SN K mg (rIsi K) oIsi := by
  intro Wx σ Hi ι m H xs ws Q M rs g
  unfold oIsi at g
  split at g
  · split at g
    · rename_i t e1
      split at g
      · rename_i b e2
        cases rs with
        | cons r1 r2 =>
          cases r2 with
          | cons r2 r3 =>
            cases r3
            cases r2 with
            | ty nn => exact ⟨_, _, _, _, b, rfl, .ty _, tyName_rep M e1 r1, kit_ty (subTy_kit e2), g.here (rep := RepW K mg) M (.bl _)⟩
      · exact g.elim
    · exact g.elim
  · exact g.elim
/-! ### zip, enumerate -/
def zipD (xs ys : List D) : List W := (xs.zip ys).map fun p => W.d (.tup [p.1, p.2])
def enumD (i : Nat) : List D → List W
  | [] => []
  | x :: xs => W.d (.tup [.int (i : Int), x]) :: enumD (i + 1) xs
def iZip2 (a : EvL) : EvL := fun ρ m => (a ρ m).bind fun ws m => match ws with
  | [.d (.tup xs), .d (.tup ys)] => .ok (zipD xs ys) m
  | [.d (.lst xs), .d (.lst ys)] => .ok (zipD xs ys) m
  | _ => .bad
theorem zipD_get : ∀ {xs ys : List D} {i : Nat} {w : W}, (zipD xs ys)[i]? = some w → ∃ x y, xs[i]? = some x ∧ ys[i]? = some y ∧ w = .d (.tup [x, y])
  | [], _, _, _, h => by simp [zipD] at h
  | _ :: _, [], _, _, h => by simp [zipD] at h
  | x :: xs, y :: ys, 0, w, h => by simp [zipD] at h; exact ⟨x, y, rfl, rfl, h.symm⟩
  | x :: xs, y :: ys, i + 1, w, h => by
    obtain ⟨a, b, h1, h2, h3⟩ := zipD_get (xs := xs) (ys := ys) (i := i) (w := w) (by simpa [zipD] using h)
    exact ⟨a, b, by simpa using h1, by simpa using h2, h3⟩
theorem zipD_len (xs ys : List D) : (zipD xs ys).length = min xs.length ys.length := by simp [zipD]
theorem enumD_len : ∀ (xs : List D) (k : Nat), (enumD k xs).length = xs.length
  | [], _ => rfl
  | _ :: xs, k => by simp [enumD, enumD_len xs (k + 1)]
theorem enumD_get : ∀ {xs : List D} {k i : Nat} {w : W}, (enumD k xs)[i]? = some w → ∃ x, xs[i]? = some x ∧ w = .d (.tup [.int ((k + i : Nat) : Int), x])
  | [], _, _, _, h => by simp [enumD] at h
  | x :: xs, k, 0, w, h => by simp [enumD] at h; exact ⟨x, rfl, by simpa using h.symm⟩
  | x :: xs, k, i + 1, w, h => by
    obtain ⟨a, h1, h2⟩ := enumD_get (xs := xs) (k := k + 1) (i := i) (w := w) (by simpa [enumD] using h)
    refine ⟨a, by simpa using h1, ?_⟩
    rw [h2]
    congr 4
    omega
theorem Mok.pair {K : PySem.W.Frag} {mg : Str → Option Value} {Hi H : Hp} {ι : List Addr} {m : Mem} {T : Addr} {x y : V} {a b : D} (M : Mok K mg Hi ι m H) (hT : H T = none) (r1 : Rep K mg Hi x a) (r2 : Rep K mg Hi y b) :
    ∃ Hi2, Step Hi ι H Hi2 ι (upd H T (.tup [x, y])) ∧ Mok K mg Hi2 ι m (upd H T (.tup [x, y])) ∧ RepW K mg Hi2 ι (.ref T) (.d (.tup [a, b])) := by
  obtain ⟨M2, st2⟩ := M.newD (o := .tup [x, y]) hT
  exact ⟨_, st2, M2, Rep.tup (.inl (.inl upd_same)) (.cons (r1.mono st2.imm) (.cons (r2.mono st2.imm) .nil))⟩
theorem itOk_zipL {K : PySem.W.Frag} {mg : Str → Option Value} {Hi : Hp} {ι : List Addr} {a b : Addr} {vs us : List V} {xs ys : List D} (s1 : Hi a = some (.lst vs)) (r1 : RepL K mg Hi vs xs) (s2 : Hi b = some (.lst us)) (r2 : RepL K mg Hi us ys) : ItOk K mg Hi ι (Itz K a b) (zipD xs ys) where
  go := fun i Hi1 ι1 m1 H1 sm _ M hi => by
    rw [zipD_len] at hi
    have h1 : i < vs.length := by rw [r1.length]; omega
    have h2 : i < us.length := by rw [r2.length]; omega
    exact ⟨vs, us, vs[i], us[i], .inl (.inl (M.sub _ _ (sm _ _ s1))), .inl (.inl (M.sub _ _ (sm _ _ s2))), by simp [h1], by simp [h2]⟩
  stop := fun i Hi1 ι1 m1 H1 sm _ M hi => by
    rw [zipD_len] at hi
    exact ⟨vs, us, .inl (.inl (M.sub _ _ (sm _ _ s1))), .inl (.inl (M.sub _ _ (sm _ _ s2))), by rw [r1.length, r2.length]; omega⟩
  yld := fun i w Hi1 ι1 m1 H1 x H2 sm pr M hw hy => by
    obtain ⟨T, p, q, rfl, hT, rfl, h1, h2⟩ := hy
    obtain ⟨d, e, e1, e2, rfl⟩ := zipD_get hw
    have z1 := h1 vs (.inl (.inl (M.sub _ _ (sm _ _ s1))))
    have z2 := h2 us (.inl (.inl (M.sub _ _ (sm _ _ s2))))
    obtain ⟨v, q1, q2⟩ := r1.get e1
    obtain ⟨u, q3, q4⟩ := r2.get e2
    rw [z1] at q1
    rw [z2] at q3
    cases q1
    cases q3
    exact M.pair hT (q2.mono sm) (q4.mono sm)
theorem itOk_zipT {K : PySem.W.Frag} {mg : Str → Option Value} {Hi : Hp} {ι : List Addr} {a b : Addr} {vs us : List V} {xs ys : List D} (s1 : SqT K Hi a vs) (r1 : RepL K mg Hi vs xs) (s2 : SqT K Hi b us) (r2 : RepL K mg Hi us ys) : ItOk K mg Hi ι (RZ.ItzT K a b) (zipD xs ys) where
  go := fun i Hi1 ι1 m1 H1 sm _ M hi => by
    rw [zipD_len] at hi
    have h1 : i < vs.length := by rw [r1.length]; omega
    have h2 : i < us.length := by rw [r2.length]; omega
    exact ⟨vs, us, vs[i], us[i], sqT_mono (sm.trans M.sub) s1, sqT_mono (sm.trans M.sub) s2, by simp [h1], by simp [h2]⟩
  stop := fun i Hi1 ι1 m1 H1 sm _ M hi => by
    rw [zipD_len] at hi
    exact ⟨vs, us, sqT_mono (sm.trans M.sub) s1, sqT_mono (sm.trans M.sub) s2, by rw [r1.length, r2.length]; omega⟩
  yld := fun i w Hi1 ι1 m1 H1 x H2 sm pr M hw hy => by
    obtain ⟨T, p, q, rfl, hT, rfl, h1, h2⟩ := hy
    obtain ⟨d, e, e1, e2, rfl⟩ := zipD_get hw
    have z1 := h1 vs (sqT_mono (sm.trans M.sub) s1)
    have z2 := h2 us (sqT_mono (sm.trans M.sub) s2)
    obtain ⟨v, q1, q2⟩ := r1.get e1
    obtain ⟨u, q3, q4⟩ := r2.get e2
    rw [z1] at q1
    rw [z2] at q3
    cases q1
    cases q3
    exact M.pair hT (q2.mono sm) (q4.mono sm)
section
variable {X : Cx} {Wx : WX} {kk : Nat}
theorem pid_zip {e e2 : Expr} {p pos tpos : Pos} {elts : List Expr} {k1 : Nat} {f : EvL} (hg : Gl X "zip") (hm : X.mg "zip" = none) (ha : PA X [e, e2] (tDA X.K X.mg Wx f))
    (hs : starEach [e, e2] X.env = (false, eval e X.env) :: starEach [e2] X.env := by rfl) (hpl : (backTo pos (starEach [e2] X.env)).any (·.1) = false := by rfl) :
    PI X (.Tuple elts k1 tpos) (.Call (.Name "zip" p) [e, e2] [] pos) (tDI X.K X.mg Wx (iZip2 f)) := PI.imp (RZ.pi_zipA hg hm ha hs hpl) fun σ H Q t => by
  obtain ⟨Hi, ι, ρ, m, RR, gd⟩ := t
  refine ⟨Hi, ι, ρ, m, RR, good_bind gd fun ws m1 Hi1 ι1 vs H1 st M rv g1 => ?_⟩
  split at g1
  · cases rv with
    | cons r1 r2 =>
      cases r2 with
      | cons r2 r3 =>
        cases r3
        cases r1 with
        | tup s1 q1 =>
          cases r2 with
          | tup s2 q2 => exact ⟨_, _, _, _, rfl, .inr ⟨sqT_mono M.sub s1, sqT_mono M.sub s2, g1 _ _ _ _ Step.refl M (itOk_zipT s1 q1 s2 q2)⟩⟩
  · cases rv with
    | cons r1 r2 =>
      cases r2 with
      | cons r2 r3 =>
        cases r3
        cases r1 with
        | lst s1 q1 =>
          cases r2 with
          | lst s2 q2 => exact ⟨_, _, _, _, rfl, .inl ⟨.inl (.inl (M.sub _ _ s1)), .inl (.inl (M.sub _ _ s2)), g1 _ _ _ _ Step.refl M (itOk_zipL s1 q1 s2 q2)⟩⟩
  · exact g1.elim
end
/-! ### keywords -/
theorem PK.imp {X : Cx} {kws : List Keyword} {t t' : TA} (h : PK X kws t) (hi : ∀ σ H Q, t' σ H Q → t σ H Q) : PK X kws t' := ⟨fun p pins s σ H Q I q => h.run p pins s σ H Q I (hi σ H Q q)⟩
end GD
/-! GD8: unpacking, recursion, the law's end. -/
namespace GD
open PySem PySem.Spec PyProof.Rows L2
/-- (a, b, ..) = a tuple or a list -/
def tgUn (n : Nat) (a : TgL) : Tg := fun w ρ m => match w with
  | .d (.tup xs) => if xs.length = n then a (xs.map .d) ρ m else .bad
  | .d (.lst xs) => if xs.length = n then a (xs.map .d) ρ m else .bad
  | _ => .bad
section
variable {X : Cx} {Wx : WX} {kk : Nat}
theorem PG.or {e : Expr} {t t' : TG} (h : PG X e t) (h' : PG X e t') : PG X e (fun v σ H Q => t v σ H Q ∨ t' v σ H Q) := ⟨fun pins s σ H v u Q I r q => q.elim (h.run pins s σ H v u Q I r) (h'.run pins s σ H v u Q I r)⟩
theorem pgd_un {es : List Expr} {k : Nat} {pos : Pos} {g : TgL} {n : Nat} (hc : X.calm = true) (h : PGs X es (tDGs X.K X.mg g)) (hn : (assignEach es X.env).length = n := by rfl) (hst : (assignEach es X.env).findIdx? (·.1) = none := by rfl) :
    PG X (.Tuple es k pos) (tDG X.K X.mg (tgUn n g)) := PG.imp (PG.or (pg_tup hc h hn hst) (pg_unl hc h hn hst)) fun v σ H Q t => by
  obtain ⟨Hi, ι, ρ, m, w, RR, rw', gd⟩ := t
  cases w with
  | m k => exact gd.elim
  | d x =>
    cases x with
    | tup xs =>
      by_cases hl : xs.length = n
      · have e : tgUn n g (.d (.tup xs)) ρ m = g (xs.map .d) ρ m := if_pos hl
        rw [e] at gd
        cases rw' with
        | tup s r =>
          rename_i a vs
          exact .inl ⟨a, vs, rfl, sqT_mono RR.mok.sub s, r.length.trans hl, Hi, ι, ρ, m, _, RR, r.ws, gd⟩
      · have e : tgUn n g (.d (.tup xs)) ρ m = .bad := if_neg hl
        rw [e] at gd
        exact gd.elim
    | lst xs =>
      by_cases hl : xs.length = n
      · have e : tgUn n g (.d (.lst xs)) ρ m = g (xs.map .d) ρ m := if_pos hl
        rw [e] at gd
        cases rw' with
        | lst s r =>
          rename_i a vs
          exact .inr ⟨a, vs, rfl, .inl (.inl (RR.mok.sub _ _ s)), r.length.trans hl, Hi, ι, ρ, m, _, RR, r.ws, gd⟩
      · have e : tgUn n g (.d (.lst xs)) ρ m = .bad := if_neg hl
        rw [e] at gd
        exact gd.elim
    | _ => exact gd.elim
end
/-- a def of which nothing is told -/
theorem def_bad {P : Program} {w : World} {K : PySem.W.Frag} {mg : Str → Option Value} {base : Heap} {x : Str} {st : Stmt} {k : Nat} (T : TopDef K mg x st) : DefOk P w K mg base x k (fun _ _ => .bad) := by
  obtain ⟨f, fd, F, hm⟩ := T.ex
  exact ⟨f, fun A outer s H us vs Q E hr e0 r h => by obtain ⟨_, _, _, _, _, _, g⟩ := h; exact g.elim, hm, F.kp⟩
theorem ints_repL {K : PySem.W.Frag} {mg : Str → Option Value} {H : Hp} : ∀ ns : List Int, RepL K mg H (ns.map V.int) (ns.map D.int)
  | [] => .nil
  | n :: ns => .cons (.int n) (ints_repL ns)
end GD
/-! GD9: chains of comparisons. -/
namespace GD
open PySem PySem.Spec PyProof.Rows L2
def fChain (o o' : O2) (a b c : Ev) : Ev := fun ρ m => (a ρ m).bind fun x m => (b ρ m).bind fun y m => (o x y m).bind fun z m => match z with
  | .d (.bl true) => (c ρ m).bind fun w m => o' y w m
  | .d (.bl false) => .ok (.d (.bl false)) m
  | _ => .bad
section
variable {X : Cx} {Wx : WX} {kk : Nat}
theorem chain_imp {r r' : R2} {o o' : O2} {fa fb fc : Ev} (so : S2 X.K X.mg r o) (so' : S2 X.K X.mg r' o') {σ : L2.St} {H : Hp} {Q : VK} (t : tD X.K X.mg Wx (fChain o o' fa fb fc) σ H Q) : tChain r r' (tD X.K X.mg Wx fa) (tD X.K X.mg Wx fb) (tD X.K X.mg Wx fc) σ H Q := by
  obtain ⟨Hi, ι, ρ, m, RR, g⟩ := t
  refine ⟨Hi, ι, ρ, m, RR, good_bind g fun x m1 Hi1 ι1 v H1 st M rv g1 => ⟨Hi1, ι1, ρ, m1, RR.step st M, good_bind g1 fun y m2 Hi2 ι2 u H2 st2 M2 ru g2 => so Wx σ _ _ _ _ _ _ _ _ _ M2 (rv.step st2) ru (good_bind g2 fun z m3 Hi3 ι3 z' H3 st3 M3 rz g3 => ?_)⟩⟩
  split at g3
  · cases rz
    refine ⟨true, rfl, ?_⟩
    rw [if_pos rfl]
    exact ⟨Hi3, ι3, ρ, m3, ((RR.step st M).step st2 M2).step st3 M3, good_bind g3 fun q m4 Hi4 ι4 q' H4 st4 M4 rq g4 => so' Wx σ _ _ _ _ _ _ _ _ _ M4 ((ru.step st3).step st4) rq g4⟩
  · cases rz
    refine ⟨false, rfl, ?_⟩
    rw [if_neg (by decide)]
    exact g3.here (rep := RepW X.K X.mg) M3 (.bl false)
  · exact g3.elim
theorem pd_chain {a b c : Expr} {op op' : CmpOp} {pos : Pos} {r r' : R2} {o o' : O2} {fa fb fc : Ev} (ho : OpR X (compareOp op) r) (so : S2 X.K X.mg r o) (ho' : OpR X (compareOp op') r') (so' : S2 X.K X.mg r' o') (ha : PE X a (tD X.K X.mg Wx fa)) (hb : PE X b (tD X.K X.mg Wx fb)) (hc : PE X c (tD X.K X.mg Wx fc))
    (hm : lastMarks [op, op'] [b, c] = false := by with_unfolding_all rfl) : PE X (.Compare a [op, op'] [b, c] pos) (tD X.K X.mg Wx (fChain o o' fa fb fc)) :=
  PE.imp (pe_chain ho ho' ha hb hc hm) fun σ H Q t => chain_imp so so' t
end
/-! ### powers of great numbers -/
end GD
/-! GDG: a whole number or a tuple looked up in a dict of texts. -/
namespace PySem
open Sem (wp)
open SeqAt
mutual
def dataK : PyData → Option NestedKey
  | .none => some .none
  | .bool b => some (.num (if b = true then 1 else 0))
  | .int i => some (.num i)
  | .str x => some (.text x)
  | .tuple xs => (dataKs xs).map .tup
  | _ => none
def dataKs : List PyData → Option (List NestedKey)
  | [] => some []
  | d :: ds => match dataK d, dataKs ds with
    | some k, some ks => some (k :: ks)
    | _, _ => none
end
mutual
theorem Reads.nested {h : Heap} : ∀ (d : PyData) (u : Value) (as : List Addr) (k : NestedKey), Reads h u d as → dataK d = some k → NestedIs h k u
  | .none, _, _, _, r, e => by cases r; cases e; exact .none
  | .bool b, _, _, _, r, e => by cases r; cases e; exact .bool rfl
  | .int i, _, _, _, r, e => by cases r; cases e; exact .int _ _
  | .str x, _, _, _, r, e => by cases r; cases e; exact .text _ _
  | .tuple xs, _, _, _, r, e => by
    cases r with
    | tuple h1 h2 h3 h4 =>
      unfold dataK at e
      obtain ⟨ks, e1, e2⟩ := Option.map_eq_some_iff.mp e
      subst e2
      exact .tup h1 h2 h3 (ReadsAll.nested xs _ _ ks h4 e1)
  | .list xs, _, _, _, r, e => by unfold dataK at e; cases e
  | .dict xs, _, _, _, r, e => by unfold dataK at e; cases e
theorem ReadsAll.nested {h : Heap} : ∀ (ds : List PyData) (us : List Value) (as : List Addr) (ks : List NestedKey), ReadsAll h us ds as → dataKs ds = some ks → NestedAll h ks us
  | [], _, _, _, r, e => by
    cases r
    unfold dataKs at e
    cases e
    exact .nil
  | d :: ds, _, _, _, r, e => by
    cases r with
    | cons r1 r2 =>
      unfold dataKs at e
      split at e
      · rename_i k ks e1 e2
        cases e
        exact .cons (Reads.nested d _ _ k r1 e1) (ReadsAll.nested ds _ _ ks r2 e2)
      · cases e
end
def NestedKey.notText : NestedKey → Bool
  | .text _ => false
  | _ => true
section
variable {prog : Program} {w : World} {A : Around} {E : Value → Shared → Prop} {s : Shared}
theorem beq_notText {k : NestedKey} (h : k.notText = true) (x : Str) : NestedKey.beq (.text x) k = false := by
  cases k <;> first | rfl | cases h
/-- no key of the dict is such a one -/
theorem wpAny_dictFind_other {d : Addr} {o : Obj} {es : Array DictEntry} {ep : Nat} {k : NestedKey} {key : Value} {hk : Int} {Q : Option Nat → Shared → Prop} (hkey : NestedIs s.heap k key) (hnt : k.notText = true) (hdp : k.depth ≤ 8) (hu : A.units + 8 < cLine)
    (ho : s.heap.get? d = some o) (hd : o.data = .dict es ep) (hs : ∀ e ∈ es, ∃ x t, e.key = .str x t) (h : Q none s) :
    wpAny (model prog w) A (dictFind d key hk) Q E s := by
  have eq : ∀ e ∈ es, EqAt A s e.key key false := fun e he => by
    obtain ⟨x, t, hx⟩ := hs e he
    have z := eqAt_key (.text x) k A s e.key key (by rw [hx]; exact .text _ _) hkey (by show A.units + min 0 _ < cLine; omega)
    rw [beq_notText hnt] at z
    exact z
  have nostr : ∀ x t, key ≠ .str x t := fun x t e => by
    subst e
    cases hkey
    cases hnt
  have qk : ∀ (E : Value → Shared → Prop) (Q : Bool → Shared → Prop), Q true s → wpAny (model prog w) A (eqIsQuiet 8 key) Q E s := fun E Q hq => quiet_key k key 8 s hkey hdp A E Q hq
  have mem : ∀ x, ∀ hlt : x < es.size, es[x] ∈ es := fun x hlt => Array.getElem_mem hlt
  unfold dictFind
  try with_reducible refine wpAny_holding ?_
  refine wpAny_bind (wpAny_dictEntries ho hd ?_)
  dsimp only
  have plain : wpAny (model prog w) A (dictWalkPlain d key hk es (placesWithHash es.size (fun i => es[i]?.map (·.hash)) hk)) Q E s := by
    unfold dictWalkPlain
    refine wpAny_bind ?_
    refine wpAny_forIn_list _ (fun rest b s' => s' = s ∧ b = (none, ())) _ ?_ ?_ _ _ ⟨rfl, rfl⟩
    · rintro x rest b s' ⟨rfl, rfl⟩
      cases hex : es[x]? with
      | none => exact wpAny_pure ⟨rfl, rfl⟩
      | some e =>
        dsimp only
        have he : e ∈ es := Array.mem_of_getElem? hex
        by_cases hh : (e.hash == hk) = true
        · rw [if_pos hh]
          refine wpAny_bind (wpAny_dictEpoch ho hd (wpAny_bind (eq e he prog w E _ (wpAny_bind (wpAny_dictEpoch ho hd ?_)))))
          show wpAny _ _ (if (ep != ep) = true then _ else _) _ E _
          rw [if_neg (by simp)]
          simp only [Bool.false_eq_true, if_false]
          first
            | exact wpAny_bind (wpAny_rule (wpAny_pure ⟨rfl, rfl⟩))
            | exact wpAny_rule (wpAny_pure ⟨rfl, rfl⟩)
            | exact wpAny_pure ⟨rfl, rfl⟩
        · rw [if_neg hh]
          exact wpAny_pure ⟨rfl, rfl⟩
    · rintro b s' ⟨rfl, rfl⟩
      exact wpAny_pure h
  have stored : ∀ v ∈ (placesWithHash es.size (fun i => es[i]?.map (·.hash)) hk).filterMap (fun i => es[i]?.map (·.key)), ∃ x t, v = .str x t := by
    intro v hv
    obtain ⟨i, _, hi⟩ := List.mem_filterMap.mp hv
    cases hei : es[i]? with
    | none => rw [hei] at hi; cases hi
    | some e =>
      rw [hei] at hi
      obtain rfl : e.key = v := by simpa using hi
      exact hs e (Array.mem_of_getElem? hei)
  by_cases hc : carriedByValue key = true
  · have hall : ((key :: (placesWithHash es.size (fun i => es[i]?.map (·.hash)) hk).filterMap fun i => es[i]?.map (·.key)).all carriedByValue) = true := by
      rw [List.all_cons, hc, Bool.true_and, List.all_eq_true]
      intro v hv
      obtain ⟨x, t, rfl⟩ := stored v hv
      rfl
    rw [if_pos hall]
    split
    · rename_i x t
      exact absurd rfl (nostr x t)
    · exact plain
  · obtain ⟨a, rfl⟩ : ∃ a, key = .ref a := by
      cases key <;> first | exact ⟨_, rfl⟩ | exact absurd rfl hc
    have hany : ¬ (es.any fun e => e.key == Value.ref a && e.hash != hk) = true := by
      rw [← Array.any_toList, List.any_eq_true]
      rintro ⟨e, hin, hx⟩
      obtain ⟨x, t, he⟩ := hs e (Array.mem_toList_iff.mp hin)
      rw [he] at hx
      have : (Value.str x t == Value.ref a) = false := rfl
      rw [this] at hx
      cases hx
    have hno1 : ¬ (((placesWithHash es.size (fun i => es[i]?.map (·.hash)) hk).filterMap (fun i => es[i]?.map (·.key))) == [Value.ref a]) = true := fun e => by
      have e2 := eq_of_beq e
      obtain ⟨x, t, e3⟩ := stored (.ref a) (by rw [e2]; exact List.mem_singleton_self _)
      cases e3
    rw [if_neg (show ¬ ((Value.ref a :: (placesWithHash es.size (fun i => es[i]?.map (·.hash)) hk).filterMap (fun i => es[i]?.map (·.key))).all carriedByValue) = true by simp [carriedByValue])]
    rw [if_neg hany, if_neg hno1]
    refine wpAny_bind ?_
    have tell : ∀ (Q : Bool → Shared → Prop), Q false s → wpAny (model prog w) A (tableMayTell (.ref a) ((placesWithHash es.size (fun i => es[i]?.map (·.hash)) hk).filterMap (fun i => es[i]?.map (·.key)))) Q E s := fun Q hq => by
      unfold tableMayTell
      split
      · exact wpAny_pure hq
      · refine wpAny_bind (qk _ _ ?_)
        simp only [Bool.not_true, Bool.false_eq_true, if_false]
        refine wpAny_bind ?_
        refine wpAny_forIn_list _ (fun rest r s' => s' = s ∧ r = (none, ()) ∧ ∀ v ∈ rest, ∃ x t, v = .str x t) _ ?_ ?_ _ _ ⟨rfl, rfl, stored⟩
        · rintro x rest r s' ⟨rfl, rfl, hr⟩
          obtain ⟨y, t, rfl⟩ := hr x List.mem_cons_self
          rw [eqIsQuiet_byValue 8 rfl]
          refine wpAny_bind (wpAny_pure ?_)
          simp only [Bool.not_true, Bool.false_eq_true, if_false]
          exact wpAny_pure ⟨rfl, rfl, fun v hv => hr v (List.mem_cons_of_mem _ hv)⟩
        · rintro r s' ⟨rfl, rfl, _⟩
          exact wpAny_pure hq
    refine tell _ ?_
    rw [if_neg (by simp)]
    refine wpAny_bind ?_
    refine wpAny_forIn_list _ (fun rest b s' => s' = s ∧ b = (none, none)) _ ?_ ?_ _ _ ⟨rfl, rfl⟩
    · rintro x rest b s' ⟨rfl, rfl⟩
      cases hex : es[x]? with
      | none => exact wpAny_pure ⟨rfl, rfl⟩
      | some e =>
        dsimp only
        have he : e ∈ es := Array.mem_of_getElem? hex
        by_cases hh : (e.hash == hk) = true
        · rw [if_pos hh]
          refine wpAny_bind (wpAny_dictEpoch ho hd (wpAny_bind (eq e he prog w E _ (wpAny_bind (wpAny_dictEpoch ho hd ?_)))))
          show wpAny _ _ (if (ep != ep) = true then _ else _) _ E _
          rw [if_neg (by simp)]
          simp only [Bool.false_eq_true, if_false]
          refine wpAny_bind (wpAny_rule ?_)
          first | rw [if_neg (by simp)] | skip
          first
            | exact wpAny_pure ⟨rfl, rfl⟩
            | exact wpAny_bind (wpAny_pure (wpAny_pure ⟨rfl, rfl⟩))
        · rw [if_neg hh]
          exact wpAny_pure ⟨rfl, rfl⟩
    · rintro b s' ⟨rfl, rfl⟩
      exact wpAny_pure h
theorem wpAny_dictGet_other {d : Addr} {o : Obj} {es : Array DictEntry} {ep : Nat} {k : NestedKey} {key : Value} {Q : Option Value → Shared → Prop} (hkey : NestedIs s.heap k key) (hnt : k.notText = true) (hdp : k.depth ≤ 8) (hu : A.units + 8 < cLine)
    (ho : s.heap.get? d = some o) (hd : o.data = .dict es ep) (hs : ∀ e ∈ es, ∃ x t, e.key = .str x t) (h : Q none { s with toks := s.toks + k.draws }) :
    wpAny (model prog w) A (dictGet d key) Q E s := by
  unfold dictGet
  try with_reducible refine wpAny_holding ?_
  refine wpAny_bind (pyHash_key k key A s _ hkey (by omega) (wpAny_bind (wpAny_dictFind_other (s := { s with toks := s.toks + k.draws }) hkey hnt hdp hu ho hd hs ?_)))
  exact wpAny_pure h
theorem wpAny_in_other {d : Addr} {o : Obj} {es : Array DictEntry} {ep : Nat} {k : NestedKey} {key : Value} {Q : Value → Shared → Prop} (hkey : NestedIs s.heap k key) (hnt : k.notText = true) (hdp : k.depth ≤ 8) (hu : A.units + 32 < cLine) (hty : s.TypeIs (.ref d) "dict") (hlow : (d == sysModules) = false)
    (ho : s.heap.get? d = some o) (hd : o.data = .dict es ep) (hs : ∀ e ∈ es, ∃ x t, e.key = .str x t) (h : Q (.bool false) { s with toks := s.toks + k.draws }) :
    wpAny (model prog w) A (compareOp .In key (.ref d)) Q E s := by
  show wpAny _ _ (do return .bool (← contains (.ref d) key)) Q E s
  refine wpAny_bind ?_
  unfold contains
  try with_reducible refine wpAny_holding ?_
  refine wpAny_bind (wpAny_specialOf hty slot_dict_contains.lookup ?_)
  show wpAny _ _ (if (some (Value.builtin "dict.__contains__") == some Value.none) = true then _ else _) _ E s
  rw [if_neg (by rw [beq_builtin_none]; exact Bool.false_ne_true)]
  refine wpAny_bind (wpAny_callSpecialUnlessNone?_slot (name := Str.ofString "__contains__") hty slot_dict_contains
    (wpAny_call_entry slot_dict_contains hty entry_dict_contains ?_ (args_dict_contains _ _)))
  show wpAny _ _ (dictGet d key >>= _) _ _ s
  refine wpAny_bind (wpAny_dictGet_other hkey hnt hdp (by simp only [Around.in1_units]; omega) ho hd hs ?_)
  show wpAny _ _ (Builtin.Dict.pendingKey? d key >>= _) _ _ _
  exact wpAny_bind (wpAny_pendingKey_other hlow (wpAny_pure ⟨_, rfl, wpAny_truthy_bool (wpAny_pure h)⟩))
theorem wpAny_notIn_other {d : Addr} {o : Obj} {es : Array DictEntry} {ep : Nat} {k : NestedKey} {key : Value} {Q : Value → Shared → Prop} (hkey : NestedIs s.heap k key) (hnt : k.notText = true) (hdp : k.depth ≤ 8) (hu : A.units + 32 < cLine) (hty : s.TypeIs (.ref d) "dict") (hlow : (d == sysModules) = false)
    (ho : s.heap.get? d = some o) (hd : o.data = .dict es ep) (hs : ∀ e ∈ es, ∃ x t, e.key = .str x t) (h : Q (.bool true) { s with toks := s.toks + k.draws }) :
    wpAny (model prog w) A (compareOp .NotIn key (.ref d)) Q E s := by
  show wpAny _ _ (do return .bool (!(← contains (.ref d) key))) Q E s
  refine wpAny_bind ?_
  unfold contains
  try with_reducible refine wpAny_holding ?_
  refine wpAny_bind (wpAny_specialOf hty slot_dict_contains.lookup ?_)
  show wpAny _ _ (if (some (Value.builtin "dict.__contains__") == some Value.none) = true then _ else _) _ E s
  rw [if_neg (by rw [beq_builtin_none]; exact Bool.false_ne_true)]
  refine wpAny_bind (wpAny_callSpecialUnlessNone?_slot (name := Str.ofString "__contains__") hty slot_dict_contains
    (wpAny_call_entry slot_dict_contains hty entry_dict_contains ?_ (args_dict_contains _ _)))
  show wpAny _ _ (dictGet d key >>= _) _ _ s
  refine wpAny_bind (wpAny_dictGet_other hkey hnt hdp (by simp only [Around.in1_units]; omega) ho hd hs ?_)
  show wpAny _ _ (Builtin.Dict.pendingKey? d key >>= _) _ _ _
  exact wpAny_bind (wpAny_pendingKey_other hlow (wpAny_pure ⟨_, rfl, wpAny_truthy_bool (wpAny_pure h)⟩))
end
end PySem
namespace GD
open PySem PySem.Spec PyProof.Rows L2
def rInOther (K : PySem.W.Frag) (d : Addr) (b : Bool) : R2 := fun x y H Q => ∃ p k, Dp K H x p ∧ y = .ref d ∧ dataK p = some k ∧ k.notText = true ∧ k.depth ≤ 8 ∧ Q (.bl b) H
theorem kd_keys {w : World} {K : PySem.W.Frag} {d : Addr} {es : Array DictEntry} {n : Nat} (D : KDict K w d es n) : ∀ e ∈ es, ∃ x t, e.key = .str x t := fun e he => by
  obtain ⟨x, t, h, _⟩ := D.lit.all e (Array.mem_toList_iff.mpr he)
  exact ⟨x, t, h⟩
theorem op_in_other {X : Cx} {d : Addr} {es : Array DictEntry} {n : Nat} (D : KDict X.K X.w d es n) (hu : X.A.units + 65 < cLine) : OpR X (compareOp .In) (rInOther X.K d false) := by
  intro pins s σ H x y v u Q I rx ry h
  obtain ⟨p, k, hp, rfl, hk, hn, h8, q⟩ := h
  cases ry
  obtain ⟨as, r⟩ := Dp.reads I p x v hp rx
  exact wpAny_in_other (Reads.nested p v as k r hk) hn h8 (by omega) (kd_type D I) D.low (I.kIn _ _ D.at_) rfl (kd_keys D) ⟨.bl false, H, I.tok _, rfl, q⟩
theorem op_notIn_other {X : Cx} {d : Addr} {es : Array DictEntry} {n : Nat} (D : KDict X.K X.w d es n) (hu : X.A.units + 65 < cLine) : OpR X (compareOp .NotIn) (rInOther X.K d true) := by
  intro pins s σ H x y v u Q I rx ry h
  obtain ⟨p, k, hp, rfl, hk, hn, h8, q⟩ := h
  cases ry
  obtain ⟨as, r⟩ := Dp.reads I p x v hp rx
  exact wpAny_notIn_other (Reads.nested p v as k r hk) hn h8 (by omega) (kd_type D I) D.low (I.kIn _ _ D.at_) rfl (kd_keys D) ⟨.bl true, H, I.tok _, rfl, q⟩
end GD
/-! GDA: match over texts; dicts of the module; in. -/
namespace GD
open PySem PySem.Spec PyProof.Rows L2
/-! ### match -/
def pickT (x : Str) : List (List Str × TS) → TS
  | [] => fun D σ H => D.nx σ H
  | (ls, t) :: r => if x ∈ ls then t else pickT x r
/-- the pattern is one of these texts -/
inductive PatOf : Pattern → List Str → Prop
  | one {l : Str} {j : Nat} {p p' : Pos} : PatOf (.MatchValue (.Constant (.str l) j p) p') [l]
  | two {l k : Str} {j i : Nat} {p p' q q' pos : Pos} : PatOf (.MatchOr [.MatchValue (.Constant (.str l) j p) p', .MatchValue (.Constant (.str k) i q) q'] pos) [l, k]
inductive MtOk (X : Cx) : List MatchCase → List (List Str × TS) → Prop
  | nil : MtOk X [] []
  | cons {p : Pattern} {ls : List Str} {body : List Stmt} {t : TS} {cs : List MatchCase} {ts : List (List Str × TS)} (hp : PatOf p ls) (hb : PSs X body t) (r : MtOk X cs ts) : MtOk X (⟨p, none, body⟩ :: cs) ((ls, t) :: ts)
section
variable {X : Cx} {Wx : WX} {kk : Nat}
theorem pat_val {l x : Str} {j : Nat} {p p' : Pos} {tk : Tok} {pins : List (Addr × Obj)} {s : Shared} {σ : L2.St} {H : Hp} {Q : Option (List (Str × Value)) → Shared → Prop} (I : Inv X pins σ H s) (h : ∀ s', Inv X pins σ H s' → Q (if x = l then some [] else none) s') :
    wpAny (model X.prog X.w) X.A (matchPattern (.MatchValue (.Constant (.str l) j p) p') X.env (.str x tk)) Q X.xe s := by
  refine wpAny_matchPattern_Value (thn ((pe_str (X := X) (x := l) (j := j) (pos := p)).run pins s σ H (fun v H1 => v = .str l ∧ H1 = H) I ⟨rfl, rfl⟩) fun u s1 ⟨v, H1, I1, r1, e1, e2⟩ => ?_)
  subst e1 e2
  refine thn (op_eq (X := X) pins s1 σ _ (.str x) (.str l) (.str x tk) u (fun v H2 => v = .bl (decide (x = l)) ∧ H2 = H1) I1 ⟨tk, rfl⟩ r1 ⟨rfl, by simp, rfl⟩) fun c s2 ⟨v, H2, I2, r2, e3, e4⟩ => ?_
  subst e3 e4
  obtain rfl : c = Value.bool (decide (x = l)) := r2
  refine wpAny_truthy_bool ?_
  have z := h s2 I2
  by_cases e : x = l
  · rw [if_pos e] at z
    rw [decide_eq_true e, if_pos rfl]
    exact z
  · rw [if_neg e] at z
    rw [decide_eq_false e, if_neg (by decide)]
    exact z
theorem pat_ok {pt : Pattern} {ls : List Str} {x : Str} {tk : Tok} {pins : List (Addr × Obj)} {s : Shared} {σ : L2.St} {H : Hp} {Q : Option (List (Str × Value)) → Shared → Prop} (hp : PatOf pt ls) (I : Inv X pins σ H s) (h : ∀ s', Inv X pins σ H s' → Q (if x ∈ ls then some [] else none) s') :
    wpAny (model X.prog X.w) X.A (matchPattern pt X.env (.str x tk)) Q X.xe s := by
  cases hp with
  | one =>
    refine pat_val I fun s' I' => ?_
    have z := h s' I'
    simp only [List.mem_singleton] at z
    exact z
  | @two l k j i p p' q q' pos =>
    refine wpAny_matchPattern_Or (wpAny_matchFirst_cons (pat_val I fun s' I' => ?_))
    by_cases e : x = l
    · rw [if_pos e]
      have z := h s' I'
      rw [if_pos (by rw [e]; exact List.mem_cons_self)] at z
      exact z
    · rw [if_neg e]
      refine wpAny_matchFirst_cons (pat_val I' fun s2 I2 => ?_)
      have z := h s2 I2
      by_cases e2 : x = k
      · rw [if_pos e2]
        rw [if_pos (by rw [e2]; exact List.mem_cons_of_mem _ List.mem_cons_self)] at z
        exact z
      · rw [if_neg e2]
        rw [if_neg (by simp [e, e2])] at z
        exact wpAny_matchFirst_nil z
theorem cases_ok {x : Str} {tk : Tok} {pins : List (Addr × Obj)} {cs : List MatchCase} {ts : List (List Str × TS)} (h : MtOk X cs ts) : ∀ (s : Shared) (σ : L2.St) (H : Hp) (D : Ends) (first : Bool), Inv X pins σ H s → pickT x ts D σ H →
    wpAny (model X.prog X.w) X.A (matchCases cs X.env (.str x tk) first) (SP X pins D) X.xe s := by
  induction h with
  | nil => intro s σ H D first I q; exact wpAny_matchCases_nil ⟨σ, H, I, q⟩
  | @cons p ls body t cs ts hp hb r ih =>
    intro s σ H D first I q
    refine wpAny_matchCases_cons (pat_ok hp I fun s' I' => ?_)
    unfold pickT at q
    by_cases e : x ∈ ls
    · rw [if_pos e]
      rw [if_pos e] at q
      exact wpAny_assignInOrder_none (hb.run pins s' σ H D I' q)
    · rw [if_neg e]
      rw [if_neg e] at q
      exact ih s' σ H D false I' q
theorem ps_match {e : Expr} {cs : List MatchCase} {pos : Pos} {te : TE} {ts : List (List Str × TS)} (he : PE X e te) (h : MtOk X cs ts) : PS X (.Match e cs pos) (fun D σ H => te σ H fun v H1 => ∃ x, v = .str x ∧ pickT x ts D σ H1) := by
  refine ⟨fun pins s σ H D I q => wpAny_Match (thn (he.run pins s σ H _ I q) fun u s1 ⟨v, H1, I1, r1, x, ex, q1⟩ => ?_)⟩
  subst ex
  obtain ⟨tk, rfl⟩ := r1
  exact cases_ok h s1 σ H1 D true I1 q1
end
def pickX (x : Str) : List (List Str × Ex) → Ex
  | [] => sNext
  | (ls, f) :: r => if x ∈ ls then f else pickX x r
def sMatch (e : Ev) (cs : List (List Str × Ex)) : Ex := fun ρ m => (e ρ m).lift ρ fun w m => match w with
  | .d (.str x) => pickX x cs ρ m
  | _ => .bad
section
variable {X : Cx} {Wx : WX} {kk : Nat}
/-- the cases' mirrors -/
inductive MdOk (X : Cx) (Wx : WX) : List MatchCase → List (List Str × Ex) → Prop
  | nil : MdOk X Wx [] []
  | cons {p : Pattern} {ls : List Str} {body : List Stmt} {f : Ex} {cs : List MatchCase} {fs : List (List Str × Ex)} (hp : PatOf p ls) (hb : PSs X body (tDS X.K X.mg Wx f)) (r : MdOk X Wx cs fs) : MdOk X Wx (⟨p, none, body⟩ :: cs) ((ls, f) :: fs)
theorem MdOk.mt {cs : List MatchCase} {fs : List (List Str × Ex)} (h : MdOk X Wx cs fs) : MtOk X cs (fs.map fun p => (p.1, tDS X.K X.mg Wx p.2)) := by
  induction h with
  | nil => exact .nil
  | cons hp hb r ih => exact .cons hp hb ih
theorem pick_imp {x : Str} {D : Ends} {Hi : Hp} {ι : List Addr} {ρ : Env} {m : Mem} {σ : L2.St} {H : Hp} (RR : Rel X.K X.mg Hi ι ρ m σ H) : ∀ fs : List (List Str × Ex), GoodS X.K X.mg Wx D Hi ι H (pickX x fs ρ m) → pickT x (fs.map fun p => (p.1, tDS X.K X.mg Wx p.2)) D σ H
  | [], g => g _ _ _ _ Step.refl RR
  | (ls, f) :: fs, g => by
    rw [List.map_cons]
    unfold pickX at g
    unfold pickT
    by_cases e : x ∈ ls
    · rw [if_pos e] at g ⊢
      exact ⟨Hi, ι, ρ, m, RR, g⟩
    · rw [if_neg e] at g ⊢
      exact pick_imp RR fs g
theorem psd_match {e : Expr} {cs : List MatchCase} {pos : Pos} {f : Ev} {fs : List (List Str × Ex)} (he : PE X e (tD X.K X.mg Wx f)) (h : MdOk X Wx cs fs) : PS X (.Match e cs pos) (tDS X.K X.mg Wx (sMatch f fs)) :=
  PS.imp (ps_match he h.mt) fun D σ H t => by
    obtain ⟨Hi, ι, ρ, m, RR, gd⟩ := t
    refine ⟨Hi, ι, ρ, m, RR, goodS_lift RR gd fun x m1 Hi1 ι1 v H1 st M rv g1 => ?_⟩
    split at g1
    · cases rv
      exact ⟨_, rfl, pick_imp (RR.step st M) fs g1⟩
    · exact g1.elim
end
/-! ### dicts of the module: texts to texts -/
abbrev Dtab := List (Str × Str)
/-- the dict that the global x holds -/
structure DictTab (K : PySem.W.Frag) (mg : Str → Option Value) (w : World) (x : Str) (kvs : Dtab) : Prop where
  ex : ∃ (d : Addr) (es : Array DictEntry) (n : Nat), mg x = some (.ref d) ∧ KDict K w d es n ∧ ∀ z : Str, match kvs.lookup z with
    | some v => ∃ t, PySem.W.nsIn K d z = some (some (.str v t))
    | none => PySem.W.nsIn K d z = some none
/-- z in x -/
def oInT (neg : Bool) (x : Str) (kvs : Dtab) : O2 := fun a b m => match a, b with
  | .d (.str z), .d (.gl y) => if y = x then .ok (.d (.bl (if neg then !(kvs.lookup z).isSome else (kvs.lookup z).isSome))) m else .bad
  | .d d, .d (.gl y) => if y = x then (match d.py with
    | some p => (match dataK p with
      | some k => if k.notText = true ∧ k.depth ≤ 8 then .ok (.d (.bl neg)) m else .bad
      | none => .bad)
    | none => .bad) else .bad
  | _, _ => .bad
/-- x[z] -/
def oIxT (x : Str) (kvs : Dtab) : O2 := fun a b m => match a, b with
  | .d (.gl y), .d (.str z) => if y = x then (match kvs.lookup z with
    | some v => .ok (.d (.str v)) m
    | none => .bad) else .bad
  | _, _ => .bad
section
variable {X : Cx} {Wx : WX} {kk : Nat}
theorem gl_ref {K : PySem.W.Frag} {mg : Str → Option Value} {Hi : Hp} {v : V} {x : Str} {d : Addr} (r : Rep K mg Hi v (.gl x)) (h : mg x = some (.ref d)) : v = .ref d := by
  cases r with
  | gl h1 h2 =>
    rw [h] at h1
    cases h1
    cases v with
    | ref a => have h3 : Value.ref d = Value.ref a := h2; injection h3 with h3; rw [h3]
    | _ => first | (obtain ⟨_, h3⟩ := (show ∃ t, _ from h2); cases h3) | (have h3 := (show Value.ref d = _ from h2); cases h3)
theorem in_tab {x : Str} {kvs : Dtab} (hu : X.A.units + 65 < cLine) (T : DictTab X.K X.mg X.w x kvs) : ∃ r, OpR X (compareOp .In) r ∧ S2 X.K X.mg r (oInT false x kvs) := by
  obtain ⟨d, es, n, h1, h2, h3⟩ := T.ex
  refine ⟨_, OpR.or (op_in_kd h2) (op_in_other h2 hu), ?_⟩
  intro Wx σ Hi ι m H v u a b Q M rx ry g
  unfold oInT at g
  split at g
  · rename_i z y
    split at g
    · rename_i e
      subst e
      cases rx
      have e2 := gl_ref ry h1
      subst e2
      have hz := h3 z
      cases hl : kvs.lookup z with
      | some v =>
        rw [hl] at hz g
        obtain ⟨t, hz⟩ := hz
        exact .inl ⟨z, _, rfl, rfl, hz, g.here (rep := RepW X.K X.mg) M (.bl _)⟩
      | none =>
        rw [hl] at hz g
        exact .inl ⟨z, _, rfl, rfl, hz, g.here (rep := RepW X.K X.mg) M (.bl _)⟩
    · exact g.elim
  · rename_i dd y _
    split at g
    · rename_i e
      subst e
      split at g
      · rename_i p hp
        split at g
        · rename_i k hk
          split at g
          · rename_i hc
            have rx2 : Rep X.K X.mg Hi v dd := rx
            have e2 := gl_ref ry h1
            subst e2
            exact .inr ⟨p, k, (rx2.mono M.sub).dp hp, rfl, hk, hc.1, hc.2, g.here (rep := RepW X.K X.mg) M (.bl _)⟩
          · exact g.elim
        · exact g.elim
      · exact g.elim
    · exact g.elim
  · exact g.elim
theorem nin_tab {x : Str} {kvs : Dtab} (hu : X.A.units + 65 < cLine) (T : DictTab X.K X.mg X.w x kvs) : ∃ r, OpR X (compareOp .NotIn) r ∧ S2 X.K X.mg r (oInT true x kvs) := by
  obtain ⟨d, es, n, h1, h2, h3⟩ := T.ex
  refine ⟨_, OpR.or (op_notIn_kd h2) (op_notIn_other h2 hu), ?_⟩
  intro Wx σ Hi ι m H v u a b Q M rx ry g
  unfold oInT at g
  split at g
  · rename_i z y
    split at g
    · rename_i e
      subst e
      cases rx
      have e2 := gl_ref ry h1
      subst e2
      have hz := h3 z
      cases hl : kvs.lookup z with
      | some v =>
        rw [hl] at hz g
        obtain ⟨t, hz⟩ := hz
        exact .inl ⟨z, _, rfl, rfl, hz, g.here (rep := RepW X.K X.mg) M (.bl _)⟩
      | none =>
        rw [hl] at hz g
        exact .inl ⟨z, _, rfl, rfl, hz, g.here (rep := RepW X.K X.mg) M (.bl _)⟩
    · exact g.elim
  · rename_i dd y _
    split at g
    · rename_i e
      subst e
      split at g
      · rename_i p hp
        split at g
        · rename_i k hk
          split at g
          · rename_i hc
            have rx2 : Rep X.K X.mg Hi v dd := rx
            have e2 := gl_ref ry h1
            subst e2
            exact .inr ⟨p, k, (rx2.mono M.sub).dp hp, rfl, hk, hc.1, hc.2, g.here (rep := RepW X.K X.mg) M (.bl _)⟩
          · exact g.elim
        · exact g.elim
      · exact g.elim
    · exact g.elim
  · exact g.elim
theorem pd_inT {x : Str} {kvs : Dtab} {a b : Expr} {pos : Pos} {fa fb : Ev} (hu : X.A.units + 65 < cLine) (T : DictTab X.K X.mg X.w x kvs) (ha : PE X a (tD X.K X.mg Wx fa)) (hb : PE X b (tD X.K X.mg Wx fb)) (hm : behindInMarks .In b = false) : PE X (.Compare a [.In] [b] pos) (tD X.K X.mg Wx (fOp (oInT false x kvs) fa fb)) := by
  obtain ⟨r, h1, h2⟩ := in_tab hu T
  exact pd_cmp h1 h2 ha hb hm
theorem ptd_ninT {x : Str} {kvs : Dtab} {a b : Expr} {pos : Pos} {fa fb : Ev} (hu : X.A.units + 65 < cLine) (T : DictTab X.K X.mg X.w x kvs) (ha : PE X a (tD X.K X.mg Wx fa)) (hb : PE X b (tD X.K X.mg Wx fb)) (hm : behindInMarks .NotIn b = false) : PT X (.Compare a [.NotIn] [b] pos) (tDT X.K X.mg Wx (gBool (fOp (oInT true x kvs) fa fb))) := by
  obtain ⟨r, h1, h2⟩ := nin_tab hu T
  exact ptd_cmp h1 h2 ha hb hm
theorem pd_ixT {x : Str} {kvs : Dtab} {a b : Expr} {pos : Pos} {fa fb : Ev} (T : DictTab X.K X.mg X.w x kvs) (ha : PE X a (tD X.K X.mg Wx fa)) (hb : PE X b (tD X.K X.mg Wx fb)) (hs : PlainIx b) : PE X (.Subscript a b pos) (tD X.K X.mg Wx (fOp (oIxT x kvs) fa fb)) :=
  PE.imp (pe_ix ix_kdict ha hb hs) fun σ H Q t => by
    obtain ⟨Hi, ι, ρ, m, R, g⟩ := t
    refine ⟨Hi, ι, ρ, m, R, good_bind g fun x1 m1 Hi1 ι1 v H1 st M rv g1 => ⟨Hi1, ι1, ρ, m1, R.step st M, good_bind g1 fun y m2 Hi2 ι2 u H2 st2 M2 ru g2 => ?_⟩⟩
    have rv2 := rv.step st2
    obtain ⟨d, es, n, h1, h2, h3⟩ := T.ex
    unfold oIxT at g2
    split at g2
    · rename_i y z
      split at g2
      · rename_i e
        subst e
        cases ru
        have e2 := gl_ref rv2 h1
        subst e2
        have hz := h3 z
        split at g2
        · rename_i v hl
          rw [hl] at hz
          obtain ⟨t, hz⟩ := hz
          exact ⟨d, z, .str v, rfl, rfl, ⟨es, n, _, h2.at_, h2.lit, hz, ⟨t, rfl⟩⟩, g2.here (rep := RepW X.K X.mg) M2 (.str _)⟩
        · exact g2.elim
      · exact g2.elim
    · exact g2.elim
theorem pd_gl {x : Str} {pos : Pos} {kvs : Dtab} (T : DictTab X.K X.mg X.w x kvs) (hg : Gl X x) (hdb : (x == ("__debug__" : Str)) = false := by decide) : PE X (.Name x pos) (tD X.K X.mg Wx (fC (.gl x))) := by
  obtain ⟨d, es, n, h1, h2, h3⟩ := T.ex
  exact pd_c (v := .ref d) (pe_glob hg h1 rfl hdb) fun _ => .gl h1 rfl
end
/-- the table of a written dict -/
theorem tab_mk {K : PySem.W.Frag} {mg : Str → Option Value} {w : World} {x : Str} {d : Addr} {n : Nat} {l : List DictEntry} {kvs : Dtab} (hm : mg x = some (.ref d)) (hl : K.lookup d = some ⟨.type "dict", none, .dict l.toArray n, #[]⟩) (hs : (d == sysModules) = false)
    (he : l.length = kvs.length) (h : ∀ (i : Nat) (e : DictEntry) (kv : Str × Str), l[i]? = some e → kvs[i]? = some kv → (∃ t, e.key = .str kv.1 t) ∧ e.hash = PyData.keyHash w.params kv.1 ∧ ∃ t, e.val = .str kv.2 t) : DictTab K mg w x kvs := by
  have lit : ∀ (l : List DictEntry) (kvs : Dtab), l.length = kvs.length → (∀ (i : Nat) (e : DictEntry) (kv : Str × Str), l[i]? = some e → kvs[i]? = some kv → (∃ t, e.key = .str kv.1 t) ∧ e.hash = PyData.keyHash w.params kv.1 ∧ ∃ t, e.val = .str kv.2 t) →
      PySem.W.KeysLit w.params l ∧ l.any (·.refKey) = false ∧ ∀ z : Str, match kvs.lookup z with
        | some v => ∃ e t, l.find? (·.key.isStr z) = some e ∧ e.val = .str v t
        | none => l.find? (·.key.isStr z) = none := by
    intro l
    induction l with
    | nil =>
      intro kvs he h
      cases kvs with
      | nil => exact ⟨trivial, rfl, fun z => rfl⟩
      | cons a b => cases he
    | cons e l ih =>
      intro kvs he h
      cases kvs with
      | nil => cases he
      | cons kv kvs =>
        obtain ⟨⟨t1, h1⟩, h2, t2, h3⟩ := h 0 e kv rfl rfl
        obtain ⟨i1, i2, i3⟩ := ih kvs (by simpa using he) fun i e' kv' a b => h (i + 1) e' kv' (by simpa using a) (by simpa using b)
        refine ⟨⟨⟨kv.1, t1, h1, h2⟩, i1⟩, ?_, fun z => ?_⟩
        · rw [List.any_cons, i2, Bool.or_false]
          unfold DictEntry.refKey
          rw [h1]
        · obtain ⟨k, v⟩ := kv
          have hk : e.key.isStr z = decide (z = k) := by
            rw [h1]
            show (k == z) = _
            by_cases e2 : z = k
            · rw [e2]; simp
            · rw [decide_eq_false e2]; simp; exact fun q => e2 q.symm
          by_cases e2 : z = k
          · subst e2
            have hlk : List.lookup z ((z, v) :: kvs) = some v := by simp [List.lookup]
            rw [hlk]
            exact ⟨e, t2, by rw [List.find?_cons, hk, decide_eq_true rfl], h3⟩
          · have hlk : List.lookup z ((k, v) :: kvs) = List.lookup z kvs := by
              have : (z == k) = false := by simpa using e2
              simp [List.lookup, this]
            rw [hlk, List.find?_cons, hk, decide_eq_false e2]
            exact i3 z
  obtain ⟨i1, i2, i3⟩ := lit l kvs he h
  refine ⟨d, l.toArray, n, hm, ⟨hl, i1, hs⟩, fun z => ?_⟩
  have hz := i3 z
  cases e : kvs.lookup z with
  | some v =>
    rw [e] at hz
    obtain ⟨en, t, h1, h2⟩ := hz
    refine ⟨t, ?_⟩
    unfold PySem.W.nsIn
    rw [hl]
    dsimp only
    rw [h1, ← h2]
  | none =>
    rw [e] at hz
    show PySem.W.nsIn K d z = some none
    unfold PySem.W.nsIn
    rw [hl]
    dsimp only
    rw [hz]
    dsimp only
    rw [if_neg (by rw [i2]; decide)]
end GD
/-! GDB: zip of lists, tuples and texts; in; index. -/
namespace GD
open PySem PySem.Spec PyProof.Rows L2
/-- what is walked: a list, a tuple, a text -/
inductive ZS where
  | l (a : Addr) | t (a : Addr) | s (x : Str)
def signs (x : Str) : List V := x.cps.toList.map fun c => V.str ⟨#[c]⟩
def ZHas (K : PySem.W.Frag) (H : Hp) : ZS → List V → Prop
  | .l a, xs => SqL K H a xs
  | .t a, xs => SqT K H a xs
  | .s x, xs => xs = signs x
def ZV : ZS → V
  | .l a => .ref a
  | .t a => .ref a
  | .s x => .str x
/-- its iterator at it, tk: the text's token -/
def ZIt (tk : Tok) : ZS → Addr → Nat → Heap → Prop
  | .l a, it, i, h => h.IsListIter it a i
  | .t a, it, i, h => h.IsTupleIter it a i
  | .s x, it, i, h => h.IsStrIter it (strIterType x) x tk i
def ZAp (b : Addr) : ZS → Prop
  | .l a => a ≠ b
  | .t a => a ≠ b
  | .s _ => True
theorem ZIt.obj {tk : Tok} {S : ZS} {it : Addr} {i : Nat} {h : Heap} (z : ZIt tk S it i h) : ∃ o, h.get? it = some o ∧ ∀ v, o.data ≠ .cell v := by
  cases S with
  | l a => obtain ⟨o, e, _, d⟩ := z; exact ⟨o, e, fun v q => by rw [d] at q; cases q⟩
  | t a => obtain ⟨o, e, _, d⟩ := z; exact ⟨o, e, fun v q => by rw [d] at q; cases q⟩
  | s a => obtain ⟨o, e, _, d⟩ := z; exact ⟨o, e, fun v q => by rw [d] at q; cases q⟩
theorem ZIt.at {tk : Tok} {S : ZS} {it : Addr} {i : Nat} {h h' : Heap} (z : ZIt tk S it i h) (k : ∀ o, h.get? it = some o → h'.get? it = some o) : ZIt tk S it i h' := by
  cases S with
  | l a => obtain ⟨o, e, r⟩ := z; exact ⟨o, k o e, r⟩
  | t a => obtain ⟨o, e, r⟩ := z; exact ⟨o, k o e, r⟩
  | s a => obtain ⟨o, e, r⟩ := z; exact ⟨o, k o e, r⟩
section
variable {X : Cx} {pins : List (Addr × Obj)} {σ : L2.St} {H : Hp} {s : Shared}
/-- the iterator draws the items -/
theorem z_draws {S : ZS} {xs : List V} {tk : Tok} {it : Addr} {i : Nat} (I : Inv X pins σ H s) (hc : X.calm = true) (hx : ZHas X.K H S xs) (hi : ZIt tk S it i s.heap) (ap : ZAp it S) :
    ∃ (fp : List Addr) (P : Nat → Value → Prop) (St : Nat → Heap → Prop), Draws X.prog X.w X.A.in1 it fp xs.length P St ∧ St i s.heap ∧ it ∈ fp ∧ (∀ b, b ≠ it → ZAp b S → b ∉ fp) ∧ (∀ j v, P j v → ∃ x, xs[j]? = some x ∧ RelV x v) ∧ ∀ j h, St j h → ZIt tk S it j h := by
  have hh : X.A.in1.handled = none := I.ok.hd hc
  cases S with
  | l a =>
    obtain ⟨its, rv, p, _⟩ := I.list hx
    have D := Draws.list (prog := X.prog) (w := X.w) (A := X.A.in1) hh it a ap its.toArray
    have el : its.toArray.size = xs.length := by rw [List.size_toArray]; exact rv.length.symm
    rw [el] at D
    refine ⟨_, _, _, D, ⟨hi, p.isList⟩, by simp, fun b h1 h2 h3 => ?_, fun j v hv => ?_, fun j h st => st.1⟩
    · have h3' : b = it ∨ b = a := by simpa using h3
      rcases h3' with q | q
      · exact h1 q
      · exact h2 q.symm
    · have hv' : its[j]? = some v := by simpa using hv
      cases e : xs[j]? with
      | some x => obtain ⟨u, e2, r⟩ := rv.get e; rw [hv'] at e2; cases e2; exact ⟨x, rfl, r⟩
      | none => rw [rv.none_of e] at hv'; cases hv'
  | t a =>
    obtain ⟨its, rv, p, _⟩ := I.tuple hx
    have D := Draws.tuple (prog := X.prog) (w := X.w) (A := X.A.in1) hh it a ap its.toArray
    have el : its.toArray.size = xs.length := by rw [List.size_toArray]; exact rv.length.symm
    rw [el] at D
    refine ⟨_, _, _, D, ⟨hi, p⟩, by simp, fun b h1 h2 h3 => ?_, fun j v hv => ?_, fun j h st => st.1⟩
    · have h3' : b = it ∨ b = a := by simpa using h3
      rcases h3' with q | q
      · exact h1 q
      · exact h2 q.symm
    · have hv' : its[j]? = some v := by simpa using hv
      cases e : xs[j]? with
      | some x => obtain ⟨u, e2, r⟩ := rv.get e; rw [hv'] at e2; cases e2; exact ⟨x, rfl, r⟩
      | none => rw [rv.none_of e] at hv'; cases hv'
  | s x =>
    have D := Draws.text (prog := X.prog) (w := X.w) (A := X.A.in1) hh it x tk
    have hx' : xs = signs x := hx
    have el : x.cps.size = xs.length := by rw [hx']; unfold signs; simp
    rw [el] at D
    refine ⟨_, _, _, D, hi, by simp, fun b h1 _ h3 => h1 (by simpa using h3), fun j v hv => ?_, fun j h st => st⟩
    obtain ⟨c, u, e1, rfl⟩ := hv
    refine ⟨.str ⟨#[c]⟩, ?_, ⟨u, rfl⟩⟩
    rw [hx']
    unfold signs
    rw [List.getElem?_map, Array.getElem?_toList, e1]
    rfl
end
/-- pairs of the items of both -/
def ItZ (K : PySem.W.Frag) (S1 S2 : ZS) (xs ys : List V) : It :=
  ⟨fun i H => ZHas K H S1 xs ∧ ZHas K H S2 ys ∧ i < xs.length ∧ i < ys.length,
    fun i H v H' => ∃ T x y, v = .ref T ∧ H T = none ∧ H' = upd H T (.tup [x, y]) ∧ xs[i]? = some x ∧ ys[i]? = some y,
    fun i H => ZHas K H S1 xs ∧ ZHas K H S2 ys ∧ (xs.length ≤ i ∨ ys.length ≤ i)⟩
theorem turn_Z {P : Program} {w : World} {K : PySem.W.Frag} {elts : List Expr} {kk : Nat} {tpos : Pos} {z TI TO i1 i2 : Addr} {S1 S2 : ZS} {xs ys : List V} {t1 t2 : Tok} (h1 : TI ≠ z) (h2 : TO ≠ z) (h3 : TI ≠ TO) (h4 : TI ≠ i1) (h5 : TI ≠ i2) (h6 : z ≠ i1) (h7 : z ≠ i2) (h8 : TO ≠ i1) (h9 : TO ≠ i2) (h10 : i1 ≠ i2)
    (a1 : ∀ b ∈ [z, TO, i1, i2], ZAp b S1) (a2 : ∀ b ∈ [z, TO, i1, i2], ZAp b S2) :
    Turn P w K (.Tuple elts kk tpos) (ItZ K S1 S2 xs ys) [z, TI, TO, i1, i2] z (fun i h => (i ≤ xs.length ∧ i ≤ ys.length) ∧ IsZip h z TI TO .none ∧ IsTupOf2 h TI (.ref i1) (.ref i2) ∧ (∃ x y, IsTupOf2 h TO x y) ∧ ZIt t1 S1 i1 i h ∧ ZIt t2 S2 i2 i h) where
  mem := by simp
  obj := fun i h st c hc => by
    obtain ⟨_, hz, hTI, ⟨x, y, hTO⟩, s1, s2⟩ := st
    have e' : c = z ∨ c = TI ∨ c = TO ∨ c = i1 ∨ c = i2 := by simpa using hc
    rcases e' with q | q | q | q | q
    · rw [q]; exact ⟨_, hz, fun v q => nomatch q⟩
    · rw [q]; exact ⟨_, hTI, fun v q => nomatch q⟩
    · rw [q]; exact ⟨_, hTO, fun v q => nomatch q⟩
    · rw [q]; exact s1.obj
    · rw [q]; exact s2.obj
  keep := fun i h h' st k => by
    obtain ⟨hl, hz, hTI, ⟨x, y, hTO⟩, s1, s2⟩ := st
    exact ⟨hl, k z (by simp) _ hz, k TI (by simp) _ hTI, ⟨x, y, k TO (by simp) _ hTO⟩, s1.at fun o q => k i1 (by simp) o q, s2.at fun o q => k i2 (by simp) o q⟩
  item := by
    intro X hP hw hK hc i pins s σ H E I hf st hg
    subst hP hw hK
    obtain ⟨hl, hz, hTI, ⟨x0, y0, hTO⟩, s1, s2⟩ := st
    obtain ⟨hx, hy, l1, l2⟩ := hg
    obtain ⟨fp1, P1, St1, D1, d1, m1, n1, v1, z1⟩ := z_draws I hc hx s1 (a1 i1 (by simp))
    obtain ⟨fp2, P2, St2, D2, d2, m2, n2, v2, z2⟩ := z_draws I hc hy s2 (a2 i2 (by simp))
    have S : ZipSep2 z TI TO i1 i2 fp1 fp2 := ⟨h1, h2, h3, h4, m1, n1 z h6 (a1 z (by simp)), n1 TO h8 (a1 TO (by simp)), h5, m2, n2 z h7 (a2 z (by simp)), n2 TO h9 (a2 TO (by simp)), n2 i1 h10 (a2 i1 (by simp)), n1 i2 h10.symm (a1 i2 (by simp))⟩
    have hzl : z < s.heap.objs.size := Heap.lt_size hz
    refine wpAny_pyNext_zipD2_item S D1 D2 hz hTI hTO d1 d2 l1 l2 fun u1 u2 h' tk p1 p2 z' TO' st1' st2' hT hsz hk => ?_
    obtain ⟨x, ex, rx⟩ := v1 i u1 p1
    obtain ⟨y, ey, ry⟩ := v2 i u2 p2
    refine ⟨_, rfl, wpAny_letOwnedTupleGo_zip (s := { s with heap := h', toks := tk }) z' fun h'' z'' sb => ?_⟩
    have hT2 : h''.get? s.heap.objs.size = some { cls := .type "tuple", data := .seq #[u1, u2] } := (sb.2 _ (Nat.ne_of_gt hzl)).trans hT
    have new : ObjOk X.prog X.w (upd H s.heap.objs.size (.tup [x, y])) h'' s.heap.objs.size (.tup [x, y]) :=
      ⟨by show 2 ≤ sizeLine; decide, [u1, u2], .cons rx (.cons ry .nil), ⟨_, hT2, rfl, _, rfl⟩⟩
    have I1 : Inv X pins σ (upd H s.heap.objs.size (.tup [x, y])) { s with heap := h'', toks := tk } :=
      I.turnedNew (t' := tk) (ch := [z, TI, TO, i1, i2]) (fun c o hb q => (sb.2 c (fun q' => hb (by simp [q']))).trans (hk c o (fun q' => hb (by simp [q'])) (fun q' => hb (by simp [q'])) (fun q' => hb (by simp [q'])) (fun q' => hb (by simp [q'])) q)) hf (Nat.le_refl _) new
    refine ⟨.ref s.heap.objs.size, _, I1, rfl, ⟨_, x, y, rfl, I.hok.fresh (Nat.le_refl _), rfl, ex, ey⟩, ⟨⟨l1, l2⟩, z'', ?_, ⟨u1, u2, ?_⟩, ?_, ?_⟩, fun c hcm => ?_⟩
    · exact (sb.2 _ h1).trans (hk _ _ h1 h3 h4 h5 hTI)
    · exact (sb.2 _ h2).trans TO'
    · exact (z1 _ _ st1').at fun o q => (sb.2 _ h6.symm).trans q
    · exact (z2 _ _ st2').at fun o q => (sb.2 _ h7.symm).trans q
    · have hlt : c < s.heap.objs.size := by
        have e' : c = z ∨ c = TI ∨ c = TO ∨ c = i1 ∨ c = i2 := by simpa using hcm
        rcases e' with q | q | q | q | q
        · rw [q]; exact hzl
        · rw [q]; exact Heap.lt_size hTI
        · rw [q]; exact Heap.lt_size hTO
        · rw [q]; obtain ⟨_, e1, _⟩ := s1.obj; exact Heap.lt_size e1
        · rw [q]; obtain ⟨_, e2, _⟩ := s2.obj; exact Heap.lt_size e2
      rw [upd_ne (Nat.ne_of_lt hlt)]
      exact (hf c hcm).1
  done := by
    intro X hP hw hK hc i pins s σ H E I hf st hg
    subst hP hw hK
    obtain ⟨hl, hz, hTI, ⟨x0, y0, hTO⟩, s1, s2⟩ := st
    obtain ⟨hx, hy, hend⟩ := hg
    obtain ⟨fp1, P1, St1, D1, d1, m1, n1, v1, z1⟩ := z_draws I hc hx s1 (a1 i1 (by simp))
    obtain ⟨fp2, P2, St2, D2, d2, m2, n2, v2, z2⟩ := z_draws I hc hy s2 (a2 i2 (by simp))
    have S : ZipSep2 z TI TO i1 i2 fp1 fp2 := ⟨h1, h2, h3, h4, m1, n1 z h6 (a1 z (by simp)), n1 TO h8 (a1 TO (by simp)), h5, m2, n2 z h7 (a2 z (by simp)), n2 TO h9 (a2 TO (by simp)), n2 i1 h10 (a2 i1 (by simp)), n1 i2 h10.symm (a1 i2 (by simp))⟩
    exact wpAny_pyNext_zipD2_end S D1 D2 hz hTI hTO d1 d2 hl.1 hl.2 (by omega) fun h' tk hk => ⟨rfl, I.turnedL (t' := tk) (ch := [z, TI, TO, i1, i2]) (fun c o hb q =>
      hk c o (fun q' => hb (by simp [q'])) (fun q' => hb (by simp [q'])) (fun q' => hb (by simp [q'])) (fun q' => hb (by simp [q'])) q) hf⟩
  self := fun A i s Q E st h => wpAny_pyIter_zip st.2.1 h
section
variable {X : Cx} {pins : List (Addr × Obj)} {σ : L2.St} {H : Hp} {s : Shared}
theorem z_begins {S : ZS} {xs : List V} {u : Value} (I : Inv X pins σ H s) (hx : ZHas X.K H S xs) (r : RelV (ZV S) u) : ∃ (o : Obj) (B : Heap → Prop) (tk : Tok), Begins u o B ∧ B s.heap ∧ (∀ (h : Heap) (it : Addr), h.get? it = some o → ZIt tk S it 0 h) ∧ ∀ b, s.heap.objs.size ≤ b → ZAp b S := by
  cases S with
  | l a =>
    obtain ⟨its, rv, p, _⟩ := I.list hx
    cases r
    exact ⟨_, _, 0, begins_list a its.toArray, p.isList, fun h it e => ⟨_, e, rfl, rfl⟩, fun b hb => Nat.ne_of_lt (Nat.lt_of_lt_of_le p.lt hb)⟩
  | t a =>
    obtain ⟨its, rv, p, _⟩ := I.tuple hx
    cases r
    obtain ⟨o, ho, _⟩ := id p
    exact ⟨_, _, 0, begins_tuple a its.toArray, p, fun h it e => ⟨_, e, rfl, rfl⟩, fun b hb => Nat.ne_of_lt (Nat.lt_of_lt_of_le (Heap.lt_size ho) hb)⟩
  | s x =>
    obtain ⟨t, rfl⟩ := r
    exact ⟨_, _, t, begins_text x t, trivial, fun h it e => ⟨_, e, rfl, rfl⟩, fun b hb => trivial⟩
end
def iZipZ (K : PySem.W.Frag) (ta : TA) : TI := fun σ H R => ta σ H fun vs H1 => ∃ S1 S2 xs ys, vs = [ZV S1, ZV S2] ∧ ZHas K H1 S1 xs ∧ ZHas K H1 S2 ys ∧ R (ItZ K S1 S2 xs ys) H1
theorem pi_zipZ {X : Cx} {e e2 : Expr} {ta : TA} {p pos tpos : Pos} {elts : List Expr} {kk : Nat} (hg : Gl X "zip") (hm : X.mg "zip" = none) (ha : PA X [e, e2] ta)
    (hs : starEach [e, e2] X.env = (false, eval e X.env) :: starEach [e2] X.env := by rfl) (hpl : (backTo pos (starEach [e2] X.env)).any (·.1) = false := by rfl) :
    PI X (.Tuple elts kk tpos) (.Call (.Name "zip" p) [e, e2] [] pos) (iZipZ X.K ta) := by
  refine ⟨fun pins s σ H R I h => ?_⟩
  refine Call_ (ld_blt I hg hm PyProof.Rows.boot_zip (PyProof.Rows.callWith_type1 (thn (ha.run pos pins s σ H _ I h) fun us s1 ⟨vs, H1, I1, r1, q1⟩ => ?_) hs hpl))
  obtain ⟨S1, S2, xs, ys, ex, hqx, hqy, q⟩ := q1
  subst ex
  cases r1 with
  | cons r rr =>
    cases rr with
    | cons r' rr =>
      cases rr
      obtain ⟨o1, B1, t1, b1, c1, d1, e1⟩ := z_begins I1 hqx r
      obtain ⟨o2, B2, t2, b2, c2, d2, e2⟩ := z_begins I1 hqy r'
      refine zip_begins2 b1 b2 c1 c2 fun h' hz hTI hTO h1 h2 hsz hk => wpAny_pyIter_zip hz ?_
      have I2 : Inv X pins σ H1 { s1 with heap := h' } := I1.kept (t' := s1.toks) hk
      have ap : ∀ b ∈ [s1.heap.objs.size + 4, s1.heap.objs.size + 3, s1.heap.objs.size, s1.heap.objs.size + 1], s1.heap.objs.size ≤ b := fun b hb => by
        have e' : b = s1.heap.objs.size + 4 ∨ b = s1.heap.objs.size + 3 ∨ b = s1.heap.objs.size ∨ b = s1.heap.objs.size + 1 := by simpa using hb
        rcases e' with z | z | z | z
        · rw [z]; exact Nat.le_add_right _ _
        · rw [z]; exact Nat.le_add_right _ _
        · rw [z]; exact Nat.le_refl _
        · rw [z]; exact Nat.le_add_right _ _
      have ne : ∀ i j : Nat, i ≠ j → s1.heap.objs.size + i ≠ s1.heap.objs.size + j := fun i j hij q => hij (Nat.add_left_cancel q)
      refine ⟨s1.heap.objs.size + 4, [s1.heap.objs.size + 4, s1.heap.objs.size + 2, s1.heap.objs.size + 3, s1.heap.objs.size, s1.heap.objs.size + 1], _, _, H1, rfl, I2, turn_Z (S1 := S1) (S2 := S2) (xs := xs) (ys := ys) (t1 := t1) (t2 := t2) (ne 2 4 (by decide)) (ne 3 4 (by decide)) (ne 2 3 (by decide)) (ne 2 0 (by decide)) (ne 2 1 (by decide)) (ne 4 0 (by decide)) (ne 4 1 (by decide)) (ne 3 0 (by decide)) (ne 3 1 (by decide)) (ne 0 1 (by decide)) (fun b hb => e1 b (ap b hb)) (fun b hb => e2 b (ap b hb)), ⟨⟨Nat.zero_le _, Nat.zero_le _⟩, hz, hTI, ⟨_, _, hTO⟩, d1 _ _ h1, d2 _ _ h2⟩, fun c hcm => ?_, q⟩
      have e' : c = s1.heap.objs.size + 4 ∨ c = s1.heap.objs.size + 2 ∨ c = s1.heap.objs.size + 3 ∨ c = s1.heap.objs.size ∨ c = s1.heap.objs.size + 1 := by simpa using hcm
      have hle : s1.heap.objs.size ≤ c := by
        rcases e' with z | z | z | z | z
        · rw [z]; exact Nat.le_add_right _ _
        · rw [z]; exact Nat.le_add_right _ _
        · rw [z]; exact Nat.le_add_right _ _
        · rw [z]; exact Nat.le_refl _
        · rw [z]; exact Nat.le_add_right _ _
      exact I1.fpOk hle (I1.hok.fresh hle)
/-! the mirror -/
def signsD (x : Str) : List D := x.cps.toList.map fun c => D.str ⟨#[c]⟩
/-- the items of data -/
def itemsD : D → Option (List D)
  | .lst xs => some xs
  | .tup xs => some xs
  | .fls xs => some xs
  | .str x => some (signsD x)
  | _ => none
def iZipA (a : EvL) : EvL := fun ρ m => (a ρ m).bind fun ws m => match ws with
  | [.d x, .d y] => match itemsD x, itemsD y with
    | some xs, some ys => .ok (zipD xs ys) m
    | _, _ => .bad
  | _ => .bad
theorem signs_rep {K : PySem.W.Frag} {mg : Str → Option Value} {H : Hp} (x : Str) : RepL K mg H (signs x) (signsD x) := by
  unfold signs signsD
  induction x.cps.toList with
  | nil => exact .nil
  | cons c l ih => exact .cons (.str _) ih
theorem items_rep {K : PySem.W.Frag} {mg : Str → Option Value} {Hi : Hp} {v : V} {x : D} {xs : List D} (h : itemsD x = some xs) (r : Rep K mg Hi v x) : ∃ S vs, v = ZV S ∧ (∀ H', Same Hi H' → ZHas K H' S vs) ∧ RepL K mg Hi vs xs := by
  cases r with
  | lst s r => cases h; exact ⟨.l _, _, rfl, fun H' sm => .inl (.inl (sm _ _ s)), r⟩
  | tup s r => cases h; exact ⟨.t _, _, rfl, fun H' sm => sqT_mono sm s, r⟩
  | fls s r => cases h; exact ⟨.l _, _, rfl, fun H' sm => sqL_mono sm s, r⟩
  | str x => cases h; exact ⟨.s x, _, rfl, fun H' sm => rfl, signs_rep x⟩
  | _ => cases h
theorem itOk_Z {K : PySem.W.Frag} {mg : Str → Option Value} {Hi : Hp} {ι : List Addr} {S1 S2 : ZS} {vs us : List V} {xs ys : List D} (s1 : ∀ H', Same Hi H' → ZHas K H' S1 vs) (r1 : RepL K mg Hi vs xs) (s2 : ∀ H', Same Hi H' → ZHas K H' S2 us) (r2 : RepL K mg Hi us ys) : ItOk K mg Hi ι (ItZ K S1 S2 vs us) (zipD xs ys) where
  go := fun i Hi1 ι1 m1 H1 sm _ M hi => by
    rw [zipD_len] at hi
    exact ⟨s1 _ (sm.trans M.sub), s2 _ (sm.trans M.sub), by rw [r1.length]; omega, by rw [r2.length]; omega⟩
  stop := fun i Hi1 ι1 m1 H1 sm _ M hi => by
    rw [zipD_len] at hi
    exact ⟨s1 _ (sm.trans M.sub), s2 _ (sm.trans M.sub), by rw [r1.length, r2.length]; omega⟩
  yld := fun i w Hi1 ι1 m1 H1 x H2 sm pr M hw hy => by
    obtain ⟨T, p, q, rfl, hT, rfl, z1, z2⟩ := hy
    obtain ⟨d, e, e1, e2, rfl⟩ := zipD_get hw
    obtain ⟨v, q1, q2⟩ := r1.get e1
    obtain ⟨u, q3, q4⟩ := r2.get e2
    rw [z1] at q1
    rw [z2] at q3
    cases q1
    cases q3
    exact M.pair hT (q2.mono sm) (q4.mono sm)
section
variable {X : Cx} {Wx : WX} {kk : Nat}
theorem pid_zipA {e e2 : Expr} {p pos tpos : Pos} {elts : List Expr} {k1 : Nat} {f : EvL} (hg : Gl X "zip") (hm : X.mg "zip" = none) (ha : PA X [e, e2] (tDA X.K X.mg Wx f))
    (hs : starEach [e, e2] X.env = (false, eval e X.env) :: starEach [e2] X.env := by rfl) (hpl : (backTo pos (starEach [e2] X.env)).any (·.1) = false := by rfl) :
    PI X (.Tuple elts k1 tpos) (.Call (.Name "zip" p) [e, e2] [] pos) (tDI X.K X.mg Wx (iZipA f)) := PI.imp (pi_zipZ hg hm ha hs hpl) fun σ H Q t => by
  obtain ⟨Hi, ι, ρ, m, RR, gd⟩ := t
  refine ⟨Hi, ι, ρ, m, RR, good_bind gd fun ws m1 Hi1 ι1 vs H1 st M rv g1 => ?_⟩
  split at g1
  · split at g1
    · rename_i xs ys h1 h2
      cases rv with
      | cons r1 r2 =>
        cases r2 with
        | cons r2 r3 =>
          cases r3
          obtain ⟨S1, v1, e1, s1, q1⟩ := items_rep h1 r1
          obtain ⟨S2, v2, e2, s2, q2⟩ := items_rep h2 r2
          subst e1 e2
          exact ⟨S1, S2, v1, v2, rfl, s1 _ M.sub, s2 _ M.sub, g1 _ _ _ _ Step.refl M (itOk_Z s1 q1 s2 q2)⟩
    · exact g1.elim
  · exact g1.elim
end
end GD
/-! GDC: in, index, pop, insert, reversed slices, int of a truth value. -/
namespace GD
open PySem PySem.Spec PyProof.Rows L2
/-- x in ys (a list of data), c in a text -/
def oIn (neg : Bool) : O2 := fun a b m => match b with
  | .d (.str y) => (match a with
    | .d (.str z) => (match z.cps.toList with
      | [c] => .ok (.d (.bl (if neg then !decide (c ∈ y.cps.toList) else decide (c ∈ y.cps.toList)))) m
      | _ => .bad)
    | _ => .bad)
  | .d (.tup ys) => (match datOf a m with
    | some x => (match x.py, D.pyL ys with
      | some p, some ds => if SeqAt.shaped p && SeqAt.shaped (.tuple ds) then .ok (.d (.bl (if neg then !(ds.any fun z => PyData.eqv z p) else ds.any fun z => PyData.eqv z p))) m else .bad
      | _, _ => .bad)
    | none => .bad)
  | b => match datOf a m, lstOf b m with
    | some x, some ys => (match x.py, D.pyL ys with
      | some p, some ds => if SeqAt.shaped p && SeqAt.shaped (.list ds) then .ok (.d (.bl (if neg then !(ds.any fun z => PyData.eqv z p) else ds.any fun z => PyData.eqv z p))) m else .bad
      | _, _ => .bad)
    | _, _ => .bad
section
variable {K : PySem.W.Frag} {mg : Str → Option Value} {Hi H : Hp} {ι : List Addr} {m : Mem}
theorem lst_dp (M : Mok K mg Hi ι m H) {w : W} {v : V} {xs : List D} {ds : List PyData} (h : lstOf w m = some xs) (r : RepW K mg Hi ι v w) (hp : D.pyL xs = some ds) : ∃ a, v = .ref a ∧ Dp K H v (.list ds) := by
  obtain ⟨a, vs, rfl, h1, h2⟩ := lstOf_rep M h r
  refine ⟨a, rfl, Rep.dp (K := K) (mg := mg) (d := .lst xs) (.lst h1 (h2.mono M.sub)) ?_⟩
  rw [D.py, hp]
  rfl
end
def rInTup (K : PySem.W.Frag) : R2 := fun x y H Q => ∃ d ds, Dp K H x d ∧ Dp K H y (.tuple ds) ∧ SeqAt.shaped d = true ∧ SeqAt.shaped (.tuple ds) = true ∧ Q (.bl (ds.any fun z => PyData.eqv z d)) H
theorem op_inTup {X : Cx} (hu : X.A.units + 65 < cLine) : OpR X (compareOp .In) (rInTup X.K) := by
  intro pins s σ H x y v u Q I rx ry h
  obtain ⟨d, ds, hd, he, sd, se, q⟩ := h
  obtain ⟨as, r1⟩ := Dp.reads I d x v hd rx
  obtain ⟨bs, r2⟩ := Dp.reads I (.tuple ds) y u he ry
  exact SeqAt.in_tuple_reads r2 r1 (SeqAt.canLay_of_shaped se) (SeqAt.canLay_of_shaped sd) (room_in_shaped sd hu) ⟨.bl _, H, I, rfl, q⟩
def rInU (K : PySem.W.Frag) : R2 := fun x y H Q => (rInD K x y H Q ∨ rInTup K x y H Q) ∨ (fun x y H Q => ∃ (c : Nat) (z : Str), x = .str ⟨#[c]⟩ ∧ y = .str z ∧ Q (.bl (decide (c ∈ z.cps.toList))) H) x y H Q
theorem room65 {X : Cx} {k : Nat} (hr : Room k X.A) : X.A.units + 65 < cLine := by have := hr.un; omega
theorem one_sign {z : Str} {c : Nat} (h : z.cps.toList = [c]) : z = ⟨#[c]⟩ := by
  cases z with
  | mk a =>
    have : a = #[c] := by rw [← Array.toList_inj]; exact h
    rw [this]
theorem s_in {K : PySem.W.Frag} {mg : Str → Option Value} : S2 K mg (rInU K) (oIn false) := by
  intro Wx σ Hi ι m H x y a b Q M rx ry g
  unfold oIn at g
  split at g
  · split at g
    · split at g
      · rename_i z c hc
        rw [one_sign hc] at rx
        cases rx
        cases ry
        exact .inr ⟨c, _, rfl, rfl, g.here (rep := RepW K mg) M (.bl _)⟩
      · exact g.elim
    · exact g.elim
  · rename_i ys
    split at g
    · rename_i xd h1
      split at g
      · rename_i p ds h3 h4
        split at g
        · rename_i hs
          rw [Bool.and_eq_true] at hs
          refine .inl (.inr ⟨p, ds, (datOf_rep M h1 rx).dp h3, ?_, hs.1, hs.2, g.here (rep := RepW K mg) M (.bl _)⟩)
          have ry' : Rep K mg Hi y (.tup ys) := ry
          exact (ry'.mono M.sub).dp (by rw [D.py, h4]; rfl)
        · exact g.elim
      · exact g.elim
    · exact g.elim
  · split at g
    · rename_i xd ys h1 h2
      split at g
      · rename_i p ds h3 h4
        split at g
        · rename_i hs
          rw [Bool.and_eq_true] at hs
          obtain ⟨a1, rfl, hd⟩ := lst_dp M h2 ry h4
          exact .inl (.inl ⟨p, ds, (datOf_rep M h1 rx).dp h3, hd, hs.1, hs.2, g.here (rep := RepW K mg) M (.bl _)⟩)
        · exact g.elim
      · exact g.elim
    · exact g.elim
theorem RepL.eraseIdx {K : PySem.W.Frag} {mg : Str → Option Value} {H : Hp} : ∀ {vs : List V} {ds : List D} (i : Nat), RepL K mg H vs ds → RepL K mg H (vs.eraseIdx i) (ds.eraseIdx i)
  | _, _, _, .nil => .nil
  | _, _, 0, .cons _ t => t
  | _, _, i + 1, .cons r t => .cons r (RepL.eraseIdx i t)
/-- int(x), x a number or a truth value -/
def oIntB : ON := fun ws m => match ws with
  | [.d (.int i)] => .ok (.d (.int i)) m
  | [.d (.bl b)] => .ok (.d (.int (if b then 1 else 0))) m
  | _ => .bad
theorem RepL.reverse {K : PySem.W.Frag} {mg : Str → Option Value} {H : Hp} : ∀ {vs : List V} {ds : List D}, RepL K mg H vs ds → RepL K mg H vs.reverse ds.reverse
  | _, _, .nil => .nil
  | _, _, .cons r t => by
    rw [List.reverse_cons, List.reverse_cons]
    exact (RepL.reverse t).append (.one r)
/-! ### constants of the module -/
section
variable {X : Cx} {Wx : WX}
theorem pd_gint {x : Str} {i : Int} {pos : Pos} (h : ∃ t, X.mg x = some (.int i t)) (hg : Gl X x) (hdb : (x == ("__debug__" : Str)) = false := by decide) : PE X (.Name x pos) (tD X.K X.mg Wx (fC (.int i))) := by
  obtain ⟨t, h⟩ := h
  exact pd_c (pe_glob (v := .int i) hg h ⟨t, rfl⟩ hdb) fun _ => .int i
end
inductive EntsOk (P : Params) : List DictEntry → Dtab → Prop
  | nil : EntsOk P [] []
  | cons {k v : Str} {t u : Tok} {l : List DictEntry} {kvs : Dtab} (r : EntsOk P l kvs) : EntsOk P (⟨PyData.keyHash P k, .str k t, .str v u⟩ :: l) ((k, v) :: kvs)
theorem EntsOk.all {P : Params} {l : List DictEntry} {kvs : Dtab} (h : EntsOk P l kvs) : l.length = kvs.length ∧ ∀ (i : Nat) (e : DictEntry) (kv : Str × Str), l[i]? = some e → kvs[i]? = some kv → (∃ t, e.key = .str kv.1 t) ∧ e.hash = PyData.keyHash P kv.1 ∧ ∃ t, e.val = .str kv.2 t := by
  induction h with
  | nil => exact ⟨rfl, fun i e kv h => by simp at h⟩
  | cons r ih =>
    refine ⟨by simp [ih.1], fun i e kv h1 h2 => ?_⟩
    cases i with
    | zero =>
      simp at h1 h2
      subst h1 h2
      exact ⟨⟨_, rfl⟩, rfl, ⟨_, rfl⟩⟩
    | succ i => exact ih.2 i e kv (by simpa using h1) (by simpa using h2)
end GD
/-! GDD: a list repeated, that may be changed. -/
/-! GE0: instances of own classes: made, their fields, methods, properties. -/
namespace GD
open PySem PySem.Spec PyProof.Rows L2
/-! ### mirrors -/
/-- an instance: its class, its fields -/
def insOf (w : W) (m : Mem) : Option (Str × List Str × List D) := match w with
  | .d (.obj c ns vs) => some (c, ns, vs)
  | .m k => match m[k]? with
    | some (.ins c ns vs) => some (c, ns, vs)
    | _ => none
  | _ => none
def oFld (cs : List Str) (f : Str) : O1 := fun w m => match insOf w m with
  | some (c, ns, ds) => if c ∈ cs then (match (ns.zip ds).lookup f with
    | some d => .ok (.d d) m
    | none => .bad) else .bad
  | none => .bad
/-- a constant of the class, read off an instance -/
def oCon (tab : List (Str × D)) (f : Str) : O1 := fun w m => match insOf w m with
  | some (c, ns, ds) => (match (ns.zip ds).lookup f with
    | some _ => .bad
    | none => match tab.lookup c with
      | some d => .ok (.d d) m
      | none => .bad)
  | none => .bad
def putNs (f : Str) (ns : List Str) : List Str := if f ∈ ns then ns else ns ++ [f]
def putVs {α : Type} (f : Str) (v : α) : List Str → List α → List α
  | [], _ => [v]
  | _ :: _, [] => [v]
  | g :: ns, x :: vs => if g = f then v :: vs else x :: putVs f v ns vs
/-- o.f = e -/
def sFldSet (cs : List Str) (f : Str) (a o : Ev) : Ex := fun ρ m => (a ρ m).lift ρ fun y m => (o ρ m).lift ρ fun w m => match y, w with
  | .d d, .m k => match m[k]? with
    | some (.ins c ns vs) => if c ∈ cs ∧ ns.length < 500 then .nx ρ (m.set k (.ins c (putNs f ns) (putVs f d ns vs))) else .bad
    | _ => .bad
  | _, _ => .bad
/-- o.nm(..): the method of the object's class -/
def fMeth (tab : List (Str × Fn)) (nm : Str) (o : Ev) (a : EvL) : Ev := fun ρ m => (o ρ m).bind fun w m => match insOf w m with
  | some (c, ns, _) => (match tab.lookup c with
    | some g => if nm ∈ ns then .bad else (a ρ m).bind fun ws m => g (w :: ws) m
    | none => .bad)
  | none => .bad
/-- o.f, a property -/
def oProp (tab : List (Str × Fn)) : O1 := fun w m => match insOf w m with
  | some (c, _, _) => (match tab.lookup c with
    | some g => noX (g [w] m)
    | none => .bad)
  | none => .bad
/-- C(..): fz: it is data once it is made -/
def newO (fz : Bool) (c : Str) (init : Fn) : Fn := fun ws m => match init (.m m.length :: ws) (m ++ [.ins c [] []]) with
  | .ok w m' => (match w, m'[m.length]? with
    | .d .non, some (.ins c' ns vs) => if fz then .ok (.d (.obj c' ns vs)) (m'.take m.length) else .ok (.m m.length) (m'.take (m.length + 1))
    | _, _ => .bad)
  | .exc c ns vs m' => .exc c ns vs (m'.take m.length)
  | .bad => .bad
/-! ### the state -/
section
variable {K : PySem.W.Frag} {mg : Str → Option Value} {Hi Hi' H H' : Hp} {ι ι' : List Addr} {m m' : Mem}
theorem Mok.newX (M : Mok K mg Hi ι m H) {p : Addr} {o : HO} {mo : MO} (hp : H p = none) (r : RepO K mg Hi (upd H p o) p mo) : Mok K mg Hi (ι ++ [p]) (m ++ [mo]) (upd H p o) ∧ Step Hi ι H Hi (ι ++ [p]) (upd H p o) := by
  have hi : Hi p = none := M.sub.free hp
  have nm : ∀ a ∈ ι, a ≠ p := fun a ha e => by
    obtain ⟨o', h⟩ := M.live ha
    rw [e, hp] at h
    cases h
  have at_ : ∀ {k : Nat} {mo' : MO} {a : Addr}, (m ++ [mo])[k]? = some mo' → (ι ++ [p])[k]? = some a → (m[k]? = some mo' ∧ ι[k]? = some a) ∨ (mo' = mo ∧ a = p) := by
    intro k mo' a h1 h2
    by_cases hk : k < m.length
    · rw [List.getElem?_append_left hk] at h1
      rw [List.getElem?_append_left (by rw [M.len]; exact hk)] at h2
      exact .inl ⟨h1, h2⟩
    · rw [List.getElem?_append_right (by omega)] at h1
      rw [List.getElem?_append_right (by rw [M.len]; omega)] at h2
      have e1 := List.mem_of_getElem? h1
      have e2 := List.mem_of_getElem? h2
      rw [List.mem_singleton] at e1 e2
      exact .inr ⟨e1, e2⟩
  refine ⟨⟨fun b u q => by rw [upd_ne (ne_of_none q hi)]; exact M.sub b u q, by simp [M.len], ?_, fun k mo' a h1 h2 h3 => ?_, fun k mo' a h1 h2 => ?_⟩, Same.refl _, List.prefix_append _ _, fun a u q _ => by rw [upd_ne (ne_of_none q hp)]; exact q, fun a h1 h2 => ?_, fun a h => upd_live h, fun a _ h1 _ => h1⟩
  · rw [List.nodup_append]
    exact ⟨M.nd, by simp, fun a ha b hb => by rw [List.mem_singleton] at hb; subst hb; exact nm a ha⟩
  · rcases at_ h1 h2 with ⟨h1, h2⟩ | ⟨_, h2⟩
    · exact M.free k mo' a h1 h2 h3
    · subst h2; exact hi
  · rcases at_ h1 h2 with ⟨h1, h2⟩ | ⟨h1, h2⟩
    · exact (M.obj k mo' a h1 h2).mono (Same.refl _) (upd_ne (nm a (List.mem_of_getElem? h2)))
    · subst h1 h2; exact r
  · rcases List.mem_append.mp h1 with h1 | h1
    · exact absurd h1 h2
    · rw [List.mem_singleton] at h1; subst h1; exact hp
theorem idx_inj {k j : Nat} {a : Addr} (nd : ι.Nodup) (h1 : ι[k]? = some a) (h2 : ι[j]? = some a) : k = j := by
  obtain ⟨q1, e1⟩ := List.getElem?_eq_some_iff.mp h1
  obtain ⟨q2, e2⟩ := List.getElem?_eq_some_iff.mp h2
  exact (List.getElem_inj nd).mp (e1.trans e2.symm)
/-- a changeable object changed -/
theorem Mok.setX (M : Mok K mg Hi ι m H) {p : Addr} {k : Nat} {o : HO} {mo mo0 : MO} (hk : ι[k]? = some p) (ho : m[k]? = some mo0) (h0 : mo0 ≠ .dead) (r : RepO K mg Hi (upd H p o) p mo) : Mok K mg Hi ι (m.set k mo) (upd H p o) ∧ Step Hi ι H Hi ι (upd H p o) := by
  have hm : p ∈ ι := List.mem_of_getElem? hk
  have hi := M.free k _ p ho hk h0
  have hl : k < m.length := (List.getElem?_eq_some_iff.mp ho).1
  refine ⟨⟨fun b u q => by rw [upd_ne (ne_of_none q hi)]; exact M.sub b u q, by simp [M.len], M.nd, fun j mo a h1 h2 h3 => ?_, fun j mo a h1 h2 => ?_⟩, Same.refl _, List.prefix_refl _, fun a u q hn => ?_, fun a h1 h2 => absurd h1 h2, fun a h => upd_live h, fun a _ h1 _ => h1⟩
  · by_cases hj : k = j
    · subst hj
      rw [hk] at h2
      cases h2
      exact hi
    · rw [List.getElem?_set_ne hj] at h1
      exact M.free j mo a h1 h2 h3
  · by_cases hj : k = j
    · subst hj
      rw [List.getElem?_set_self hl] at h1
      rw [hk] at h2
      cases h1
      cases h2
      exact r
    · rw [List.getElem?_set_ne hj] at h1
      exact (M.obj j mo a h1 h2).mono (Same.refl _) (upd_ne fun e => hj (idx_inj M.nd hk (by rw [← e]; exact h2)))
  · rw [upd_ne (fun e => hn (by rw [e]; exact hm))]
    exact q
theorem Step.cut (s : Step Hi ι H Hi' ι' H') {n : Nat} (hn : ι.length ≤ n) : Step Hi ι H Hi' (ι'.take n) H' := by
  refine ⟨s.imm, ?_, s.frm, fun a h1 h2 => s.new a (List.mem_of_mem_take h1) h2, s.live, s.inew⟩
  rw [List.prefix_take_iff]
  exact ⟨s.pre, hn⟩
theorem not_take {n k : Nat} {a : Addr} (nd : ι.Nodup) (h : ι[k]? = some a) (hk : n ≤ k) : a ∉ ι.take n := fun hm => by
  obtain ⟨j, hj⟩ := List.getElem?_of_mem hm
  have hjl : j < n := by
    have := (List.getElem?_eq_some_iff.mp hj).1
    rw [List.length_take] at this
    omega
  rw [List.getElem?_take_of_lt hjl] at hj
  have := idx_inj nd hj h
  omega
/-- an object that was made meanwhile becomes data; what else was made is let go -/
theorem Step.frzX (s : Step Hi ι H Hi' ι' H') (M' : Mok K mg Hi' ι' m' H') {n k : Nat} {a : Addr} {o : HO} {mo : MO} (hn : ι.length = n) (hk : n ≤ k) (h1 : ι'[k]? = some a) (em : m'[k]? = some mo) (hd : mo ≠ .dead) (ho : H' a = some o) :
    Mok K mg (upd Hi' a o) (ι'.take n) (m'.take n) H' ∧ Step Hi ι H (upd Hi' a o) (ι'.take n) H' ∧ Same Hi' (upd Hi' a o) := by
  have hi : Hi' a = none := M'.free k _ a em h1 hd
  have nin := not_take M'.nd h1 hk
  have c := s.cut (n := n) (by omega)
  have e : ι'.take n = ι := take_pre s.pre hn
  have nH : H a = none := s.new a (List.mem_of_getElem? h1) (by rw [← e]; exact nin)
  have im : Same Hi' (upd Hi' a o) := fun b u q => by rw [upd_ne (ne_of_none q hi)]; exact q
  exact ⟨(M'.cut n).keep ho nin hi, ⟨c.imm.trans im, c.pre, c.frm, c.new, c.live, fun b z0 z1 z2 => by rw [upd_ne (fun z => z2 (by rw [z]; exact nH))]; exact c.inew b z0 z1 z2⟩, im⟩
/-! ### fields -/
theorem insOf_rep {v : V} {w : W} {c : Str} {ns : List Str} {ds : List D} (M : Mok K mg Hi ι m H) (r : RepW K mg Hi ι v w) (h : insOf w m = some (c, ns, ds)) :
    ∃ a C dx vs, v = .ref a ∧ mg c = some (.ref C) ∧ H a = some (.ins C dx (ns.zip vs)) ∧ ns.length = vs.length ∧ RepL K mg Hi vs ds := by
  unfold insOf at h
  split at h
  · cases h
    cases r with
    | obj g1 g2 g3 g4 g5 => exact ⟨_, _, _, _, rfl, g1, M.sub _ _ g2, g4, g5⟩
  · split at h
    · rename_i e
      cases h
      obtain ⟨a, h1, h2⟩ := r
      obtain ⟨C, dx, vs, q0, q1, q2, q3, q4⟩ := M.obj _ _ _ e h1
      exact ⟨a, C, dx, vs, h2, q0, q1, q3, q4⟩
    · cases h
  · cases h
theorem fld_some {f : Str} {d : D} : ∀ {ns : List Str} {vs : List V} {ds : List D}, RepL K mg Hi vs ds → (ns.zip ds).lookup f = some d → ∃ v, (ns.zip vs).lookup f = some v ∧ Rep K mg Hi v d
  | [], _, _, _, h => by simp at h
  | _ :: _, _, _, .nil, h => by simp at h
  | g :: ns, v :: vs, d' :: ds, .cons a b, h => by
    simp only [List.zip_cons_cons, List.lookup] at h ⊢
    cases e : f == g with
    | true => rw [e] at h; cases h; exact ⟨v, rfl, a⟩
    | false => rw [e] at h; exact fld_some b h
theorem fld_none {f : Str} : ∀ {ns : List Str} {vs : List V} {ds : List D}, RepL K mg Hi vs ds → (ns.zip ds).lookup f = none → (ns.zip vs).lookup f = none
  | [], _, _, _, h => by simp
  | _ :: _, _, _, .nil, h => by simp
  | g :: ns, v :: vs, d' :: ds, .cons a b, h => by
    simp only [List.zip_cons_cons, List.lookup] at h ⊢
    cases e : f == g with
    | true => rw [e] at h; cases h
    | false => rw [e] at h; exact fld_none b h
theorem fld_not {f : Str} : ∀ {ns : List Str} {vs : List V}, f ∉ ns → (ns.zip vs).lookup f = none
  | [], _, _ => by simp
  | _ :: _, [], _ => by simp
  | g :: ns, v :: vs, h => by
    simp only [List.zip_cons_cons, List.lookup]
    have e : (f == g) = false := by
      rw [beq_eq_false_iff_ne]
      exact fun q => h (by rw [q]; exact List.mem_cons_self ..)
    rw [e]
    exact fld_not fun q => h (List.mem_cons_of_mem _ q)
theorem putVs_len {α : Type} {f : Str} {v : α} : ∀ {ns : List Str} {vs : List α}, ns.length = vs.length → (putNs f ns).length = (putVs f v ns vs).length
  | [], [], _ => rfl
  | g :: ns, x :: vs, h => by
    have ih := putVs_len (f := f) (v := v) (ns := ns) (vs := vs) (by simpa using h)
    unfold putNs at ih ⊢
    unfold putVs
    by_cases e : g = f
    · subst e
      rw [if_pos rfl, if_pos (List.mem_cons_self ..)]
      simpa using h
    · rw [if_neg e]
      by_cases q : f ∈ ns
      · rw [if_pos q] at ih
        rw [if_pos (List.mem_cons_of_mem _ q)]
        simp [ih]
      · rw [if_neg q] at ih
        rw [if_neg (fun z => q ((List.mem_cons.mp z).resolve_left fun z => e z.symm))]
        simp only [List.cons_append, List.length_cons]
        omega
  | [], _ :: _, h => by simp at h
  | _ :: _, [], h => by simp at h
theorem putF_zip {f : Str} {v : V} : ∀ {ns : List Str} {vs : List V}, ns.length = vs.length → putF f v (ns.zip vs) = (putNs f ns).zip (putVs f v ns vs)
  | [], [], _ => by simp [putF, putNs, putVs]
  | g :: ns, x :: vs, h => by
    have ih := putF_zip (f := f) (v := v) (ns := ns) (vs := vs) (by simpa using h)
    simp only [List.zip_cons_cons, putF]
    unfold putVs
    unfold putNs at ih ⊢
    by_cases e : g = f
    · subst e
      rw [if_pos rfl, if_pos rfl, if_pos (List.mem_cons_self ..)]
      rfl
    · rw [if_neg e, if_neg e, ih]
      by_cases q : f ∈ ns
      · rw [if_pos q, if_pos (List.mem_cons_of_mem _ q)]
        rfl
      · rw [if_neg q, if_neg (fun z => q ((List.mem_cons.mp z).resolve_left fun z => e z.symm))]
        rfl
  | [], _ :: _, h => by simp at h
  | _ :: _, [], h => by simp at h
theorem putVs_rep {f : Str} {v : V} {d : D} : ∀ {ns : List Str} {vs : List V} {ds : List D}, Rep K mg Hi v d → RepL K mg Hi vs ds → RepL K mg Hi (putVs f v ns vs) (putVs f d ns ds)
  | [], _, _, h, _ => .cons h .nil
  | _ :: _, _, _, h, .nil => .cons h .nil
  | g :: ns, _ :: _, _ :: _, h, .cons a b => by
    unfold putVs
    by_cases e : g = f
    · rw [if_pos e, if_pos e]
      exact .cons h b
    · rw [if_neg e, if_neg e]
      exact .cons a (putVs_rep h b)
end
/-! ### what the text says of a class -/
/-- the class named c has (or its instances may have) the field f of its own -/
structure FldOk (K : PySem.W.Frag) (mg : Str → Option Value) (c f : Str) : Prop where
  ex : ∃ C, mg c = some (.ref C) ∧ Cls K C ∧ NoAttr K C f
structure ConOk (K : PySem.W.Frag) (mg : Str → Option Value) (c f : Str) (d : D) : Prop where
  ex : ∃ C v u, mg c = some (.ref C) ∧ Cls K C ∧ Con K C f v u ∧ ∀ Hi, Rep K mg Hi v d
structure MethOk (P : Program) (w : World) (K : PySem.W.Frag) (mg : Str → Option Value) (base : Heap) (c nm : Str) (k : Nat) (g : Fn) : Prop where
  ex : ∃ C f, mg c = some (.ref C) ∧ Cls K C ∧ Meth K C nm f ∧ FnR P w K mg base (L2.CX P w) k f (spN K mg g)
structure PropOk (P : Program) (w : World) (K : PySem.W.Frag) (mg : Str → Option Value) (base : Heap) (c nm : Str) (k : Nat) (g : Fn) : Prop where
  ex : ∃ C p f, mg c = some (.ref C) ∧ Cls K C ∧ PropOf K C nm p f ∧ FnR P w K mg base (L2.CX P w) k f (spN K mg g)
structure NewOk (P : Program) (w : World) (K : PySem.W.Frag) (mg : Str → Option Value) (base : Heap) (c : Str) (k : Nat) (g : Fn) : Prop where
  ex : ∃ C f, mg c = some (.ref C) ∧ Mk K C f ∧ FnR P w K mg base (L2.CX P w) k f (spN K mg g)
/-- a table of what is so for each class -/
def AllT {α : Type} (p : Str → α → Prop) : List (Str × α) → Prop
  | [] => True
  | (c, a) :: l => p c a ∧ AllT p l
theorem AllT.get {α : Type} {p : Str → α → Prop} {c : Str} {a : α} : ∀ {l : List (Str × α)}, AllT p l → l.lookup c = some a → p c a
  | [], _, h => by simp at h
  | (c', a') :: l, ⟨h1, h2⟩, h => by
    simp only [List.lookup] at h
    cases e : c == c' with
    | true =>
      rw [e] at h
      cases h
      rw [beq_iff_eq] at e
      subst e
      exact h1
    | false => rw [e] at h; exact AllT.get h2 h
def AllC (p : Str → Prop) : List Str → Prop
  | [] => True
  | c :: l => p c ∧ AllC p l
theorem AllC.get {p : Str → Prop} {c : Str} : ∀ {l : List Str}, AllC p l → c ∈ l → p c
  | [], _, h => by simp at h
  | c' :: l, ⟨h1, h2⟩, h => by
    rcases List.mem_cons.mp h with e | e
    · subst e; exact h1
    · exact AllC.get h2 e
/-! ### rules -/
section
variable {X : Cx} {Wx : WX} {kk j : Nat} {e o : Expr} {es : List Expr} {f nm x : Str} {pos apos pos' p : Pos} {fa fo : Ev} {a : EvL}
theorem pd_fld {cs : List Str} (T : AllC (fun c => FldOk X.K X.mg c f) cs) (he : PE X e (tD X.K X.mg Wx fa)) (hb : attributeBase e f X.env (eval e X.env) = eval e X.env := by rfl) : PE X (.Attribute e f pos) (tD X.K X.mg Wx (fUn (oFld cs f) fa)) :=
  PE.imp (pe_fld he hb) fun σ H Q t => by
    obtain ⟨Hi, ι, ρ, m, RR, g⟩ := t
    refine ⟨Hi, ι, ρ, m, RR, good_bind g fun w m1 Hi1 ι1 v H1 st M rv g1 => ?_⟩
    unfold oFld at g1
    split at g1
    case h_2 => exact g1.elim
    rename_i c ns ds hi
    split at g1
    case isFalse => exact g1.elim
    rename_i hc
    split at g1
    case h_2 => exact g1.elim
    rename_i d hd
    obtain ⟨a, C, dx, vs, ev, hg, ha, hl, rl⟩ := insOf_rep M rv hi
    obtain ⟨C', hg', hcl, hna⟩ := (T.get hc).ex
    rw [hg] at hg'
    cases hg'
    obtain ⟨y, h1, h2⟩ := fld_some rl hd
    exact ⟨a, C, dx, _, y, ev, ha, hcl, hna, h1, g1.here (rep := RepW X.K X.mg) M h2⟩
theorem pd_con {tab : List (Str × D)} (T : AllT (fun c d => ConOk X.K X.mg c f d) tab) (he : PE X e (tD X.K X.mg Wx fa)) (hb : attributeBase e f X.env (eval e X.env) = eval e X.env := by rfl) : PE X (.Attribute e f pos) (tD X.K X.mg Wx (fUn (oCon tab f) fa)) :=
  PE.imp (pe_con he hb) fun σ H Q t => by
    obtain ⟨Hi, ι, ρ, m, RR, g⟩ := t
    refine ⟨Hi, ι, ρ, m, RR, good_bind g fun w m1 Hi1 ι1 v H1 st M rv g1 => ?_⟩
    unfold oCon at g1
    split at g1
    case h_2 => exact g1.elim
    rename_i c ns ds hi
    split at g1
    case h_1 => exact g1.elim
    rename_i hn
    split at g1
    case h_2 => exact g1.elim
    rename_i d hd
    obtain ⟨a, C, dx, vs, ev, hg, ha, hl, rl⟩ := insOf_rep M rv hi
    obtain ⟨C', y, u, hg', hcl, hco, hr⟩ := (T.get hd).ex
    rw [hg] at hg'
    cases hg'
    exact ⟨a, C, dx, _, y, u, ev, ha, hcl, hco, fld_none rl hn, g1.here (rep := RepW X.K X.mg) M (hr Hi1)⟩
theorem psd_fld {cs : List Str} {value : Expr} (T : AllC (fun c => FldOk X.K X.mg c f) cs) (hv : PE X value (tD X.K X.mg Wx fa)) (ho : PE X o (tD X.K X.mg Wx fo)) (hs : swapsWith value (some (.Attribute o f pos')) pos.line X.env = pure false := by rfl) :
    PS X (.Assign [.Attribute o f pos'] value pos) (tDS X.K X.mg Wx (sFldSet cs f fa fo)) := PS.imp (ps_fld ho hv hs) fun D σ H t => by
  obtain ⟨Hi, ι, ρ, m, RR, g⟩ := t
  refine ⟨Hi, ι, ρ, m, RR, goodS_lift RR g fun y m1 Hi1 ι1 v H1 st M rv g1 => ⟨Hi1, ι1, ρ, m1, RR.step st M, goodS_lift (RR.step st M) g1 fun w m2 Hi2 ι2 u H2 st2 M2 ru g2 => ?_⟩⟩
  split at g2
  case h_2 => exact g2.elim
  rename_i d k
  split at g2
  case h_2 => exact g2.elim
  rename_i c ns ds em
  split at g2
  case isFalse => exact g2.elim
  rename_i hc
  obtain ⟨a, h1, h2⟩ := ru
  obtain ⟨C, dx, vs, q0, q1, q2, q3, q4⟩ := M2.obj _ _ _ em h1
  obtain ⟨C', hg', hcl, hna⟩ := (T.get hc.1).ex
  rw [q0] at hg'
  cases hg'
  refine ⟨a, C, dx, _, h2, q1, hcl, hna, by rw [List.length_zip]; omega, ?_⟩
  rw [putF_zip q3]
  have rv2 : RepW X.K X.mg Hi2 ι2 v (.d d) := rv.step st2
  obtain ⟨M3, st3⟩ := M2.setX (o := .ins C dx ((putNs f ns).zip (putVs f v ns vs))) (mo := .ins c (putNs f ns) (putVs f d ns ds)) h1 em (fun q => nomatch q) ⟨C, dx, _, q0, upd_same, q2, putVs_len q3, putVs_rep rv2 q4⟩
  exact g2 _ _ _ _ st3 ((RR.step st M).step (st2.trans st3) M3)
/-! ### methods -/
theorem meth_core {tab : List (Str × Fn)} {pl : Sem Bool} (c : Cc X Wx kk) (T : AllT (fun c g => MethOk X.prog X.w X.K X.mg X.base c nm j g) tab) (hj : j ≤ kk) {pins : List (Addr × Obj)} {s : Shared} {σ : L2.St} {H : Hp} {Q : VK} {Hi : Hp} {ι : List Addr} {ρ : Env} {m : Mem} {v : V} {u : Value} {w : W}
    (I : Inv X pins σ H s) (rv : RelV v u) (RR : Rel X.K X.mg Hi ι ρ m σ H) (rw_ : RepW X.K X.mg Hi ι v w)
    (g : Good X.K X.mg (RepW X.K X.mg) Wx σ Hi ι H (match insOf w m with
      | some (c, ns, _) => (match tab.lookup c with
        | some g => if nm ∈ ns then .bad else (a ρ m).bind fun ws m => g (w :: ws) m
        | none => .bad)
      | none => .bad) Q)
    (k : ∀ (b f' : Addr) (gm : Fn), v = .ref b → PySem.W.keepIn X.K (.ref f') = true → FnR X.prog X.w X.K X.mg X.base (L2.CX X.prog X.w) j f' (spN X.K X.mg gm) → tDA X.K X.mg Wx a σ H (fun vs H1 => spN X.K X.mg gm (.ref b :: vs) H1 Q (WE Wx σ)) →
      wpAny (model X.prog X.w) X.A (callWith pos (.ref f') [.ref b] (backTo pos (starEach es X.env)) []) (EP X pins σ Q) X.xe s) :
    wpAny (model X.prog X.w) X.A (getMethod u nm pl) (fun r s' => wpAny (model X.prog X.w) X.A (callWith pos r.1 r.2 (backTo pos (starEach es X.env)) []) (EP X pins σ Q) X.xe s') X.xe s := by
  split at g
  case h_2 => exact g.elim
  rename_i cn ns ds hi
  split at g
  case h_2 => exact g.elim
  rename_i gm hm
  split at g
  case isTrue => exact g.elim
  rename_i hn
  obtain ⟨b, C, dx, vs, ev, hg, ha, hl, rl⟩ := insOf_rep RR.mok rw_ hi
  obtain ⟨C', f', hg', hcl, hme, F⟩ := (T.get hm).ex
  rw [hg] at hg'
  cases hg'
  subst ev
  obtain rfl : u = Value.ref b := rv
  refine getmeth_ok I ha hcl hme (fld_not hn) (k b f' gm rfl hme.kp F ⟨Hi, ι, ρ, m, RR, good_bind g fun ws m2 Hi2 ι2 vs2 H2 st2 M2 rvs g2 => ⟨Hi2, ι2, w :: ws, m2, M2, .cons (rw_.step st2) rvs, g2⟩⟩)
theorem pd_meth0 {tab : List (Str × Fn)} {pl : Sem Bool} (c : Cc X Wx kk) (T : AllT (fun c g => MethOk X.prog X.w X.K X.mg X.base c nm j g) tab) (hj : j ≤ kk) (ho : PE X o (tD X.K X.mg Wx fo))
    (ht : eval (.Call (.Attribute o nm apos) [] [] pos) X.env = (do
      let ov ← eval o X.env
      standAt apos.atName
      let (f, first) ← holding [ov] (getMethod ov nm pl)
      callWith pos f first (backTo pos (starEach [] X.env)) (backToKw pos (keywordEach [] X.env))) := by rfl) : PE X (.Call (.Attribute o nm apos) [] [] pos) (tD X.K X.mg Wx (fMeth tab nm fo fNil)) := by
  refine ⟨fun pins s σ H Q I h => ?_⟩
  obtain ⟨Hi, ι, ρ, m, RR, g⟩ := h
  refine PySem.W.methodCall_KW (pl := pl) (thn (ho.run pins s σ H (fun v H1 => ∃ Hi1 ι1 w m1, Rel X.K X.mg Hi1 ι1 ρ m1 σ H1 ∧ RepW X.K X.mg Hi1 ι1 v w ∧ Good X.K X.mg (RepW X.K X.mg) Wx σ Hi1 ι1 H1 _ Q) I ⟨Hi, ι, ρ, m, RR, good_bind g fun w m1 Hi1 ι1 v H1 st M rv g1 => ⟨Hi1, ι1, w, m1, RR.step st M, rv, g1⟩⟩) ?_) ht
  intro u s1 ⟨v, H1, I1, rv, Hi1, ι1, w, m1, RR1, rw1, g1⟩
  refine meth_core (a := fNil) c T hj I1 rv RR1 rw1 g1 fun b f' gm ev hk F q => PySem.W.callWith_K0 (first := [.ref b]) I1.kIn hk ?_
  obtain ⟨Hi2, ι2, ρ2, m2, R2, g2⟩ := q
  exact wpAny_call (run_fnRS F (c.room.mono hj) (passAt c.tk σ) I1 (us := [.ref b]) (vs := [.ref b]) (.cons rfl .nil) (g2.here (rep := RepWs X.K X.mg) (x := []) R2.mok .nil))
/-! ### properties -/
theorem pd_prop {tab : List (Str × Fn)} (c : Cc X Wx kk) (T : AllT (fun c g => PropOk X.prog X.w X.K X.mg X.base c f j g) tab) (hj : j + 1 ≤ kk) (he : PE X e (tD X.K X.mg Wx fa)) (hab : attributeBase e f X.env (eval e X.env) = eval e X.env := by rfl) :
    PE X (.Attribute e f pos) (tD X.K X.mg Wx (fUn (oProp tab) fa)) := by
  refine ⟨fun pins s σ H Q I h => ?_⟩
  obtain ⟨Hi, ι, ρ, m, RR, g⟩ := h
  refine attr_of hab (thn (he.run pins s σ H (fun v H1 => ∃ Hi1 ι1 w m1, Mok X.K X.mg Hi1 ι1 m1 H1 ∧ RepW X.K X.mg Hi1 ι1 v w ∧ Good X.K X.mg (RepW X.K X.mg) Wx σ Hi1 ι1 H1 (oProp tab w m1) Q) I ⟨Hi, ι, ρ, m, RR, good_bind g fun w m1 Hi1 ι1 v H1 st M rv g1 => ⟨Hi1, ι1, w, m1, M, rv, g1⟩⟩) ?_)
  intro u s1 ⟨v, H1, I1, rv, Hi1, ι1, w, m1, M1, rw1, g1⟩
  unfold oProp at g1
  split at g1
  case h_2 => exact g1.elim
  rename_i cn ns ds hi
  split at g1
  case h_2 => exact g1.elim
  rename_i gm hm
  obtain ⟨b, C, dx, vs, ev, hg, ha, hl, rl⟩ := insOf_rep M1 rw1 hi
  obtain ⟨C', p', f', hg', hcl, hp, F⟩ := (T.get hm).ex
  rw [hg] at hg'
  cases hg'
  subst ev
  obtain rfl : u = Value.ref b := rv
  obtain ⟨mA, O, _, _, _, _⟩ := ins_get I1.hok ha
  obtain ⟨od, J, _⟩ := O.look
  obtain ⟨rest, hrec⟩ := hp.rec_
  have I2 := I1.tok (s1.toks + 1)
  have hc : (PySem.W.clsIn X.K C).isSome = true := by
    obtain ⟨cd, hc, _⟩ := PySem.W.any_some hcl.hd
    rw [hc] <;> rfl
  have hpg := PySem.W.plainGet_of (hcl.get f)
  have hh : spN X.K X.mg gm [.ref b] H1 Q (fun _ _ _ => False) := ⟨Hi1, ι1, [w], m1, M1, .cons rw1 .nil, by
    cases e : gm [w] m1 with
    | ok x m2 => rw [e] at g1; exact g1
    | exc c ns vs m2 => rw [e] at g1; exact g1.elim
    | bad => rw [e] at g1; exact g1⟩
  refine PySem.W.get_bind I1.kIn J hpg.1 (PySem.W.findObj_data hc hp.at_ hp.get hp.tak) hpg.2 (wpAny_call (PySem.W.prop_get (s := { s1 with toks := s1.toks + 1 }) I1.kIn hrec ?_))
  refine codeAny_mono (F X.A.in1 X.stack { s1 with toks := s1.toks + 1 } H1 [.ref b] [.ref b] Q (fun _ _ _ => False) (c.room.mono hj).in1 I2.env0.in1 (.cons rfl .nil) hh) fun r s' hq => ?_
  cases r with
  | error er => obtain ⟨_, _, _, _, _, _, _, _, _, _, _, _, z⟩ := hq; exact z.elim
  | ok fl =>
    cases fl with
    | ret y =>
      obtain ⟨z, H3, I3, rz, q3⟩ := I2.after hq
      show wpAny _ _ (handedOut y) _ _ _
      rw [PySem.W.handedOut_of (handed_of rz)]
      exact wpAny_pure ⟨z, H3, I3, rz, q3⟩
    | next => exact False.elim hq
    | brk => exact False.elim hq
    | cont => exact False.elim hq
end
end GD
/-! GE1: a class as what is called; methods as functions. -/
namespace GD
open PySem PySem.Spec PyProof.Rows L2
section
variable {P : Program} {w : World} {K : PySem.W.Frag} {mg : Str → Option Value} {base : Heap}
/-- a class called, by its __init__ -/
theorem make_fnR {k : Nat} {C f : Addr} {sp : Sp} (M : Mk K C f) (F : FnR P w K mg base (L2.CX P w) k f sp) :
    FnR P w K mg base (L2.CX P w) (k + 1) C (fun vs H Q E => ∀ x dx, H x = none → H dx = none → dx ≠ x → sp (.ref x :: vs) (upd (upd H dx (.own x)) x (.ins C dx [])) (fun v H2 => v = .non ∧ Q (.ref x) H2) E) := by
  intro A outer s H us vs Q E hr e0 r hsp
  have KX : K.In s.heap := e0.mod.kin.keeps fun b o e => (e0.bs b o e).1
  have n1 : H s.heap.objs.size = none := e0.hok.fresh (Nat.le_refl _)
  have n2 : H (s.heap.objs.size + 1) = none := e0.hok.fresh (Nat.le_succ _)
  have ne : s.heap.objs.size ≠ s.heap.objs.size + 1 := Nat.ne_of_lt (Nat.lt_succ_self _)
  have hq := hsp (s.heap.objs.size + 1) s.heap.objs.size n2 n1 ne
  have a1 : (s.heap.push PySem.W.emptyDict).get? s.heap.objs.size = some PySem.W.emptyDict := Heap.get?_push_size s.heap rfl
  have sz : (s.heap.push PySem.W.emptyDict).objs.size = s.heap.objs.size + 1 := Heap.size_push _ _
  have e1 := StX.env0_laid (o := PySem.W.emptyDict) (u := .own (s.heap.objs.size + 1)) e0 ⟨_, a1⟩
  have a2 : ((s.heap.push PySem.W.emptyDict).push (PySem.W.instObj C s.heap.objs.size)).get? (s.heap.objs.size + 1) = some (PySem.W.instObj C s.heap.objs.size) := by
    have z := Heap.get?_push_size (s.heap.push PySem.W.emptyDict) (o := PySem.W.instObj C s.heap.objs.size) rfl
    rw [sz] at z
    exact z
  have a3 : (s.heap.push PySem.W.emptyDict).Ns s.heap.objs.size (fun _ => none) := ⟨PySem.W.emptyDict, #[], _, a1, rfl, (fun e he => absurd he (by simp)), fun _ => rfl⟩
  have new : ObjOk P w (upd (upd H s.heap.objs.size (.own (s.heap.objs.size + 1))) (s.heap.push PySem.W.emptyDict).objs.size (.ins C s.heap.objs.size [])) ((s.heap.push PySem.W.emptyDict).push (PySem.W.instObj C s.heap.objs.size)) (s.heap.push PySem.W.emptyDict).objs.size (.ins C s.heap.objs.size []) := by
    rw [sz]
    exact ⟨by rw [upd_ne ne, upd_same], Nat.zero_le _, ne, a2, fun _ => none, (Heap.Ns1.of_empty a3).at fun o q => Heap.get?_push_of_some _ q, fun _ => True.intro, fun y hy => absurd rfl hy⟩
  have e2 := StX.env0_laid (o := PySem.W.instObj C s.heap.objs.size) (u := .ins C s.heap.objs.size []) e1 new
  have u1 := StX.un_laid (fs := frs outer) (s := s) (o := PySem.W.emptyDict) (u := .own (s.heap.objs.size + 1)) n1
  have n2' : upd H s.heap.objs.size (.own (s.heap.objs.size + 1)) (s.heap.push PySem.W.emptyDict).objs.size = none := by rw [sz, upd_ne ne.symm]; exact n2
  have u2 := StX.un_laid (fs := frs outer) (s := { s with heap := s.heap.push PySem.W.emptyDict }) (o := PySem.W.instObj C s.heap.objs.size) (u := .ins C s.heap.objs.size []) n2'
  rw [show ({ s with heap := s.heap.push PySem.W.emptyDict } : Shared).heap.objs.size = s.heap.objs.size + 1 from sz] at e2 u2
  have un := u1.trans u2
  have kp : ∀ b o, s.heap.get? b = some o → ((s.heap.push PySem.W.emptyDict).push (PySem.W.instObj C s.heap.objs.size)).get? b = some o := fun b o q => Heap.get?_push_of_some _ (Heap.get?_push_of_some _ q)
  refine make_map (f := f) KX M.makes M.init (beq_iff_eq.mp M.fn) (codeAny_mono (F _ outer _ _ (Value.ref (s.heap.objs.size + 1) :: us) (V.ref (s.heap.objs.size + 1) :: vs) _ E (hr.make C us []) (e2.make C us []) (.cons rfl r) hq) fun r s' hq' => ?_)
  cases r with
  | error e => exact StX.cxUp outer s H { s with heap := (s.heap.push PySem.W.emptyDict).push (PySem.W.instObj C s.heap.objs.size) } _ E e s' un kp rfl hq'
  | ok fl =>
    cases fl with
    | ret u =>
      obtain ⟨v, H', h1, h2, h3, h4, h5, h6, h7⟩ := hq'
      subst h6
      exact ⟨h5, ⟨V.ref (s.heap.objs.size + 1), H', h1, h2, un.trans h3, h4, rfl, h7⟩⟩
    | next => exact False.elim hq'
    | brk => exact False.elim hq'
    | cont => exact False.elim hq'
/-- C(..) as a function on data -/
theorem new_fnR {k : Nat} {C f : Addr} {c : Str} {g : Fn} (fz : Bool) (hg : mg c = some (.ref C)) (M : Mk K C f) (F : FnR P w K mg base (L2.CX P w) k f (spN K mg g)) : FnR P w K mg base (L2.CX P w) (k + 1) C (spN K mg (newO fz c g)) := by
  refine (make_fnR M F).imp fun vs H Q E h => ?_
  obtain ⟨Hi, ι, ws, m, M0, r, gd⟩ := h
  intro x dx hx hdx hne
  obtain ⟨M1, s1⟩ := M0.newD (o := .own x) hdx
  have hx1 : upd H dx (.own x) x = none := by rw [upd_ne (fun z => hne z.symm)]; exact hx
  obtain ⟨M2, s2⟩ := M1.newX (o := .ins C dx []) (mo := .ins c [] []) hx1 ⟨C, dx, [], hg, upd_same, upd_same, rfl, .nil⟩
  have s12 := s1.trans s2
  have lm : ι.length = m.length := M0.len
  refine ⟨_, _, .m m.length :: ws, _, M2, .cons ⟨x, by rw [← lm, List.getElem?_append_right (Nat.le_refl _)]; simp, rfl⟩ (r.step s12), ?_⟩
  have ix : ∀ {ι' : List Addr}, ι ++ [x] <+: ι' → ι'[m.length]? = some x := fun {ι'} p => by
    obtain ⟨t, rfl⟩ := p
    rw [List.getElem?_append_left (by simp [lm]), ← lm, List.getElem?_append_right (Nat.le_refl _)]
    simp
  unfold newO at gd
  cases e : g (.m m.length :: ws) (m ++ [.ins c [] []]) with
  | bad => rw [e] at gd; exact gd
  | exc c' ns vs' m' =>
    rw [e] at gd
    intro Hi' ι' H' C' dx' fs st M'
    have st' := s12.trans st
    have ct := st'.cut (n := m.length) (by omega)
    exact gd Hi' (ι'.take m.length) H' C' dx' fs ct (M'.cut m.length)
  | ok y m' =>
    rw [e] at gd
    dsimp only at gd
    intro Hi' ι' v H' st M' rv
    split at gd
    case h_2 => exact gd.elim
    rename_i c' ns ds em
    have st' := s12.trans st
    have hix := ix st.pre
    obtain ⟨C', dx', us, q0, q1, q2, q3, q4⟩ := M'.obj _ _ _ em hix
    refine ⟨by cases rv; rfl, ?_⟩
    cases fz with
    | true =>
      obtain ⟨M3, s3, im⟩ := st'.frzX M' lm (Nat.le_refl _) hix em (fun q => nomatch q) q1
      exact gd _ _ _ _ s3 M3 (.obj q0 upd_same (im _ _ q2) q3 (q4.mono im))
    | false =>
      have ct := st'.cut (n := m.length + 1) (by omega)
      exact gd _ _ _ _ ct (M'.cut (m.length + 1)) ⟨x, by rw [List.getElem?_take_of_lt (Nat.lt_succ_self _)]; exact hix, rfl⟩
theorem new_def {k : Nat} {c : Str} {g : Fn} (fz : Bool) (N : NewOk P w K mg base c k g) : DefOk P w K mg base c (k + 1) (newO fz c g) := by
  obtain ⟨C, f, hg, M, F⟩ := N.ex
  exact ⟨C, new_fnR fz hg M F, hg, M.kp⟩
/-! ### defs by their bodies -/
theorem fnr_ok {x qual : Str} {st : Stmt} {f : Addr} {fd : FuncData} {N ps : List Str} {k n np : Nat} {b : Ex} (mu : Bool) (F : Fun K x qual st f fd) (S : FnScope N ps (defScope st)) (hn : N.length = n) (hp : ps.length = np)
    (hb : ∀ (kV doc pm : Value) (an : Option Addr) (cdv ct : Value) (us : List Value), us.length = ps.length → bindArgs (PySem.W.fnOf x qual (defArgs st) (defBody st) (defScope st) .none kV doc pm an cdv ct) ⟨us, []⟩ = pure (ps.zip us))
    (hbody : ∀ (f : Addr) (cdv : Value) (A : Around) (outer : List PySem.Env) (s : Shared) (H : Hp) (E : XK),
      Cc (cxOf (L2.CX P w) P w K mg base N qual (defScope st) f cdv A outer s H E) (fun c d _ H' => E c d H') k →
      PSs (cxOf (L2.CX P w) P w K mg base N qual (defScope st) f cdv A outer s H E) (defBody st) (tDS K mg (fun c d _ H' => E c d H') b)) : FnR P w K mg base (L2.CX P w) (k + 1) f (spN K mg (fnOf mu np n b)) := by
  have z := fnR_of (fun_ok (P := P) (w := w) (base := base) (mg := mg) (mu := mu) F S hn hp fun cdv A outer s H E hr => hbody f cdv A outer s H E ⟨takes_of rfl rfl rfl rfl, passes_of rfl, S.nd, rfl, hr⟩) (F.binds hb) .nil
  simp only [List.append_nil] at z
  exact z
/-- def f(a, .., *v) -/
theorem fnr_star {x qual pv : Str} {st : Stmt} {f : Addr} {fd : FuncData} {N ps : List Str} {k n np : Nat} {b : Ex} (mu : Bool) (F : Fun K x qual st f fd) (S : FnScope N (ps ++ [pv]) (defScope st)) (hn : N.length = n) (hp : ps.length = np)
    (hb : ∀ (kV doc pm : Value) (an : Option Addr) (cdv ct : Value) (us rest : List Value), us.length = ps.length → bindArgs (PySem.W.fnOf x qual (defArgs st) (defBody st) (defScope st) .none kV doc pm an cdv ct) ⟨us ++ rest, []⟩ = (newTuple rest >>= fun t => pure (ps.zip us ++ [(pv, t)])))
    (hbody : ∀ (f : Addr) (cdv : Value) (A : Around) (outer : List PySem.Env) (s : Shared) (H : Hp) (E : XK),
      Cc (cxOf (L2.CX P w) P w K mg base N qual (defScope st) f cdv A outer s H E) (fun c d _ H' => E c d H') k →
      PSs (cxOf (L2.CX P w) P w K mg base N qual (defScope st) f cdv A outer s H E) (defBody st) (tDS K mg (fun c d _ H' => E c d H') b)) : FnR P w K mg base (L2.CX P w) (k + 1) f (spN K mg (fnStar np (fnOf mu (np + 1) n b))) := by
  obtain ⟨oc, od, kV, doc, pm, an, cdv, ct, osl, rfl, lk, hcd⟩ := F.ex
  have z := StX.fn_star (P := P) (w := w) (base := base) (mg := mg) (CX := L2.CX P w) (k := k) (sp := spN K mg (fnOf mu (np + 1) n b)) lk hcd S StX.cxUp (hb kV doc pm an cdv ct) (fun A outer s H vs Q E hr h => by
    obtain ⟨Hi, ι, ws, m, M, r, g⟩ := h
    exact ⟨_, hbody f cdv A outer s H E ⟨takes_of rfl rfl rfl rfl, passes_of rfl, S.nd, rfl, hr⟩, body_imp hn M r g⟩)
  refine z.imp fun vs H Q E h => ?_
  obtain ⟨Hi, ι, ws, m, M, r, g⟩ := h
  unfold fnStar at g
  split at g
  case isFalse => exact g.elim
  rename_i hle
  split at g
  case h_2 => exact g.elim
  rename_i xs hx
  split at g
  case isFalse => exact g.elim
  rename_i hl
  have hlen := r.length
  have rl := (r.drop np).dats hx
  refine ⟨vs.take np, vs.drop np, (List.take_append_drop _ _).symm, by rw [List.length_take]; omega, sz5 (by rw [rl.length]; exact hl), fun p hp => ?_⟩
  obtain ⟨M2, st2⟩ := M.newD (o := .tup (vs.drop np)) hp
  have rt : RepW K mg (upd Hi p (.tup (vs.drop np))) ι (.ref p) (.d (.tup xs)) := Rep.tup (.inl (.inl upd_same)) (rl.mono st2.imm)
  exact ⟨_, ι, _, m, M2, ((r.take np).step st2).append (.cons rt .nil), g.step st2⟩
end
/-! ### calls with a star -/
end GD
/-! GE2: own operators, len, str, ==, calls; methods of classes. -/
namespace GD
open PySem PySem.Spec PyProof.Rows L2
/-! ### mirrors -/
/-- x op y of two instances of one class -/
def oOwn (tab : List (Str × Fn)) : O2 := fun x y m => match insOf x m, insOf y m with
  | some (c, _, _), some (c', _, _) => if c = c' then (match tab.lookup c with
    | some g => g [x, y] m
    | none => .bad) else .bad
  | _, _ => .bad
/-- x == y by the own __eq__ -/
def oOwnEq (tab : List (Str × Fn)) : O2 := fun x y m => noX (oOwn tab x y m)
def own1 (tab : List (Str × Fn)) (k : W → Mem → R W) : ON := fun ws m => noX (match ws with
  | [w] => (match insOf w m with
    | some (c, _, _) => (match tab.lookup c with
      | some g => (g [w] m).bind k
      | none => .bad)
    | none => .bad)
  | _ => .bad)
def oLenO (tab : List (Str × Fn)) : ON := own1 tab fun x m => match x with
  | .d (.int n) => if 0 ≤ n ∧ n < 2 ^ 63 then .ok (.d (.int n)) m else .bad
  | _ => .bad
def oStrO (tab : List (Str × Fn)) : ON := own1 tab fun x m => match x with
  | .d (.str n) => .ok (.d (.str n)) m
  | _ => .bad
structure OwnOk (P : Program) (w : World) (K : PySem.W.Frag) (mg : Str → Option Value) (base : Heap) (c nm : Str) (k : Nat) (g : Fn) : Prop where
  ex : ∃ C f, mg c = some (.ref C) ∧ PySem.W.selfFirst K C = true ∧ PySem.W.findIn K (.ref C) nm = some (some (.ref f)) ∧ PySem.W.isFn K (.ref f) = true ∧ PySem.W.fnIn K f = true ∧ FnR P w K mg base (L2.CX P w) k f (spN K mg g)
structure CMethOk (P : Program) (w : World) (K : PySem.W.Frag) (mg : Str → Option Value) (base : Heap) (c nm : Str) (k : Nat) (g : Fn) : Prop where
  ex : ∃ C mc p f, mg c = some (.ref C) ∧ ClX.CRead K C mc ∧ ClX.CMet K C mc nm p f ∧ FnR P w K mg base (L2.CX P w) k f (spN K mg g)
structure SMethOk (P : Program) (w : World) (K : PySem.W.Frag) (mg : Str → Option Value) (base : Heap) (c nm : Str) (k : Nat) (g : Fn) : Prop where
  ex : ∃ C mc p f rest, mg c = some (.ref C) ∧ ClX.CRead K C mc ∧ PySem.W.findCls K (.ref C) mc nm = some (.get (.builtin "staticmethod.__get__") (.ref p) .none (.ref C)) ∧ PySem.W.recIn K p "staticmethod" = some (.ref f :: rest) ∧
    PySem.W.keepIn K (.ref f) = true ∧ FnR P w K mg base (L2.CX P w) k f (spN K mg g)
theorem relV_ni {v : V} (h : RelV v .notImplemented) : False := by
  cases v with
  | int i => obtain ⟨t, h⟩ := h; cases h
  | str i => obtain ⟨t, h⟩ := h; cases h
  | byt i => obtain ⟨t, h⟩ := h; cases h
  | flt i => obtain ⟨t, h⟩ := h; cases h
  | _ => cases (show Value.notImplemented = _ from h)
section
variable {X : Cx} {Wx : WX} {kk j : Nat}
theorem cmpBack {pins : List (Addr × Obj)} {σ : L2.St} {Q : VK} {u : Value} {s' : Shared} (h : EP X pins σ Q u s') : PySem.W.CmpBack (EP X pins σ Q) u s' := by
  obtain ⟨v, H', I', r, q⟩ := h
  cases u <;> first | exact ⟨v, H', I', r, q⟩ | exact (relV_ni r).elim
/-- a call of which no error leaves, in some surroundings -/
theorem run_noX {A : Around} {f : Addr} {g : Fn} {pins : List (Addr × Obj)} {σ : L2.St} {H : Hp} {s : Shared} {Q : VK} {us : List Value} {vs : List V} {E' : Value → Shared → Prop} (F : FnR X.prog X.w X.K X.mg X.base (L2.CX X.prog X.w) j f (spN X.K X.mg g)) (hr : Room j A)
    (e0 : Env0 X.prog X.w X.K X.mg X.base A X.stack s H) (I : Inv X pins σ H s) (r : Vals vs us) (h : spN X.K X.mg g vs H Q (fun _ _ _ => False)) : wpAny (model X.prog X.w) A (call (.ref f) us) (EP X pins σ Q) E' s := by
  refine wpAny_call (codeAny_mono (F A X.stack s H us vs Q _ hr e0 r h) fun r s' hq => ?_)
  cases r with
  | error er => obtain ⟨_, _, _, _, _, _, _, _, _, _, _, _, z⟩ := hq; exact z.elim
  | ok fl =>
    cases fl with
    | ret y => exact I.after hq
    | next => exact False.elim hq
    | brk => exact False.elim hq
    | cont => exact False.elim hq
theorem inst_at {pins : List (Addr × Obj)} {σ : L2.St} {H : Hp} {s : Shared} {a C dx : Addr} {fs : List (Str × V)} (I : Inv X pins σ H s) (h : H a = some (.ins C dx fs)) : ∃ ox od, PySem.W.InstAt s.heap a ox C od ∧ ox.data = .plain := by
  obtain ⟨mA, O, _⟩ := ins_get I.hok h
  obtain ⟨od, J, _⟩ := O.look
  exact ⟨_, _, J, rfl⟩
variable {e o : Expr} {es : List Expr} {nm x : Str} {pos apos p : Pos} {fa fb fo : Ev} {a : EvL}
/-- what is asked of a pair of values by an operation from which no error leaves -/
def rW2 (K : PySem.W.Frag) (mg : Str → Option Value) (o : O2) : R2 := fun x y H Q => ∃ Hi ι m a b, Mok K mg Hi ι m H ∧ RepW K mg Hi ι x a ∧ RepW K mg Hi ι y b ∧ Good K mg (RepW K mg) (fun _ _ _ _ => False) [] Hi ι H (o a b m) Q
def rWN (K : PySem.W.Frag) (mg : Str → Option Value) (o : ON) : List V → Hp → VK → Prop := fun xs H Q => ∃ Hi ι m as, Mok K mg Hi ι m H ∧ RepWs K mg Hi ι xs as ∧ Good K mg (RepW K mg) (fun _ _ _ _ => False) [] Hi ι H (o as m) Q
theorem good_noX {K : PySem.W.Frag} {mg : Str → Option Value} {Wy : WX} {σ τ : L2.St} {Hi H : Hp} {ι : List Addr} {r : R W} {Q : VK} (h : Good K mg (RepW K mg) Wx σ Hi ι H (noX r) Q) : Good K mg (RepW K mg) Wy τ Hi ι H (noX r) Q := by
  cases r with
  | ok a m => exact h
  | exc c ns vs m => exact h
  | bad => exact h
theorem s2_noX {K : PySem.W.Frag} {mg : Str → Option Value} {o : O2} : S2 K mg (rW2 K mg fun x y m => noX (o x y m)) (fun x y m => noX (o x y m)) := fun Wx σ Hi ι m H x y a b Q M rx ry g => ⟨Hi, ι, m, a, b, M, rx, ry, good_noX g⟩
/-- a op b, both instances of one class -/
theorem own_core {nm : Str} {tab : List (Str × Fn)} (T : AllT (fun c g => OwnOk X.prog X.w X.K X.mg X.base c nm j g) tab) {Hi H : Hp} {ι : List Addr} {m : Mem} {pins : List (Addr × Obj)} {σ : L2.St} {s : Shared} {x y : V} {v u : Value} {wa wb : W} {Q : VK} (I : Inv X pins σ H s) (rx : RelV x v) (ry : RelV y u)
    (M : Mok X.K X.mg Hi ι m H) (ra : RepW X.K X.mg Hi ι x wa) (rb : RepW X.K X.mg Hi ι y wb) (g : Good X.K X.mg (RepW X.K X.mg) Wx σ Hi ι H (oOwn tab wa wb m) Q) :
    ∃ (C f b1 b2 : Addr) (gm : Fn) (ox : Obj) (od : Option Obj) (ox' : Obj) (od' : Option Obj), v = .ref b1 ∧ u = .ref b2 ∧ x = .ref b1 ∧ y = .ref b2 ∧ PySem.W.InstAt s.heap b1 ox C od ∧ PySem.W.InstAt s.heap b2 ox' C od' ∧ PySem.W.selfFirst X.K C = true ∧ PySem.W.findIn X.K (.ref C) nm = some (some (.ref f)) ∧ PySem.W.isFn X.K (.ref f) = true ∧
      FnR X.prog X.w X.K X.mg X.base (L2.CX X.prog X.w) j f (spN X.K X.mg gm) ∧ Good X.K X.mg (RepW X.K X.mg) Wx σ Hi ι H (gm [wa, wb] m) Q := by
  unfold oOwn at g
  split at g
  case h_2 => exact g.elim
  rename_i c1 ns1 ds1 c2 ns2 ds2 h1 h2
  split at g
  case isFalse => exact g.elim
  rename_i hc
  subst hc
  split at g
  case h_2 => exact g.elim
  rename_i gm hm
  obtain ⟨b1, C1, dx1, vs1, e1, hg1, ha1, _, _⟩ := insOf_rep M ra h1
  obtain ⟨b2, C2, dx2, vs2, e2, hg2, ha2, _, _⟩ := insOf_rep M rb h2
  obtain ⟨C, f, hg, hsf, hfi, hisf, _, F⟩ := (T.get hm).ex
  rw [hg] at hg1 hg2
  cases hg1
  cases hg2
  subst e1 e2
  obtain ⟨ox, od, J1, _⟩ := inst_at I ha1
  obtain ⟨ox', od', J2, _⟩ := inst_at I ha2
  exact ⟨_, f, b1, b2, gm, ox, od, ox', od', rx, ry, rfl, rfl, J1, J2, hsf, hfi, hisf, F, g⟩
/-- a == b by the own __eq__ -/
theorem op_own {tab : List (Str × Fn)} (c : Cc X Wx kk) (T : AllT (fun c g => OwnOk X.prog X.w X.K X.mg X.base c "__eq__" j g) tab) (hj : j ≤ kk) : OpR X (compareOp .Eq) (rW2 X.K X.mg (oOwnEq tab)) := by
  intro pins s σ H x y v u Q I rx ry hq
  obtain ⟨Hi, ι, m, wa, wb, M, ra, rb, g⟩ := hq
  show wpAny (model X.prog X.w) X.A (richCompare .Eq v u) (EP X pins σ Q) X.xe s
  have g' : Good X.K X.mg (RepW X.K X.mg) (fun _ _ _ _ => False) σ Hi ι H (oOwn tab wa wb m) Q := by
    unfold oOwnEq at g
    cases e : oOwn tab wa wb m with
    | ok a m => rw [e] at g; exact g
    | exc c ns vs m => rw [e] at g; exact g.elim
    | bad => rw [e] at g; exact g
  obtain ⟨C, f, b1, b2, gm, ox, od, ox', od', rfl, rfl, rfl, rfl, J1, J2, hsf, hfi, hisf, F, g⟩ := own_core T I rx ry M ra rb g'
  obtain ⟨mm, hF⟩ := I.fr
  refine PySem.W.cmp_K (op := .Eq) (tb := .ref C) c.room.units0 hF I.ok.mod.kin J1 J2.type (by simp [PySem.W.notFirst]) hfi hisf ?_
  exact wpAny_mono (run_noX F (c.room.mono hj) I.env0 I (us := [.ref b1, .ref b2]) (vs := [.ref b1, .ref b2]) (.cons rfl (.cons rfl .nil)) ⟨Hi, ι, [wa, wb], m, M, .cons ra (.cons rb .nil), g⟩) (fun _ _ z => cmpBack z) fun _ _ z => z
theorem good_unX {K : PySem.W.Frag} {mg : Str → Option Value} {σ τ : L2.St} {Hi H : Hp} {ι : List Addr} {r : R W} {Q : VK} (h : Good K mg (RepW K mg) Wx σ Hi ι H (noX r) Q) : Good K mg (RepW K mg) (fun _ _ _ _ => False) τ Hi ι H r Q := by
  cases r with
  | ok a m => exact h
  | exc c ns vs m => exact h.elim
  | bad => exact h
theorem sN_own {K : PySem.W.Frag} {mg : Str → Option Value} {tab : List (Str × Fn)} {k : W → Mem → R W} : SN K mg (rWN K mg (own1 tab k)) (own1 tab k) := fun Wx σ Hi ι m H xs as Q M rx g => ⟨Hi, ι, m, as, M, rx, good_noX g⟩
/-- len(o) by the own __len__, str(o) by the own __str__ -/
theorem one_core {nm : Str} {tab : List (Str × Fn)} {k : W → Mem → R W} (T : AllT (fun c g => OwnOk X.prog X.w X.K X.mg X.base c nm j g) tab) {H : Hp} {pins : List (Addr × Obj)} {σ : L2.St} {s : Shared} {xs : List V} {us : List Value} {Q : VK} (I : Inv X pins σ H s) (rs : Vals xs us)
    (hq : rWN X.K X.mg (own1 tab k) xs H Q) :
    ∃ (C f b1 : Addr) (gm : Fn) (ox : Obj) (od : Option Obj), us = [.ref b1] ∧ PySem.W.InstAt s.heap b1 ox C od ∧ PySem.W.findIn X.K (.ref C) nm = some (some (.ref f)) ∧ PySem.W.isFn X.K (.ref f) = true ∧
      FnR X.prog X.w X.K X.mg X.base (L2.CX X.prog X.w) j f (spN X.K X.mg gm) ∧ spN X.K X.mg gm [.ref b1] H (fun y H' => ∃ Hi' ι' m' w', Mok X.K X.mg Hi' ι' m' H' ∧ RepW X.K X.mg Hi' ι' y w' ∧ Good X.K X.mg (RepW X.K X.mg) (fun _ _ _ _ => False) [] Hi' ι' H' (k w' m') Q) (fun _ _ _ => False) := by
  obtain ⟨Hi, ι, m, as, M, ra, g⟩ := hq
  have g := good_unX (τ := []) g
  cases ra with
  | nil => exact g.elim
  | cons r1 r2 =>
    cases r2 with
    | cons _ _ => exact g.elim
    | nil =>
      cases rs with
      | cons q1 q2 =>
        cases q2
        dsimp only at g
        split at g
        case h_2 => exact g.elim
        rename_i c1 ns1 ds1 h1
        split at g
        case h_2 => exact g.elim
        rename_i gm hm
        obtain ⟨b1, C1, dx1, vs1, e1, hg1, ha1, _, _⟩ := insOf_rep M r1 h1
        obtain ⟨C, f, hg, hsf, hfi, hisf, _, F⟩ := (T.get hm).ex
        rw [hg] at hg1
        cases hg1
        subst e1
        obtain rfl := q1
        obtain ⟨ox, od, J1, _⟩ := inst_at I ha1
        exact ⟨_, f, b1, gm, ox, od, rfl, J1, hfi, hisf, F, Hi, ι, _, m, M, .cons r1 .nil, good_bind g fun y m1 Hi1 ι1 v1 H1 st M1 rv g1 => ⟨Hi1, ι1, m1, y, M1, rv, g1⟩⟩
theorem cr_len {tab : List (Str × Fn)} (c : Cc X Wx kk) (T : AllT (fun c g => OwnOk X.prog X.w X.K X.mg X.base c "__len__" j g) tab) (hj : j + 1 ≤ kk) : CallR X (.builtin "len") (rWN X.K X.mg (oLenO tab)) := by
  intro pins s σ H xs us Q I rs hq
  obtain ⟨C, f, b1, gm, ox, od, rfl, J, hfi, hisf, F, hsp⟩ := one_core T I rs hq
  obtain ⟨mm, hF⟩ := I.fr
  refine PySem.W.len_K hF I.ok.mod.kin J hfi hisf ?_
  refine wpAny_mono (run_noX F (c.room.mono hj).in1 I.env0.in1 I (us := [.ref b1]) (vs := [.ref b1]) (.cons rfl .nil) hsp) (fun y s' z => ?_) fun _ _ z => z
  obtain ⟨v, H', I', rv, Hi', ι', m', w', M', rw', g'⟩ := z
  split at g'
  case h_2 => exact g'.elim
  rename_i n
  split at g'
  case isFalse => exact g'.elim
  rename_i hn
  cases rw'
  obtain ⟨t, rfl⟩ := rv
  exact ⟨hn, .int n, H', I'.tok _, ⟨_, rfl⟩, g'.here (rep := RepW X.K X.mg) M' (.int n)⟩
theorem cr_str {tab : List (Str × Fn)} (c : Cc X Wx kk) (T : AllT (fun c g => OwnOk X.prog X.w X.K X.mg X.base c "__str__" j g) tab) (hj : j + 2 ≤ kk) : CallR X (.type "str") (rWN X.K X.mg (oStrO tab)) := by
  intro pins s σ H xs us Q I rs hq
  obtain ⟨C, f, b1, gm, ox, od, rfl, J, hfi, hisf, F, hsp⟩ := one_core T I rs hq
  refine PySem.W.kso_call (c.room.mono hj).in1.in1.units0 I.kIn J hfi hisf ?_
  refine wpAny_mono (run_noX F (c.room.mono hj).in1.in1 I.env0.in1.in1 I (us := [.ref b1]) (vs := [.ref b1]) (.cons rfl .nil) hsp) (fun y s' z => ?_) fun _ _ z => z
  obtain ⟨v, H', I', rv, Hi', ι', m', w', M', rw', g'⟩ := z
  split at g'
  case h_2 => exact g'.elim
  rename_i n
  cases rw'
  obtain ⟨t, rfl⟩ := rv
  exact ⟨.str n, H', I', ⟨_, rfl⟩, g'.here (rep := RepW X.K X.mg) M' (.str n)⟩
end
end GD
/-! GE3: what the text says of classes; from there to the rules' premises. -/
namespace GD
open PySem PySem.Spec PyProof.Rows L2
section
variable {P : Program} {w : World} {K : PySem.W.Frag} {mg : Str → Option Value} {base : Heap} {c nm x qual : Str} {j k : Nat} {g : Fn} {st : Stmt}
theorem DefOk.mono (h : DefOk P w K mg base x j g) (hk : j ≤ k) : DefOk P w K mg base x k g := let ⟨f, F, h1, h2⟩ := h.ex; ⟨f, F.mono hk, h1, h2⟩
theorem MethOk.mono (h : MethOk P w K mg base c nm j g) (hk : j ≤ k) : MethOk P w K mg base c nm k g := let ⟨C, f, h1, h2, h3, F⟩ := h.ex; ⟨C, f, h1, h2, h3, F.mono hk⟩
theorem PropOk.mono (h : PropOk P w K mg base c nm j g) (hk : j ≤ k) : PropOk P w K mg base c nm k g := let ⟨C, p, f, h1, h2, h3, F⟩ := h.ex; ⟨C, p, f, h1, h2, h3, F.mono hk⟩
theorem OwnOk.mono (h : OwnOk P w K mg base c nm j g) (hk : j ≤ k) : OwnOk P w K mg base c nm k g := let ⟨C, f, h1, h2, h3, h4, h5, F⟩ := h.ex; ⟨C, f, h1, h2, h3, h4, h5, F.mono hk⟩
theorem CMethOk.mono (h : CMethOk P w K mg base c nm j g) (hk : j ≤ k) : CMethOk P w K mg base c nm k g := let ⟨C, mc, p, f, h1, h2, h3, F⟩ := h.ex; ⟨C, mc, p, f, h1, h2, h3, F.mono hk⟩
theorem SMethOk.mono (h : SMethOk P w K mg base c nm j g) (hk : j ≤ k) : SMethOk P w K mg base c nm k g := let ⟨C, mc, p, f, r, h1, h2, h3, h4, h5, F⟩ := h.ex; ⟨C, mc, p, f, r, h1, h2, h3, h4, h5, F.mono hk⟩
/-- what is so for each function of this def -/
def DefIs (P : Program) (w : World) (K : PySem.W.Frag) (mg : Str → Option Value) (base : Heap) (x qual : Str) (st : Stmt) (k : Nat) (g : Fn) : Prop := ∀ (f : Addr) (fd : FuncData), Fun K x qual st f fd → FnR P w K mg base (L2.CX P w) k f (spN K mg g)
structure MethAt (K : PySem.W.Frag) (mg : Str → Option Value) (c nm x qual : Str) (st : Stmt) : Prop where
  ex : ∃ C f fd, mg c = some (.ref C) ∧ Cls K C ∧ Meth K C nm f ∧ Fun K x qual st f fd
structure PropAt (K : PySem.W.Frag) (mg : Str → Option Value) (c nm x qual : Str) (st : Stmt) : Prop where
  ex : ∃ C p f fd, mg c = some (.ref C) ∧ Cls K C ∧ PropOf K C nm p f ∧ Fun K x qual st f fd
structure OwnAt (K : PySem.W.Frag) (mg : Str → Option Value) (c nm x qual : Str) (st : Stmt) : Prop where
  ex : ∃ C f fd, mg c = some (.ref C) ∧ PySem.W.selfFirst K C = true ∧ PySem.W.findIn K (.ref C) nm = some (some (.ref f)) ∧ PySem.W.isFn K (.ref f) = true ∧ PySem.W.fnIn K f = true ∧ Fun K x qual st f fd
structure CMethAt (K : PySem.W.Frag) (mg : Str → Option Value) (c nm x qual : Str) (st : Stmt) : Prop where
  ex : ∃ C mc p f fd, mg c = some (.ref C) ∧ ClX.CRead K C mc ∧ ClX.CMet K C mc nm p f ∧ Fun K x qual st f fd
structure SMethAt (K : PySem.W.Frag) (mg : Str → Option Value) (c nm x qual : Str) (st : Stmt) : Prop where
  ex : ∃ C mc p f rest fd, mg c = some (.ref C) ∧ ClX.CRead K C mc ∧ PySem.W.findCls K (.ref C) mc nm = some (.get (.builtin "staticmethod.__get__") (.ref p) .none (.ref C)) ∧ PySem.W.recIn K p "staticmethod" = some (.ref f :: rest) ∧ Fun K x qual st f fd
structure NewAt (K : PySem.W.Frag) (mg : Str → Option Value) (c x qual : Str) (st : Stmt) : Prop where
  ex : ∃ C f fd, mg c = some (.ref C) ∧ Mk K C f ∧ Fun K x qual st f fd
theorem MethAt.ok (T : MethAt K mg c nm x qual st) (D : DefIs P w K mg base x qual st k g) : MethOk P w K mg base c nm k g := let ⟨C, f, fd, h1, h2, h3, F⟩ := T.ex; ⟨C, f, h1, h2, h3, D f fd F⟩
theorem PropAt.ok (T : PropAt K mg c nm x qual st) (D : DefIs P w K mg base x qual st k g) : PropOk P w K mg base c nm k g := let ⟨C, p, f, fd, h1, h2, h3, F⟩ := T.ex; ⟨C, p, f, h1, h2, h3, D f fd F⟩
theorem OwnAt.ok (T : OwnAt K mg c nm x qual st) (D : DefIs P w K mg base x qual st k g) : OwnOk P w K mg base c nm k g := let ⟨C, f, fd, h1, h2, h3, h4, h5, F⟩ := T.ex; ⟨C, f, h1, h2, h3, h4, h5, D f fd F⟩
theorem CMethAt.ok (T : CMethAt K mg c nm x qual st) (D : DefIs P w K mg base x qual st k g) : CMethOk P w K mg base c nm k g := let ⟨C, mc, p, f, fd, h1, h2, h3, F⟩ := T.ex; ⟨C, mc, p, f, h1, h2, h3, D f fd F⟩
theorem SMethAt.ok (T : SMethAt K mg c nm x qual st) (D : DefIs P w K mg base x qual st k g) : SMethOk P w K mg base c nm k g := let ⟨C, mc, p, f, r, fd, h1, h2, h3, h4, F⟩ := T.ex; ⟨C, mc, p, f, r, h1, h2, h3, h4, F.kp, D f fd F⟩
theorem NewAt.ok (fz : Bool) (T : NewAt K mg c x qual st) (D : DefIs P w K mg base x qual st k g) : DefOk P w K mg base c (k + 1) (newO fz c g) := let ⟨C, f, fd, h1, h2, F⟩ := T.ex; new_def fz ⟨C, f, h1, h2, D f fd F⟩
theorem TopDef.ok (T : TopDef K mg x st) (D : DefIs P w K mg base x x st k g) : DefOk P w K mg base x k g := let ⟨f, fd, F, hm⟩ := T.ex; ⟨f, D f fd F, hm, F.kp⟩
theorem MethAt.own (T : MethAt K mg c nm x qual st) (hs : ∀ C, mg c = some (.ref C) → PySem.W.selfFirst K C = true) (hn : ∀ f fd, Fun K x qual st f fd → PySem.W.fnIn K f = true) : OwnAt K mg c nm x qual st := let ⟨C, f, fd, h1, h2, h3, F⟩ := T.ex; ⟨C, f, fd, h1, hs C h1, h3.at_, h3.fn, hn f fd F, F⟩
end
end GD
/-! GE4: name op= e; a class as a value. -/
namespace GD
open PySem PySem.Spec PyProof.Rows L2
/-- name op= e -/
def sAug (i : Nat) (o : O2) (a : Ev) : Ex := fun ρ m => match ρ[i]? with
  | some (some w) => (a ρ m).lift ρ fun y m => (noX (o w y m)).lift ρ fun z m => .nx (ρ.set i (some z)) m
  | _ => .bad
def oIAdd : O2 := fun a b m => match a, b with
  | .d (.int i), .d (.int j) => .ok (.d (.int (i + j))) m
  | _, _ => .bad
def oISub : O2 := fun a b m => match a, b with
  | .d (.int i), .d (.int j) => .ok (.d (.int (i - j))) m
  | _, _ => .bad
section
variable {X : Cx} {Wx : WX} {kk j : Nat}
/-- a class of the text -/
structure ClsAt (K : PySem.W.Frag) (mg : Str → Option Value) (c : Str) : Prop where
  ex : ∃ C, mg c = some (.ref C)
theorem pd_glc {x : Str} {pos : Pos} (T : ClsAt X.K X.mg x) (hg : Gl X x) (hdb : (x == ("__debug__" : Str)) = false := by decide) : PE X (.Name x pos) (tD X.K X.mg Wx (fC (.gl x))) := by
  obtain ⟨C, h1⟩ := T.ex
  exact pd_c (v := .ref C) (pe_glob hg h1 rfl hdb) fun _ => .gl h1 rfl
end
end GD
/-! GE5: tuple(x), sorted(x), x.reverse(), list(range(..)), divmod. -/
namespace GD
open PySem PySem.Spec PyProof.Rows L2
/-- tuple(x) -/
def oTuple : ON := fun ws m => match ws with
  | [.d (.tup xs)] => .ok (.d (.tup xs)) m
  | [w] => match lstOf w m with
    | some xs => .ok (.d (.tup xs)) m
    | none => .bad
  | _ => .bad
theorem s_tuple {K : PySem.W.Frag} {mg : Str → Option Value} : SN K mg (fun xs H Q => ∃ p ys, xs = [.ref p] ∧ ((SqL K H p ys ∧ ∀ l, H l = none → Q (.ref l) (upd H l (.tup ys))) ∨ (SqT K H p ys ∧ Q (.ref p) H))) oTuple := by
  intro Wx σ Hi ι m H xs ws Q M rs g
  unfold oTuple at g
  split at g
  · cases rs with
    | cons r1 r2 =>
      cases r2
      have r1' := r1
      cases r1 with
      | tup s r => exact ⟨_, _, rfl, .inr ⟨sqT_mono M.sub s, g.here (rep := RepW K mg) M r1'⟩⟩
  · split at g
    · rename_i e
      cases rs with
      | cons r1 r2 =>
        cases r2
        obtain ⟨a, vs, rfl, q, r⟩ := lstOf_rep M e r1
        refine ⟨_, _, rfl, .inl ⟨.inl (.inl q), fun l hl => ?_⟩⟩
        obtain ⟨M2, st2⟩ := M.newD (o := .tup vs) hl
        exact g _ _ _ _ st2 M2 (.tup (.inl (.inl upd_same)) (r.mono st2.imm))
    · exact g.elim
  · exact g.elim
/-! ### sorted -/
def dPy (d : D) : PyData := d.py.getD .none
/-- what can be sorted -/
structure SortOk (xs : List D) : Prop where
  py : ∀ d ∈ xs, ∃ p, d.py = some p
  al : PySem.W.AllAlike (xs.map dPy)
  so : PySem.W.Sortable (xs.map dPy)
  dp : ∀ d ∈ xs, (dPy d).depth ≤ 32
  le : xs.length ≤ 100000
noncomputable instance (xs : List D) : Decidable (SortOk xs) := Classical.propDecidable _
noncomputable def sortD (xs : List D) : List D := xs.mergeSort (PySem.W.dataLe false dPy)
noncomputable def oSorted : ON := fun ws m => match ws with
  | [w] => match lstOf w m with
    | some xs => if SortOk xs then .ok (.d (.lst (sortD xs))) m else .bad
    | none => .bad
  | _ => .bad
def rSortD (K : PySem.W.Frag) (mg : Str → Option Value) : List V → Hp → VK → Prop := fun vs H Q => ∃ a xs Hi ds, vs = [V.ref a] ∧ SqL K H a xs ∧ Same Hi H ∧ RepL K mg Hi xs ds ∧ SortOk ds ∧ ∀ ys p, RepL K mg Hi ys (sortD ds) → H p = none → Q (.ref p) (upd H p (.lst ys))
section
variable {X : Cx} {Wx : WX} {kk : Nat}
theorem each_rep {K : PySem.W.Frag} {mg : Str → Option Value} {Hi : Hp} : ∀ {xs : List V} {us : List Value} {ds : List D}, Vals xs us → RepL K mg Hi xs ds → PySem.W.EachIs (fun u d => ∃ x, RelV x u ∧ Rep K mg Hi x d) us ds
  | _, _, _, .nil, .nil => .nil
  | _, _, _, .cons a b, .cons c d => .cons ⟨_, a, c⟩ (each_rep b d)
theorem each_back {K : PySem.W.Frag} {mg : Str → Option Value} {Hi : Hp} : ∀ {us : List Value} {ds : List D}, PySem.W.EachIs (fun u d => ∃ x, RelV x u ∧ Rep K mg Hi x d) us ds → ∃ xs, Vals xs us ∧ RepL K mg Hi xs ds
  | _, _, .nil => ⟨[], .nil, .nil⟩
  | _, _, .cons ⟨x, a, c⟩ t => by
    obtain ⟨xs, h1, h2⟩ := each_back t
    exact ⟨x :: xs, .cons a h1, .cons c h2⟩
theorem each_read {K : PySem.W.Frag} {mg : Str → Option Value} {Hi : Hp} {β : D → Value → Prop} : ∀ {us : List Value} {ds : List D}, PySem.W.EachIs (fun u d => ∃ x, RelV x u ∧ Rep K mg Hi x d) us ds → (∀ d ∈ ds, ∀ u x, RelV x u → Rep K mg Hi x d → β d u) → PySem.W.EachIs (fun u d => β d u) us ds
  | _, _, .nil, _ => .nil
  | _, _, .cons ⟨x, a, c⟩ t, h => .cons (h _ (List.mem_cons_self ..) _ x a c) (each_read t fun d hd => h d (List.mem_cons_of_mem _ hd))
theorem cr_sortD (c : Cc X Wx kk) : CallR X (.builtin "sorted") (rSortD X.K X.mg) := by
  intro pins s σ H vs us Q I r h
  obtain ⟨a, xs, Hi, ds, rfl, hs, sm, rl, so, q⟩ := h
  obtain ⟨its, rv, hl, hz⟩ := I.list hs
  cases r with
  | cons ra rb =>
    cases rb
    obtain rfl := ra
    have e := each_rep rv rl
    refine PySem.W.sorted_data (bs := ds) (enc := dPy) (R := fun u d => ∃ x, RelV x u ∧ Rep X.K X.mg Hi x d) hl.isList e (each_read e fun d hd u x rx rd => ?_) so.al so.so (by rw [← rl.length]; exact hz) (fun b hb => ?_) fun out ho eo => ?_
    · obtain ⟨p, hp⟩ := so.py d hd
      have ep : dPy d = p := by unfold dPy; rw [hp] <;> rfl
      rw [ep]
      exact Dp.reads I p x u ((rd.mono sm).dp hp) rx
    · have h1 := so.dp b hb
      have h2 := c.room.units
      omega
    · obtain ⟨ys, r1, r2⟩ := each_back eo
      obtain ⟨c', hc'⟩ := sortedAll_at s.heap its out.toArray
      refine ⟨.ref (s.heap.objs.size + 1), upd H (s.heap.objs.size + 1) (.lst ys), I.laid (t' := s.toks) (fun _ _ => sortedAll_old) (Nat.le_succ _) (show ObjOk X.prog X.w _ _ _ (.lst ys) from ⟨?_, out, c', r1, hc'⟩), rfl, q ys _ r2 (I.hok.fresh (Nat.le_succ _))⟩
      rw [r1.length, ho, ← rl.length]
      exact hz
theorem s_sorted {K : PySem.W.Frag} {mg : Str → Option Value} : SN K mg (rSortD K mg) oSorted := by
  intro Wx σ Hi ι m H xs ws Q M rs g
  unfold oSorted at g
  split at g
  case h_2 => exact g.elim
  split at g
  case h_2 => exact g.elim
  rename_i e
  split at g
  case isFalse => exact g.elim
  rename_i so
  cases rs with
  | cons r1 r2 =>
    cases r2
    obtain ⟨a, vs, rfl, q, r⟩ := lstOf_rep M e r1
    refine ⟨_, vs, Hi, _, rfl, .inl (.inl q), M.sub, r, so, fun ys p hy hp => ?_⟩
    obtain ⟨M2, st2⟩ := M.newD (o := .lst ys) hp
    exact g _ _ _ _ st2 M2 (.lst upd_same (hy.mono st2.imm))
/-! ### x.reverse() -/
/-! ### list(range(..)) -/
end
end GD
/-! GE6: enumerate of lists, tuples, texts; isinstance of own classes. -/
namespace GD
open PySem PySem.Spec PyProof.Rows L2
/-- the number and the item -/
def ItE (K : PySem.W.Frag) (S : ZS) (xs : List V) : It :=
  ⟨fun i H => ZHas K H S xs ∧ i < xs.length, fun i H v H' => ∃ T x, v = .ref T ∧ H T = none ∧ H' = upd H T (.tup [.int (i : Nat), x]) ∧ xs[i]? = some x, fun i H => ZHas K H S xs ∧ xs.length ≤ i⟩
theorem turn_E {P : Program} {w : World} {K : PySem.W.Frag} {elts : List Expr} {kk : Nat} {tpos : Pos} {e it : Addr} {S : ZS} {xs : List V} {tk0 : Tok} (hne : e ≠ it) (ap : ∀ b ∈ [e, it], ZAp b S) :
    Turn P w K (.Tuple elts kk tpos) (ItE K S xs) [e, it] e (fun i h => i ≤ xs.length ∧ (∃ old, IsEnum h e it ((i : Nat) : Int) old) ∧ ZIt tk0 S it i h) where
  mem := by simp
  obj := fun i h st b hb => by
    obtain ⟨_, ⟨old, he⟩, hi⟩ := st
    have q : b = e ∨ b = it := by simpa using hb
    rcases q with z | z
    · rw [z]; exact ⟨_, he, fun v q => nomatch q⟩
    · rw [z]; exact hi.obj
  keep := fun i h h' st k => by
    obtain ⟨hl, ⟨old, he⟩, hi⟩ := st
    exact ⟨hl, ⟨old, k e (by simp) _ he⟩, hi.at fun o q => k it (by simp) o q⟩
  item := by
    intro X hP hw hK hc i pins s σ H E I hf st hg
    subst hP hw hK
    obtain ⟨hl, ⟨old, he⟩, hi⟩ := st
    obtain ⟨hx, l1⟩ := hg
    obtain ⟨fp, P1, St1, D, d1, m1, n1, v1, z1⟩ := z_draws I hc hx hi (ap it (by simp))
    have hef : e ∉ fp := n1 e hne (ap e (by simp))
    have hel : e < s.heap.objs.size := Heap.lt_size he
    refine wpAny_pyNext_enum_itemC D he d1 l1 hne hef fun u h' tk p1 ho st' hT hsz hk => ?_
    obtain ⟨x, ex, rx⟩ := v1 i u p1
    refine ⟨_, rfl, wpAny_letOwnedTupleGo_enum (s := { s with heap := h', toks := tk + 1 }) ho fun h'' he' sb => ?_⟩
    have hT2 : h''.get? s.heap.objs.size = some { cls := .type "tuple", data := .seq #[.int ((i : Nat) : Int) tk, u] } := (sb.2 _ (Nat.ne_of_gt hel)).trans hT
    have new : ObjOk X.prog X.w (upd H s.heap.objs.size (.tup [.int (i : Nat), x])) h'' s.heap.objs.size (.tup [.int (i : Nat), x]) :=
      ⟨by show 2 ≤ sizeLine; decide, [.int ((i : Nat) : Int) tk, u], .cons ⟨tk, rfl⟩ (.cons rx .nil), ⟨_, hT2, rfl, _, rfl⟩⟩
    have I1 : Inv X pins σ (upd H s.heap.objs.size (.tup [.int (i : Nat), x])) { s with heap := h'', toks := tk + 1 } :=
      I.turnedNew (t' := tk + 1) (ch := [e, it]) (fun c o hb q => (sb.2 c (fun q' => hb (by simp [q']))).trans (hk c o (fun q' => hb (by simp [q'])) (fun q' => hb (by simp [q'])) q)) hf (Nat.le_refl _) new
    refine ⟨.ref s.heap.objs.size, _, I1, rfl, ⟨_, x, rfl, I.hok.fresh (Nat.le_refl _), rfl, ex⟩, ⟨l1, ⟨u, ?_⟩, ?_⟩, fun c hcm => ?_⟩
    · have e1 : ((i + 1 : Nat) : Int) = ((i : Nat) : Int) + 1 := by omega
      rw [e1]
      exact he'
    · exact (z1 _ _ st').at fun o q => (sb.2 _ (Ne.symm hne)).trans q
    · have hlt : c < s.heap.objs.size := by
        have q : c = e ∨ c = it := by simpa using hcm
        rcases q with q | q
        · rw [q]; exact hel
        · rw [q]; obtain ⟨_, e1, _⟩ := hi.obj; exact Heap.lt_size e1
      rw [upd_ne (Nat.ne_of_lt hlt)]
      exact (hf c hcm).1
  done := by
    intro X hP hw hK hc i pins s σ H E I hf st hg
    subst hP hw hK
    obtain ⟨hl, ⟨old, he⟩, hi⟩ := st
    obtain ⟨hx, hend⟩ := hg
    obtain ⟨fp, P1, St1, D, d1, m1, n1, v1, z1⟩ := z_draws I hc hx hi (ap it (by simp))
    have ei : i = xs.length := by omega
    rw [ei] at d1
    exact wpAny_pyNext_enum_endD D he d1 fun h' hk => ⟨rfl, I.turnedL (t' := s.toks) (ch := [e, it]) (fun c o hb q => hk c o (fun q' => hb (by simp [q'])) q) hf⟩
  self := fun A i s Q E st h => by
    obtain ⟨_, ⟨old, he⟩, _⟩ := st
    exact wpAny_pyIter_enum he h
set_option maxHeartbeats 2000000 in
theorem meets_enum1 {v : Value} {o : Obj} {H : Heap → Prop} (B : Begins v o H) :
    Meets (Builtin.«enumerate.__new__» ⟨[.type "enumerate", v], []⟩) (fun _ R s => H s.heap ∧
      R (.ok (.ret (.ref (s.heap.push o).objs.size))) { s with heap := (s.heap.push o).push { cls := .type "enumerate", data := .fields #[.none, .bool false, .ref s.heap.objs.size, rawInt 0, .none, .none] } }) :=
  .of_wp fun prog w A R s hh => by
    obtain ⟨hp, gg, dd, kt, os⟩ := s
    obtain ⟨h1, hR⟩ := hh
    have hsub := sub_enumerate
    have q1 : ∀ {A' : Around} {E' : Value → Shared → Prop} {Q' : Value → Shared → Prop}, Q' (.ref hp.objs.size) ⟨hp.push o, gg, dd, kt, os⟩ → wpAny (model prog w) A' (pyIter v) Q' E' ⟨hp, gg, dd, kt, os⟩ := fun q => B.iter prog w _ _ ⟨hp, gg, dd, kt, os⟩ _ h1 q
    wp_walk using q1
    refine wpAny_stack_any fun stk => wpAny_pure ?_
    split
    · rename_i cc _ _ _ _ _
      cases (cc == Value.type "enumerate") <;> (wp_walk using q1; exact ⟨_, rfl, hR⟩)
    · wp_walk using q1
      exact ⟨_, rfl, hR⟩
theorem enum1_begins {prog : Program} {w : World} {A : Around} {E : Value → Shared → Prop} {s : Shared} {v : Value} {o : Obj} {H : Heap → Prop} {Q : Value → Shared → Prop} (B : Begins v o H) (h1 : H s.heap)
    (hq : ∀ h', IsEnum h' (s.heap.objs.size + 1) s.heap.objs.size 0 .none → h'.get? s.heap.objs.size = some o → (∀ b o, s.heap.get? b = some o → h'.get? b = some o) → Q (.ref (s.heap.objs.size + 1)) { s with heap := h' }) :
    wpAny (model prog w) A (call (.type "enumerate") [v]) Q E s := by
  refine callType_new F.called_enumerate (by decide) (F.typeCall_enumerate_1 _) (F.newCall_enumerate_1 _) (fun obj => F.args_object_init_2 obj _) F.entry_enumerate_new (meets_enum1 B) ⟨h1, ?_⟩
  have hz : (s.heap.push o).objs.size = s.heap.objs.size + 1 := Heap.size_push ..
  show _ ∧ _
  rw [hz]
  have z := Heap.get?_push_size (s.heap.push o) (o := { cls := .type "enumerate", data := .fields #[.none, .bool false, .ref s.heap.objs.size, rawInt 0, .none, .none] }) rfl
  rw [hz] at z
  exact ⟨⟨_, z, rfl⟩, hq _ z (Heap.get?_push_of_some _ (Heap.get?_push_size _ B.free)) fun b u x => Heap.get?_push_of_some _ (Heap.get?_push_of_some _ x)⟩
def iEnZ (K : PySem.W.Frag) (ta : TA) : TI := fun σ H R => ta σ H fun vs H1 => ∃ S xs, vs = [ZV S] ∧ ZHas K H1 S xs ∧ R (ItE K S xs) H1
theorem pi_enumZ {X : Cx} {e : Expr} {ta : TA} {p pos tpos : Pos} {elts : List Expr} {kk : Nat} (hg : Gl X "enumerate") (hm : X.mg "enumerate" = none) (ha : PA X [e] ta) (hs : starEach [e] X.env = [(false, eval e X.env)] := by rfl) :
    PI X (.Tuple elts kk tpos) (.Call (.Name "enumerate" p) [e] [] pos) (iEnZ X.K ta) := by
  refine ⟨fun pins s σ H R I h => ?_⟩
  refine Call_ (ld_blt I hg hm boot_enumerate (PyProof.Rows.callWith_type1 (thn (ha.run pos pins s σ H _ I h) fun us s1 ⟨vs, H1, I1, r1, q1⟩ => ?_) hs rfl))
  obtain ⟨S, xs, ex, hx, q⟩ := q1
  subst ex
  cases r1 with
  | cons r rr =>
    cases rr
    obtain ⟨o1, B1, t1, b1, c1, d1, e1⟩ := z_begins I1 hx r
    refine enum1_begins b1 c1 fun h' he hit hk => wpAny_pyIter_enum he ?_
    have I2 : Inv X pins σ H1 { s1 with heap := h' } := I1.kept (t' := s1.toks) hk
    have ap : ∀ b ∈ [s1.heap.objs.size + 1, s1.heap.objs.size], s1.heap.objs.size ≤ b := fun b hb => by
      have q : b = s1.heap.objs.size + 1 ∨ b = s1.heap.objs.size := by simpa using hb
      rcases q with z | z
      · rw [z]; exact Nat.le_add_right _ _
      · rw [z]; exact Nat.le_refl _
    exact ⟨s1.heap.objs.size + 1, [s1.heap.objs.size + 1, s1.heap.objs.size], _, _, H1, rfl, I2, turn_E (S := S) (xs := xs) (tk0 := t1) (Nat.succ_ne_self _) (fun b hb => e1 b (ap b hb)), ⟨Nat.zero_le _, ⟨.none, he⟩, d1 _ _ hit⟩, fun b hb => I1.fpOk (ap b hb) (I1.hok.fresh (ap b hb)), q⟩
/-- the mirror -/
def iEnumA (a : EvL) : EvL := fun ρ m => (a ρ m).bind fun ws m => match ws with
  | [.d x] => match itemsD x with
    | some xs => .ok (enumD 0 xs) m
    | _ => .bad
  | _ => .bad
theorem itOk_E {K : PySem.W.Frag} {mg : Str → Option Value} {Hi : Hp} {ι : List Addr} {S : ZS} {vs : List V} {xs : List D} (s1 : ∀ H', Same Hi H' → ZHas K H' S vs) (r1 : RepL K mg Hi vs xs) : ItOk K mg Hi ι (ItE K S vs) (enumD 0 xs) where
  go := fun i Hi1 ι1 m1 H1 sm _ M hi => by
    rw [enumD_len] at hi
    exact ⟨s1 _ (sm.trans M.sub), by rw [r1.length]; omega⟩
  stop := fun i Hi1 ι1 m1 H1 sm _ M hi => by
    rw [enumD_len] at hi
    exact ⟨s1 _ (sm.trans M.sub), by rw [r1.length]; omega⟩
  yld := fun i w Hi1 ι1 m1 H1 x H2 sm pr M hw hy => by
    obtain ⟨T, p, rfl, hT, rfl, z1⟩ := hy
    obtain ⟨d, e1, rfl⟩ := enumD_get hw
    obtain ⟨v, q1, q2⟩ := r1.get e1
    rw [z1] at q1
    cases q1
    rw [Nat.zero_add]
    exact M.pair hT (.int _) (q2.mono sm)
section
variable {X : Cx} {Wx : WX} {kk : Nat}
theorem pid_enumA {e : Expr} {p pos tpos : Pos} {elts : List Expr} {k1 : Nat} {f : EvL} (hg : Gl X "enumerate") (hm : X.mg "enumerate" = none) (ha : PA X [e] (tDA X.K X.mg Wx f)) (hs : starEach [e] X.env = [(false, eval e X.env)] := by rfl) :
    PI X (.Tuple elts k1 tpos) (.Call (.Name "enumerate" p) [e] [] pos) (tDI X.K X.mg Wx (iEnumA f)) := PI.imp (pi_enumZ hg hm ha hs) fun σ H Q t => by
  obtain ⟨Hi, ι, ρ, m, RR, gd⟩ := t
  refine ⟨Hi, ι, ρ, m, RR, good_bind gd fun ws m1 Hi1 ι1 vs H1 st M rv g1 => ?_⟩
  split at g1
  · split at g1
    · rename_i xs h1
      cases rv with
      | cons r1 r2 =>
        cases r2
        obtain ⟨S, us, rfl, s1, q1⟩ := items_rep h1 r1
        exact ⟨S, us, rfl, s1 _ M.sub, g1 _ _ _ _ Step.refl M (itOk_E s1 q1)⟩
    · exact g1.elim
  · exact g1.elim
/-! ### isinstance(x, C), C an own class -/
theorem gl_refC {K : PySem.W.Frag} {mg : Str → Option Value} {Hi : Hp} {v : V} {c : Str} {C : Addr} (r : Rep K mg Hi v (.gl c)) (h : mg c = some (.ref C)) : v = .ref C := by
  cases r with
  | gl q1 q2 =>
    rw [h] at q1
    cases q1
    cases v with
    | int i => obtain ⟨t, h⟩ := q2; cases h
    | str i => obtain ⟨t, h⟩ := q2; cases h
    | byt i => obtain ⟨t, h⟩ := q2; cases h
    | flt i => obtain ⟨t, h⟩ := q2; cases h
    | ref b => cases (show Value.ref C = Value.ref b from q2); rfl
    | _ => cases (show Value.ref C = _ from q2)
/-- plain things are no instances of the class -/
structure KitNo (K : PySem.W.Frag) (C : Addr) : Prop where
  non : PySem.W.kitOne K (.type "NoneType") (.ref C) = some false
  str : PySem.W.kitOne K (.type "str") (.ref C) = some false
  tup : PySem.W.kitOne K (.type "tuple") (.ref C) = some false
  lst : PySem.W.kitOne K (.type "list") (.ref C) = some false
structure IsiOk (K : PySem.W.Frag) (mg : Str → Option Value) (c : Str) : Prop where
  ex : ∃ C, mg c = some (.ref C) ∧ C8.InsC K C ∧ KitNo K C
/-- x an instance of the class itself, or a plain thing -/
def oIsiC (c : Str) : ON := fun ws m => match ws with
  | [x, .d (.gl c')] => match insOf x m with
    | some (c1, _, _) => if c1 = c ∧ c' = c then .ok (.d (.bl true)) m else .bad
    | none => if c' = c then (match x with
      | .d .non => .ok (.d (.bl false)) m
      | .d (.str _) => .ok (.d (.bl false)) m
      | .d (.tup _) => .ok (.d (.bl false)) m
      | .d (.lst _) => .ok (.d (.bl false)) m
      | _ => .bad) else .bad
  | _ => .bad
def PlainV (K : PySem.W.Frag) (H : Hp) (x : V) : Prop := x = .non ∨ (∃ z, x = .str z) ∨ (∃ a vs, x = .ref a ∧ SqT K H a vs) ∨ ∃ a vs, x = .ref a ∧ H a = some (.lst vs)
def rIsiC (K : PySem.W.Frag) (mg : Str → Option Value) (c : Str) : List V → Hp → VK → Prop := fun xs H Q => ∃ C, mg c = some (.ref C) ∧ ((∃ a dx fs, xs = [.ref a, .ref C] ∧ H a = some (.ins C dx fs) ∧ Q (.bl true) H) ∨ ∃ x, xs = [x, .ref C] ∧ PlainV K H x ∧ Q (.bl false) H)
theorem cr_isiC {c : Str} (T : IsiOk X.K X.mg c) : CallR X (.builtin "isinstance") (rIsiC X.K X.mg c) := by
  intro pins s σ H xs us Q I r h
  obtain ⟨C, hC, q, kn⟩ := T.ex
  obtain ⟨C', hC', h⟩ := h
  rw [hC] at hC'
  cases hC'
  rcases h with h | ⟨x, rfl, hx, hq⟩
  · exact C8.call_isC q pins s σ H xs us Q I r h
  · cases r with
    | cons ru r2 =>
      cases r2 with
      | cons rw' r3 =>
        cases r3
        cases rw'
        have fin : ∀ tk, EP X pins σ Q (.bool false) { s with toks := tk } := fun tk => ⟨.bl false, H, I.tok _, rfl, hq⟩
        rcases hx with rfl | ⟨z, rfl⟩ | ⟨a, vs, rfl, h1⟩ | ⟨a, vs, rfl, h1⟩
        · cases ru
          exact PySem.W.kia_one PySem.W.kitx_none I.kIn True.intro kn.non (fun z => nomatch z) fin
        · obtain ⟨t, rfl⟩ := ru
          exact PySem.W.kia_one PySem.W.kitx_str I.kIn True.intro kn.str (fun z => nomatch z) fin
        · cases ru
          obtain ⟨its, _, ⟨o, p1, p2, _⟩, _⟩ := I.tuple h1
          exact PySem.W.kia_one PySem.W.kitx_tuple I.kIn ⟨o, p1, p2⟩ kn.tup (fun z => nomatch z) fin
        · cases ru
          obtain ⟨_, its, n, _, p1⟩ := (show ObjOk X.prog X.w H s.heap a (.lst vs) from I.hok a _ h1)
          exact PySem.W.kia_one PySem.W.kitx_list I.kIn ⟨_, p1, rfl⟩ kn.lst (fun z => nomatch z) fin
theorem s_isiC {K : PySem.W.Frag} {mg : Str → Option Value} {c : Str} (T : IsiOk K mg c) : SN K mg (rIsiC K mg c) (oIsiC c) := by
  intro Wx σ Hi ι m H xs ws Q M rs g
  unfold oIsiC at g
  split at g
  case h_2 => exact g.elim
  split at g
  · rename_i c1 ns ds hi
    split at g
    case isFalse => exact g.elim
    rename_i hc
    obtain ⟨rfl, rfl⟩ := hc
    cases rs with
    | cons r1 r2 =>
      cases r2 with
      | cons r2 r3 =>
        cases r3
        obtain ⟨a, C, dx, vs, ev, hg, ha, _, _⟩ := insOf_rep M r1 hi
        subst ev
        have e := gl_refC r2 hg
        subst e
        exact ⟨C, hg, .inl ⟨a, dx, _, rfl, ha, g.here (rep := RepW K mg) M (.bl _)⟩⟩
  · split at g
    case isFalse => exact g.elim
    rename_i hc
    subst hc
    obtain ⟨C, hg, _⟩ := T.ex
    cases rs with
    | cons r1 r2 =>
      cases r2 with
      | cons r2 r3 =>
        cases r3
        have e := gl_refC r2 hg
        subst e
        split at g
        · cases r1
          exact ⟨C, hg, .inr ⟨_, rfl, .inl rfl, g.here (rep := RepW K mg) M (.bl _)⟩⟩
        · cases r1
          exact ⟨C, hg, .inr ⟨_, rfl, .inr (.inl ⟨_, rfl⟩), g.here (rep := RepW K mg) M (.bl _)⟩⟩
        · rename_i xs0 _
          have r0 : Rep K mg Hi _ (.tup xs0) := r1
          cases r0 with
          | tup q1 q2 =>
            exact ⟨C, hg, .inr ⟨_, rfl, .inr (.inr (.inl ⟨_, _, rfl, q1.elim (fun h => .inl (h.elim (fun h => .inl (M.sub _ _ h)) fun ⟨o, h⟩ => .inr ⟨o, M.sub _ _ h⟩)) fun h => .inr h⟩)), g.here (rep := RepW K mg) M (.bl _)⟩⟩
        · rename_i xs0 _
          have r0 : Rep K mg Hi _ (.lst xs0) := r1
          cases r0 with
          | lst q1 q2 =>
            exact ⟨C, hg, .inr ⟨_, rfl, .inr (.inr (.inr ⟨_, _, rfl, M.sub _ _ q1⟩)), g.here (rep := RepW K mg) M (.bl _)⟩⟩
        · exact g.elim
end
end GD
/-! GE7: methods called with keywords. -/
namespace GD
open PySem PySem.Spec PyProof.Rows L2
/-- o.nm(a.., k = b, ..), o of the class c -/
def fMethK (c nm : Str) (g : Fn) (pm : List W → List W → List W) (fo : Ev) (a b : EvL) : Ev := fun ρ m => (fo ρ m).bind fun w m => match insOf w m with
  | some (c', ns, _) => if c' = c ∧ nm ∉ ns then (a ρ m).bind fun ws m => (b ρ m).bind fun zs m => g (pm (w :: ws) zs) m else .bad
  | none => .bad
end GD
/-! GX0: the __init__ of an own error over ValueError: super().__init__(text), then its fields. -/
namespace GD
open PySem PySem.Spec PyProof.Rows L2 NdefX LamX
section
variable {X : Cx} {pins : List (Addr × Obj)} {σ : L2.St} {H : Hp} {s : Shared}
/-- the bound __init__ called -/
theorem mw_call {a C u : Addr} {us : List Value} {Q : Value → Shared → Prop} {E : Value → Shared → Prop} {A : Around} (T : OexC X.K C) (I : Inv X pins σ H s) (e : H a = some (exo a C none)) (hu : s.heap.get? u = some (PySem.W.kxs_mw "ValueError.__init__" a)) (hl : us.length ≤ sizeLine) (h : ∀ s', Inv X pins σ H s' → Q .none s') :
    wpAny (model X.prog X.w) A (call (.ref u) us) Q E s := by
  obtain ⟨nm, q, N, bs, bm, sn, sub, ab, col, dd, k0, k1, k2, k3, k5, hC, hbm⟩ := T.cls
  obtain ⟨t1, ho⟩ := exo_at I.hok e
  obtain ⟨hp, g, d, t, os⟩ := s
  refine wpAny_call (codeAny_of_tree ?_)
  show wpAny _ A.in1 (callAny (.ref u) ⟨us, []⟩) _ _ _
  simp only [callAny]
  refine wpAny_bind (wpAny_load hu ?_)
  simp only [PySem.W.kxs_mw, show (Value.type "method-wrapper" == Value.type "method" || Value.type "method-wrapper" == Value.type "builtin_function_or_method" || Value.type "method-wrapper" == Value.type "method-wrapper") = true by decide, if_true]
  refine PySem.W.KFB.if_so (by decide) ?_
  refine wpAny_bind (PySem.W.check_bound_init F.excBase_ValueError.toExcCallFacts (I.kIn _ _ hC) ho rfl ?_)
  refine wpAny_bind (wpAny_pure (wpAny_pure ?_))
  refine ⟨plainId_quiet F.excBase_ValueError.init.plain _, codeAny_builtin F.excBase_ValueError.initEntry ?_⟩
  refine PySem.W.exc_init_tree (cls := .ref C) (t0 := t1) (dv := none) (c2 := .none) (c3 := .none) (b4 := .bool false) ho hl fun h' k hx _ => ?_
  have J := I.write (t' := t) (x := a) (e := a) (o := exo a C none) (by rw [e]; exact True.intro) (.inl rfl) k ⟨_, hx⟩ (exo_ok hx)
  have eu : upd H a (exo a C none) = H := by
    funext b
    by_cases hb : b = a
    · rw [hb, upd_same, e]
    · rw [upd_ne hb]
  rw [eu] at J
  exact h _ J
/-- what the written part and the program say of an error's __init__ -/
structure SupF (P : Program) (K : PySem.W.Frag) (mg : Str → Option Value) (C f cda cc : Addr) (scope : Scope) (sv : Str) : Prop where
  fn : ∃ oc od fd osl ar, K.lookup f = some ⟨oc, od, .func fd, osl⟩ ∧ (fd.params.posonlyargs ++ fd.params.args).head? = some ar ∧ ar.arg = sv
  code : ∃ ccl cdd vs ccs file tf, K.lookup cda = some ⟨ccl, cdd, .fields vs, ccs⟩ ∧ vs[2]? = some (.str file tf) ∧ ((P.main.file : Str) == file) = true
  cell : ∃ cl cld csl, K.lookup cc = some ⟨cl, cld, .cell (some (.ref C)), csl⟩
  sup : mg "super" = none
  top : (P.main.scope.names.lookup ("super" : Str)).isSome = false
  ks : scope.names.lookup ("super" : Str) = some .globalImplicit
  kc : scope.names.lookup ("__class__" : Str) = some .free
  ka : scope.names.lookup sv = some .local
  kd : scope.kind = .function
  ss : PySem.W.ks_superIn K C C "__init__" = some (some (.builtin "ValueError.__init__"))
  sB : PySem.W.subIn K (.ref C) (.type "ValueError") = some true
  no : PySem.W.nsIn K cStatics "thirdparty.any" = some none
theorem super_init {a C f cda cc L : Addr} {q self : Str} {scope : Scope} {body : List Stmt} {e : Expr} {te : TE} {p0 p1 apos pos epos : Pos} {i : Nat} {pl : Sem Bool} {Q : Flow → Shared → Prop} (T : OexC X.K C) (F : SupF X.prog X.K X.mg C f cda cc scope self) (henv : X.env = PySem.W.envX q scope L f (.ref cda) [("__class__", cc)])
    (hN : X.N[i]? = some self) (hs : σ[i]? = some (some (.ref a))) (I : Inv X pins σ H s) (ha : H a = some (exo a C none)) (he : PE X e te) (h : te σ H fun v H1 => H1 a = some (exo a C none) ∧ ∀ s', Inv X pins σ H1 s' → Q .next s')
    (hsw : swapsWith (.Call (.Attribute (.Call (.Name "super" p0) [] [] p1) "__init__" apos) [e] [] pos) none epos.line X.env = pure false := by rfl) (hia : interactive X.env = false := by rfl)
    (hev : eval (.Call (.Attribute (.Call (.Name "super" p0) [] [] p1) "__init__" apos) [e] [] pos) X.env = (do
      let ov ← attributeBase (.Call (.Name "super" p0) [] [] p1) "__init__" X.env (eval (.Call (.Name "super" p0) [] [] p1) X.env)
      standAt apos.atName
      let (f, first) ← holding [ov] (getMethod ov "__init__" pl)
      callWith pos f first (backTo pos (starEach [e] X.env)) []) := by rfl)
    (hst : starEach [e] X.env = (false, eval e X.env) :: starEach [] X.env := by rfl) :
    PySem.wpAt (model X.prog X.w) X.A (.func body X.env) (exec (.Expr (.Call (.Attribute (.Call (.Name "super" p0) [] [] p1) "__init__" apos) [e] [] pos) epos) X.env) Q X.xe s := by
  obtain ⟨oc, od, fd, osl, ar, hf, hp, rfl⟩ := F.fn
  obtain ⟨ccl, cdd, vs, ccs, file, tf, hcode, hvs, hfile⟩ := F.code
  obtain ⟨cl, cld, csl, hcell⟩ := F.cell
  obtain ⟨nm, qn, N, bs, bm, sn, sub, ab, col, dd, k0, k1, k2, k3, k5, hC, hbm⟩ := T.cls
  have hcl : PySem.W.clsIn X.K C = some { name := nm, bases := bs, mro := .ref C :: bm, ns := N, qualname := qn, hasDict := true, slotNames := sn, subclasses := sub, abstract := ab, collection := col, hasDel := false } := by unfold PySem.W.clsIn; rw [hC] <;> rfl
  have hsub : PySem.W.mroIn X.K C (.ref C) = some true := by
    unfold PySem.W.mroIn
    rw [hcl, Option.bind_some, if_neg (show ¬ (List.isEmpty (Value.ref C :: bm) = true) from Bool.false_ne_true)]
    simp
  have KX := I.kIn
  refine PySem.ks_wpAt_Expr_any ?_ hia hsw
  refine PySem.ks_wpAt_MethodCall (pl := pl) ?_ hev
  obtain ⟨t1, ho⟩ := exo_at I.hok ha
  have hk1 : X.env.kindOf "super" = some .globalImplicit := by rw [henv]; exact F.ks
  have hk2 : X.env.kindOf "__class__" = some .free := by rw [henv]; exact F.kc
  have hk3 : X.env.kindOf ar.arg = some .local := by rw [henv]; exact F.ka
  refine PySem.ks_wpAt_super_base (f := f) (cc := cda) hk1 hk2 (by decide) (by rw [henv]) (KX _ _ hf) rfl hp (by rw [henv]) (KX _ _ hcode) rfl hvs hfile F.top ?_
  obtain ⟨mb, hb1, hb2⟩ := I.mod.blt
  refine PySem.W.ks_loadName_global I.ok.kind hk1 (Calls.loadGlobal_builtin (by rw [I.ok.glob]; exact I.mod.glob.keeps I.bk) F.sup (by rw [I.ok.blt]; exact hb1.keeps I.bk) ((hb2 "super" (by decide)).trans (by decide +kernel : bootBuiltins "super" = some (.type "super"))) ⟨rfl, ?_⟩)
  refine wpAny_loadName_free I.ok.kind hk2 (by rw [henv]; rfl) ⟨_, KX _ _ hcell, rfl⟩ ?_
  obtain ⟨m, hns, hl⟩ := I.loc
  obtain ⟨u, ru, hlk⟩ := hl i ar.arg (.ref a) hN hs (.inl hk3)
  obtain rfl : u = Value.ref a := ru
  have hmv : m ar.arg = some (.ref a) := by
    rcases hlk with ⟨_, z⟩ | ⟨z, _⟩
    · exact z
    · rw [hk3] at z
      rcases z with z | z <;> cases z
  refine wpAny_loadName_local I.ok.kind hk3 hns hmv ?_
  refine PySem.ks_wpAny_isType_cls (KX _ _ hC) rfl ⟨rfl, ?_⟩
  obtain ⟨hh, g, d, t, os⟩ := s
  refine PySem.ks_wpAny_call_super (KX _ _ hC) rfl ho rfl (fun c e => by cases e) (PySem.W.looks_mroIn KX hsub) (fun h1 hso k1 => ?_)
  have I1 : Inv X pins σ H ⟨h1, g, d, t, os⟩ := I.kept k1
  obtain ⟨t2, ho1⟩ := exo_at I1.hok ha
  have hne : a ≠ C := fun z => by
    subst z
    have q := I1.kIn _ _ hC
    rw [ho1] at q
    cases q
  have hss := F.ss
  unfold PySem.W.ks_superIn at hss
  rw [hcl] at hss
  have hty : PySem.W.Looks (model X.prog X.w) h1 (isInstance (.ref a) (.type "ValueError")) true := (PySem.W.InstAt.type (od := none) (⟨ho1, rfl, rfl, trivial⟩ : PySem.W.InstAt h1 a _ C none)).andThen (PySem.W.looks_subIn I1.kIn F.sB)
  refine PySem.W.kxs_getMethod PySem.W.kxs_ValueError hso (PySem.W.looks_opaque I1.kIn F.no) (l₀ := .ref C :: bm) (fun A Q E s k q => wpAny_bind ((PySem.W.looks_clsIn I1.kIn hcl) A _ E s k (wpAny_pure q))) rfl I1.kIn hss hty hne (by decide) ?_
  have I2 : Inv X pins σ H ⟨h1.push (PySem.W.kxs_mw "ValueError.__init__" a), g, d, t + 1, os⟩ := I1.kept fun b o e => Heap.get?_push_of_some _ e
  have hu : (h1.push (PySem.W.kxs_mw "ValueError.__init__" a)).get? h1.objs.size = some (PySem.W.kxs_mw "ValueError.__init__" a) := Heap.get?_push_size _ rfl
  have I3 : Inv X ((h1.objs.size, PySem.W.kxs_mw "ValueError.__init__" a) :: pins) σ H ⟨h1.push (PySem.W.kxs_mw "ValueError.__init__" a), g, d, t + 1, os⟩ := I2.pins_of fun p hp => by
    rcases List.mem_cons.mp hp with rfl | hp
    · refine ⟨hu, I1.hok.fresh (Nat.le_refl _), fun z => ?_, I1.nofs (Nat.le_refl _), fun v z => by cases z⟩
      have lt := I1.lt
      rw [← z] at lt
      exact Nat.lt_irrefl _ lt
    · exact I2.pin p (List.mem_append_right _ hp)
  show wpAny _ _ (callWith pos (.ref h1.objs.size) [] (backTo pos (starEach [e] X.env)) []) _ _ _
  rw [hst]
  refine PySem.W.kxs_callWith (i := "ValueError.__init__") (x := a) rfl ?_
  refine Calls.evalArgs_plain ?_
  show wpAny _ _ (spliced ((false, eval e X.env) :: backTo pos (starEach [] X.env))) _ _ _
  refine Calls.spliced_cons (thn (he.run _ _ σ H _ I3 h) fun v s3 ⟨y, H3, I4, ry, ha4, q4⟩ => ?_)
  refine Calls.spliced_nil ⟨ClX.pin_at I4, ?_⟩
  refine mw_call T I4 ha4 (ClX.pin_at I4) (by show 1 ≤ sizeLine; rw [sizeLine_eq]; omega) fun s' J => q4 s' (J.pins_of fun p hp => J.pin p (List.mem_append_right _ (List.mem_cons_of_mem _ hp)))
end
end GD
/-! GX1: the promise of an error's __init__; raise. -/
namespace GD
open PySem PySem.Spec PyProof.Rows L2 NdefX LamX
/-! ### what an f-string can tell -/
def fmt1 : D → Bool
  | .int i => decide (i.natAbs < 2 ^ 250)
  | .str x => decide ((reprText x).length ≤ 10000)
  | _ => false
def fmtB : D → Bool
  | .int i => decide (i.natAbs < 2 ^ 250)
  | .str x => decide (x.length ≤ 10000)
  | .tup xs => decide (xs.length ≤ 20) && xs.all fmt1
  | _ => false
/-- raise c(x): the error's fields are code and f -/
def sRaise (c f : Str) (a : Ev) : Ex := fun ρ m => (a ρ m).lift ρ fun w m => match w with
  | .d x => if fmtB x then .xc c [f, "code"] [x, .str c] ρ m else .bad
  | .m _ => .bad
theorem log_small {n : Nat} (h : n < 2 ^ 250) : n.log2 < 1920 := by
  by_cases e : n = 0
  · subst e; decide
  · have := (Nat.log2_lt e).mpr h
    omega
theorem int_text {i : Int} (h : i.natAbs < 2 ^ 250) : (Str.ofString (toString i)).length ≤ 10000 := by
  have h2 : i.natAbs < 10 ^ 250 := Nat.lt_of_lt_of_le h (Nat.pow_le_pow_left (by decide) 250)
  have e := int_text_length_le10 (k := 250) (by decide) h2
  rw [PySem.ofString_length]
  omega
section
variable {X : Cx}
theorem repr_allD {K : PySem.W.Frag} {mg : Str → Option Value} {Hi : Hp} {prog : Program} {w : World} : ∀ {vs : List V} {ds : List D} {its : List Value}, RepL K mg Hi vs ds → Vals vs its → ds.all fmt1 = true → ∃ ts, ReprAll prog w its ts ∧ piled ts ≤ 10002 * ds.length
  | _, _, _, .nil, .nil, _ => ⟨[], .nil, Nat.zero_le _⟩
  | _, _, _, .cons (d := d) r rs, .cons q qs, h => by
    rw [List.all_cons, Bool.and_eq_true] at h
    obtain ⟨ts, h1, h2⟩ := repr_allD rs qs h.2
    cases r with
    | int i =>
      obtain ⟨t, rfl⟩ := q
      have z := of_decide_eq_true h.1
      refine ⟨_, .cons (ReprIs.int t (log_small z)) h1, ?_⟩
      rw [piled_cons, List.length_cons]
      have := int_text z
      omega
    | str x =>
      obtain ⟨t, rfl⟩ := q
      have z := of_decide_eq_true h.1
      refine ⟨_, .cons (ReprIs.str x t (by rw [sizeLine_eq]; omega)) h1, ?_⟩
      rw [piled_cons, List.length_cons]
      omega
    | _ => exact absurd h.1 (by simp [fmt1])
/-- {x}: some text -/
def tFmtX (K : PySem.W.Frag) (mg : Str → Option Value) (te : TE) : TE := fun σ H Q => te σ H fun x H1 => ∃ Hi d, Same Hi H1 ∧ Rep K mg Hi x d ∧ fmtB d = true ∧ ∀ m : Str, m.length ≤ 1000000 → Q (.str m) H1
theorem pe_fmtX {e : Expr} {te : TE} {pos : Pos} {k : Nat} (hr : Room k X.A) (he : PE X e te) : PE X (.FormattedValue e (-1) none pos) (tFmtX X.K X.mg te) := by
  refine ⟨fun pins s σ H Q I h => ?_⟩
  refine wpAny_FormattedValue_plain (thn (he.run pins s σ H _ I h) fun v s1 ⟨x, H1, I1, r1, Hi, d, sm, rp, hf, q⟩ => ?_)
  cases rp with
  | int i =>
    obtain ⟨t, rfl⟩ := r1
    have z := of_decide_eq_true hf
    exact wpAny_formatField_int (log_small z) ⟨.str (toString i), H1, I1.tok _, ⟨_, rfl⟩, q _ (Nat.le_trans (int_text z) (by decide))⟩
  | str y =>
    obtain ⟨t, rfl⟩ := r1
    have z := of_decide_eq_true hf
    exact wpAny_formatField_str ⟨.str y, H1, I1, ⟨t, rfl⟩, q y (Nat.le_trans z (by decide))⟩ ⟨.str y, H1, I1.tok _, ⟨_, rfl⟩, q y (Nat.le_trans z (by decide))⟩ (by rw [sizeLine_eq]; omega)
  | tup sq rl =>
    rename_i a vs ds
    have hf' : (decide (ds.length ≤ 20) && ds.all fmt1) = true := hf
    rw [Bool.and_eq_true] at hf'
    have hl := of_decide_eq_true hf'.1
    cases r1
    obtain ⟨its, rv, ⟨o, ho, hcl, n, hd⟩, _⟩ := I1.tuple (sqT_mono sm sq)
    obtain ⟨ts, h1, h2⟩ := repr_allD (prog := X.prog) (w := X.w) rl rv hf'.2
    have htx := fmt_text ts
    have hu := hr.units
    have h3 : 10002 * ds.length ≤ 200040 := by omega
    exact fmt_tuple (ts := ts) (by omega) ho hcl hd h1 (by rw [sizeLine_eq]; omega) fun m u tk hm => ⟨.str m, H1, I1.tok _, ⟨u, rfl⟩, q m (by omega)⟩
  | _ => cases hf
/-! ### the promise -/
/-- C(x): code, f -/
def spErr (K : PySem.W.Frag) (mg : Str → Option Value) (C : Addr) (c f : Str) : Sp := fun vs H Q _ => ∃ a v Hi d, vs = [.ref a, v] ∧ H a = some (exo a C none) ∧ Same Hi H ∧ Rep K mg Hi v d ∧ fmtB d = true ∧
  ∀ dx, H dx = none → dx ≠ a → Q .non (upd (upd (upd H dx (exd dx [("code", .str c)])) a (exo a C (some dx))) dx (exd dx [(f, v), ("code", .str c)]))
def spErr0 (C : Addr) (c : Str) : Sp := fun vs H Q _ => ∃ a, vs = [.ref a] ∧ H a = some (exo a C none) ∧ ∀ dx, H dx = none → dx ≠ a → Q .non (upd (upd H dx (exd dx [("code", .str c)])) a (exo a C (some dx)))
end
/-! ### the __init__ runs -/
section
variable {P : Program} {w : World} {K : PySem.W.Frag} {mg : Str → Option Value} {base : Heap} {k : Nat} {f cda cc C : Addr} {qual : Str} {params : Arguments} {body : List Stmt} {scope : Scope} {kV doc pm ct oc : Value} {an od : Option Addr} {osl : Array (Option Value)} {N ps : List Str}
theorem init_run {sp : Sp} (lk : K.lookup f = some ⟨oc, od, .func (PySem.W.fnX "__init__" qual params body scope [("__class__", cc)] .none kV doc pm an (.ref cda) ct), osl⟩) (hcd : PySem.W.codeIn K (.ref cda) qual = true) (S : NScope N ps ["__class__"] scope) (hcell : ∃ cl cld csl, K.lookup cc = some ⟨cl, cld, .cell (some (.ref C)), csl⟩)
    (hlen : ∀ vs H Q E, sp vs H Q E → vs.length = ps.length)
    (hbody : ∀ (A : Around) (outer : List PySem.Env) (s s1 : Shared) (H : Hp) (vs : List V) (Q : VK) (E : XK), Room k (A.deeper (envF ⟨"__init__", qual, params, body, scope, [("__class__", cc)], cda⟩ f s.heap.objs.size)) → sp vs H Q E →
      Inv (ncx (L2.CX P w) P w K mg base N ⟨"__init__", qual, params, body, scope, [("__class__", cc)], cda⟩ f A outer s H E) [] (startF N vs [some (.ref C)]) H s1 →
      PySem.wpAt (model P w) (A.deeper (envF ⟨"__init__", qual, params, body, scope, [("__class__", cc)], cda⟩ f s.heap.objs.size)) (.func body (envF ⟨"__init__", qual, params, body, scope, [("__class__", cc)], cda⟩ f s.heap.objs.size))
        (execs body (envF ⟨"__init__", qual, params, body, scope, [("__class__", cc)], cda⟩ f s.heap.objs.size))
        (fun fl s' => ∃ σ' H', fl = .next ∧ Inv (ncx (L2.CX P w) P w K mg base N ⟨"__init__", qual, params, body, scope, [("__class__", cc)], cda⟩ f A outer s H E) [] σ' H' s' ∧ Q .non H')
        (ncx (L2.CX P w) P w K mg base N ⟨"__init__", qual, params, body, scope, [("__class__", cc)], cda⟩ f A outer s H E).xe s1) :
    FnOk P w K mg base (L2.CX P w) (k + 1) f (PySem.W.fnX "__init__" qual params body scope [("__class__", cc)] .none kV doc pm an (.ref cda) ct) ps sp := by
  refine ⟨hlen, fun A outer s H args us vs Q E hr e0 hb r hs => ?_⟩
  have KX : K.In s.heap := e0.mod.kin.keeps fun b o e => (e0.bs b o e).1
  have lim : s.heap.NoLimit := e0.mod.nolimit.keeps fun b o e => (e0.bs b o e).1
  obtain ⟨cl, cld, csl, hcell⟩ := hcell
  have CA : CellsAt [("__class__", cc)] ["__class__"] [some (.ref C)] s.heap H := by
    have hb2 : base.get? cc = some ⟨cl, cld, .cell (some (.ref C)), csl⟩ := e0.mod.kin _ _ hcell
    refine ⟨rfl, fun y c e => ?_, fun x y c e1 e2 => ?_, fun i y e => ?_⟩
    · have hc : c = cc := by
        simp only [List.lookup] at e
        split at e
        · exact (Option.some.inj e).symm
        · cases e
      subst hc
      exact ⟨(e0.bs _ _ hb2).2, _, _, (e0.bs _ _ hb2).1, rfl⟩
    · simp only [List.lookup] at e1 e2
      split at e1
      · split at e2
        · rename_i h1 _ h2
          exact (beq_iff_eq.mp h1).trans (beq_iff_eq.mp h2).symm
        · cases e2
      · cases e1
    · cases i with
      | succ n => simp at e
      | zero =>
        simp at e
        subst e
        refine ⟨cc, rfl, fun v e => ?_⟩
        simp at e
        subst e
        exact ⟨.ref C, rfl, _, (e0.bs _ _ hb2).1, rfl⟩
  refine PySem.ks_codeAny_call_defAt (fd := PySem.W.fnX "__init__" qual params body scope [("__class__", cc)] .none kV doc pm an (.ref cda) ct) (body := body) (binds := ps.zip us) hr.depth (KX _ _ lk) rfl lim (PySem.W.codeRec_of KX hcd) rfl hb S.nocell (fun x hx => S.par _ (List.of_mem_zip hx).1) (fun h1 hns kp => ?_) S.co S.gen S.kind
  have I := inv_startN (CX := L2.CX P w) (F := ⟨"__init__", qual, params, body, scope, [("__class__", cc)], cda⟩) (f := f) (E := E) (tk := s.toks + (ps.zip us).length) S hr.hd e0 (hlen _ _ _ _ hs) r CA hns kp
  refine PySem.ks_wpAt_mono (hbody A outer s _ H vs Q E (hr.deeper _) hs I) (fun fl s' z => ?_) fun e s' z => z
  obtain ⟨σ', H', rfl, J, q⟩ := z
  exact ⟨.non, H', J.os, J.bare, J.base, J.hok, rfl, q⟩
end
end GD
/-! GX2: raise C(x), raise C(). -/
namespace GD
open PySem PySem.Spec PyProof.Rows L2 NdefX LamX
/-- the words of an error's __init__ with one field -/
def errBody (c f msg : Str) (p0 p1 p2 p3 p4 p5 p6 p7 p8 p9 p10 p11 p12 p13 p14 p15 p16 : Pos) (j0 j1 : Nat) : List Stmt :=
  [.Expr (.Call (.Attribute (.Call (.Name "super" p0) [] [] p1) "__init__" p2) [.JoinedStr [.Constant (.str msg) j0 p3, .FormattedValue (.Name f p4) (-1) none p5] p6] [] p7) p8,
   .Assign [.Attribute (.Name "self" p9) "code" p10] (.Constant (.str c) j1 p11) p12,
   .Assign [.Attribute (.Name "self" p13) f p14] (.Name f p15) p16]
theorem ev_mc {o e : Expr} {name : Str} {apos pos : Pos} {env : PySem.Env} (h : (apos.endLine == pos.line) = true) (hst : starEach [e] env = (false, eval e env) :: starEach [] env) :
    eval (.Call (.Attribute o name apos) [e] [] pos) env = (do
      let ov ← attributeBase o name env (eval o env)
      standAt apos.atName
      let (f, first) ← holding [ov] (getMethod ov name (do return (← importBound o env).getD true))
      callWith pos f first (backTo pos (starEach [e] env)) []) := by
  have e1 : methodCallForm 1 (backTo pos (starEach [e] env)) (backToKw pos (keywordEach [] env)) = true := by rw [hst]; rfl
  have e2 : methodCallPos true o env apos pos = pure pos := by
    unfold methodCallPos
    rw [if_pos (by rw [h]; rfl)]
  show (do
    let ov ← attributeBase o name env (eval o env)
    standAt apos.atName
    methodCall o name apos pos env ov 1 (backTo pos (starEach [e] env)) (backToKw pos (keywordEach [] env))) = _
  unfold methodCall
  rw [e1]
  simp only [e2, pure_bind]
  rfl
section
variable {P : Program} {w : World} {K : PySem.W.Frag} {mg : Str → Option Value} {base : Heap} {f0 cda cc C : Addr} {qual : Str} {params : Arguments} {body : List Stmt} {scope : Scope} {kV doc pm ct oc : Value} {an od : Option Addr} {osl : Array (Option Value)} {c f msg : Str} {p0 p1 p2 p3 p4 p5 p6 p7 p8 p9 p10 p11 p12 p13 p14 p15 p16 : Pos} {j0 j1 : Nat}
theorem err_init (T : OexC K C) (F : SupF P K mg C f0 cda cc scope "self") (lk : K.lookup f0 = some ⟨oc, od, .func (PySem.W.fnX "__init__" qual params body scope [("__class__", cc)] .none kV doc pm an (.ref cda) ct), osl⟩) (hcd : PySem.W.codeIn K (.ref cda) qual = true) (S : NScope ["self", f, "__class__"] ["self", f] ["__class__"] scope)
    (hb : body = errBody c f msg p0 p1 p2 p3 p4 p5 p6 p7 p8 p9 p10 p11 p12 p13 p14 p15 p16 j0 j1) (hpos : (p2.endLine == p7.line) = true) (hm : msg.length ≤ 10000) (n1 : PySem.W.findIn K (.ref C) "code" = some none) (n2 : PySem.W.findIn K (.ref C) f = some none) (hfd : (f == ("__debug__" : Str)) = false) (hfc : (f == ("__classdict__" : Str)) = false) :
    FnOk P w K mg base (L2.CX P w) 1 f0 (PySem.W.fnX "__init__" qual params body scope [("__class__", cc)] .none kV doc pm an (.ref cda) ct) ["self", f] (spErr K mg C c f) := by
  refine init_run (C := C) lk hcd S F.cell (fun vs H Q E h => by obtain ⟨a, v, Hi, d, rfl, _⟩ := h; rfl) fun A outer s s1 H vs Q E hr hs I => ?_
  obtain ⟨a, v, Hi, d, rfl, ha, sm, rp, hf, hq⟩ := hs
  subst hb
  have vS : Vis scope "self" := .inl (S.par _ (by simp))
  have vF : Vis scope f := .inl (S.par _ (by simp))
  refine PySem.ks_wpAt_execs_cons ?_
  refine super_init (X := ncx (L2.CX P w) P w K mg base ["self", f, "__class__"] ⟨"__init__", qual, params, errBody c f msg p0 p1 p2 p3 p4 p5 p6 p7 p8 p9 p10 p11 p12 p13 p14 p15 p16 j0 j1, scope, [("__class__", cc)], cda⟩ f0 A outer s H E) (i := 0) T F rfl rfl rfl I ha (pe_joined (.cons pe_str (.cons (pe_fmtX hr (pe_var (i := 1) rfl vF hfd hfc)) .nil))) ?_ rfl I.quiet (ev_mc hpos rfl)
  refine ⟨msg, rfl, ?_, v, rfl, Hi, d, sm, rp, hf, fun t ht => ⟨t, rfl, ?_, ha, fun s2 J => ?_⟩⟩
  · rw [strLen_append, sizeLine_eq]
    have : (Str.empty).length = 0 := rfl
    omega
  · rw [strLen_append, strLen_append, sizeLine_eq]
    have : (Str.empty).length = 0 := rfl
    omega
  · refine wpAt_of_wpAny ?_
    have hp := pss_cons (ps_ost (X := ncx (L2.CX P w) P w K mg base ["self", f, "__class__"] ⟨"__init__", qual, params, errBody c f msg p0 p1 p2 p3 p4 p5 p6 p7 p8 p9 p10 p11 p12 p13 p14 p15 p16 j0 j1, scope, [("__class__", cc)], cda⟩ f0 A outer s H E) (f := "code") (p' := p10) (pos := p12) (pe_var (i := 0) (x := "self") (pos := p9) rfl vS) (pe_str (x := c) (j := j1) (pos := p11)))
      (pss_one (ps_ost (f := f) (p' := p14) (pos := p16) (pe_var (i := 0) (x := "self") (pos := p13) rfl vS) (pe_var (i := 1) (x := f) (pos := p15) rfl vF hfd hfc)))
    refine wpAny_mono (hp.run [] s2 _ H { nx := fun _ H' => Q .non H', rt := fun _ _ => False, bk := fun _ _ => False, ct := fun _ _ => False } J ?_) (fun fl s' z => ?_) fun _ _ z => z
    · refine ⟨.ref a, rfl, a, C, rfl, T, n1, .inl ⟨ha, fun dx hd ne => ?_⟩⟩
      refine ⟨v, rfl, .ref a, rfl, a, C, rfl, T, n2, .inr ⟨dx, [("code", .str c)], ?_, ?_, by show 1 ≤ 900; decide, hq dx hd ne⟩⟩
      · rw [upd_same]
      · rw [upd_ne ne, upd_same]
    · cases fl with
      | next =>
        obtain ⟨σ', H', J', q⟩ := z
        exact ⟨σ', H', rfl, J', q⟩
      | ret u => obtain ⟨_, _, _, _, _, q⟩ := z; exact q.elim
      | brk => obtain ⟨_, _, _, q⟩ := z; exact q.elim
      | cont => obtain ⟨_, _, _, q⟩ := z; exact q.elim
end
/-! ### raise -/
/-- c is an own error with the field f (none: with none) -/
structure ErrOk (P : Program) (w : World) (K : PySem.W.Frag) (mg : Str → Option Value) (base : Heap) (c : Str) (f : Option Str) : Prop where
  ex : ∃ C fI fd ps, mg c = some (.ref C) ∧ OexC K C ∧ PySem.W.findIn K (.ref C) "__init__" = some (some (.ref fI)) ∧ PySem.W.typeIn K (.ref fI) = some (.type "function") ∧ Binds K fd ps [] ∧
    FnOk P w K mg base (L2.CX P w) 1 fI fd ps (match f with
      | some f => spErr K mg C c f
      | none => spErr0 C c)
section
variable {X : Cx} {Wx : WX} {kk : Nat}
theorem passes0 : Passes (L2.CX X.prog X.w) X (fun _ _ _ => False) := fun _ _ _ _ _ _ _ h => by
  obtain ⟨_, _, _, _, _, _, _, _, _, _, _, _, z⟩ := h
  exact z.elim
theorem err_end {H : Hp} {a dx C : Addr} {u0 u1 u2 u3 : HO} {fs : List (Str × V)} (ha : H a = none) (hd : H dx = none) (ne : dx ≠ a) : upd (del (upd (upd (upd (upd H a u0) dx u1) a u2) dx u3) a) dx (.xd fs) = upd H dx (.xd fs) := by
  funext b
  by_cases h1 : b = dx
  · subst h1; rw [upd_same, upd_same]
  · rw [upd_ne h1, upd_ne h1]
    by_cases h2 : b = a
    · subst h2; rw [del_same, ha]
    · rw [del_ne h2, upd_ne h1, upd_ne h2, upd_ne h1, upd_ne h2]
/-- raise c(e) -/
theorem psd_raise {c f : Str} {e : Expr} {fa : Ev} {p pos pos' : Pos} (cc : Cc X Wx kk) (T : ErrOk X.prog X.w X.K X.mg X.base c (some f)) (hj : 2 ≤ kk) (hg : Gl X c) (he : PE X e (tD X.K X.mg Wx fa)) (hdb : (c == ("__debug__" : Str)) = false := by decide)
    (hst : starEach [e] X.env = (false, eval e X.env) :: starEach [] X.env := by rfl) : PS X (.Raise (some (.Call (.Name c p) [e] [] pos)) none pos') (tDS X.K X.mg Wx (sRaise c f fa)) := by
  obtain ⟨C, fI, fd, ps, hm, TC, iC, tI, hb, F⟩ := T.ex
  refine PS.imp (ps_raise cc.calm cc.tk (pmk_oex (dvs := []) TC iC tI F (cc.room.mono hj) hb .nil passes0 hg hm (pa_cons he pa_nil hst) hdb hst rfl)) fun D σ H t => ?_
  obtain ⟨Hi, ι, ρ, m, RR, g⟩ := t
  refine ⟨Hi, ι, ρ, m, RR, ?_⟩
  unfold sRaise at g
  cases ee : fa ρ m with
  | bad => rw [ee] at g; exact g
  | exc c ns vs m1 =>
    rw [ee] at g
    exact fun Hi' ι' H' C dx fs st M h1 h2 h3 h4 => g Hi' ι' σ H' C dx fs st (RR.step st M) h1 h2 h3 h4
  | ok y m1 =>
    rw [ee] at g
    intro Hi1 ι1 v H1 st M rv
    cases y with
    | m k => exact g.elim
    | d x =>
      simp only [R.lift_ok] at g
      split at g
      case isFalse => exact g.elim
      rename_i hf
      refine ⟨by show 1 ≤ 1000; decide, fun a ha => ?_⟩
      have sm : Same Hi1 (upd H1 a (exo a C none)) := fun b o q => by
        have q2 := M.sub b o q
        rw [upd_ne (ne_of_none q2 ha)]
        exact q2
      refine ⟨a, v, Hi1, x, rfl, upd_same, sm, rv, hf, fun dx hd ne => ?_⟩
      have hd1 : H1 dx = none := by rw [upd_ne ne] at hd; exact hd
      refine ⟨rfl, dx, [(f, v), ("code", .str c)], ?_, upd_same, hd1, ?_⟩
      · rw [upd_ne (Ne.symm ne), upd_same]
      · rw [err_end (C := C) ha hd1 ne]
        obtain ⟨M2, st2⟩ := M.newD (o := .xd [(f, v), ("code", .str c)]) hd1
        exact g (upd Hi1 dx (.xd [(f, v), ("code", .str c)])) ι1 σ _ C dx [v, .str c] (st.trans st2) (RR.step (st.trans st2) M2) hm upd_same rfl (.cons (Rep.mono st2.imm rv) (.cons (.str c) .nil))
end
end GD
/-! GL0: lambdas are made. -/
namespace GD
open PySem PySem.Spec PyProof.Rows L2 NdefX LamX PySem.W
section
variable {M : Model} {A : Around} {E : Value → Shared → Prop} {s : Shared} {F : LamF} {env : PySem.Env} {c P : Addr} {ps : Array Value} {pos : Pos} {firstLine : Nat} {mg : Str → Option Value} {clos : List (Str × Addr)} {dV : Value} {Q : Value → Shared → Prop}
theorem lam_tail (hcl : closureFor F.scope env = pure clos) (hge0 : env.globals = mainGlobals) (hg : s.heap.Ns mainGlobals mg) (hcode : env.code = .ref c) (C : CodeHd s.heap c P) (hP : s.heap.get? P = some (tabObj ps)) (ht : TriplesOk ps.toList)
    (hnf : codeAmong pos ps.toList = none) (hgP : mainGlobals ≠ P) (hb : s.heap.BuiltinsAt mg P)
    (h : ∀ c' ctv h' tk, Heap.ExtBut P s.heap h' → s.heap.objs.size ≤ c' → c' < h'.objs.size → h'.CodeRec (.ref c') F.qual → h'.get? P = some (tabObj (ps ++ #[rawInt pos.line, rawInt pos.col, .ref c'])) →
      Q (.ref h'.objs.size) { s with heap := h'.push { cls := .type "function", data := .func (lamFn F clos dV ((mg "__name__").getD .none) (.ref c') ctv) }, toks := tk }) :
    wpAny M A (makeTail "<lambda>" F.qual F.params (.expr F.body) F.scope env dV .none none pos firstLine) Q E s := by
  obtain ⟨bm, ob, hbm, hne0, _, hneP, hbo, hcls, hdict, hdata⟩ := hb
  unfold makeTail
  rw [hcl, hge0]
  refine wpAny_bind (wpAny_pure ?_)
  cases clos with
  | nil =>
    simp only [List.isEmpty_nil, if_true]
    refine wpAny_bind (wpAny_pure ?_)
    refine wpAny_bind (wpAny_functionCodeX hcode (C.code hP ht) (C.tab hP) hnf fun c' h' tk hx hge hlt _ hrec htb _ => ?_)
    have hg' := hg.extBut hx hgP
    refine wpAny_bind (wpAny_builtinsFor hg' hbm hne0 (hx _ _ hneP hbo) hcls hdict hdata ?_)
    refine wpAny_bind (wpAny_nsGet hg' ?_)
    exact wpAny_bind (wpAny_pure (wpAny_newObj_type (h c' .none h' tk hx hge hlt hrec htb.2) (by size_fits)))
  | cons q r =>
    simp only [List.isEmpty_cons, Bool.false_eq_true, if_false]
    refine wpAny_bind (wpAny_newTextTuple ?_)
    refine wpAny_bind (wpAny_functionCodeX hcode ((C.keeps fun b o e => Heap.get?_push_of_some _ e).code (Heap.get?_push_of_some _ hP) ht) ((C.keeps fun b o e => Heap.get?_push_of_some _ e).tab (Heap.get?_push_of_some _ hP)) hnf fun c' h' tk hx hge hlt _ hrec htb _ => ?_)
    have hg' := (hg.push _).extBut hx hgP
    have hx' : Heap.ExtBut P s.heap h' := fun b o hb' e => hx b o hb' (Heap.get?_push_of_some _ e)
    have hge' : s.heap.objs.size ≤ c' := Nat.le_trans (by rw [Heap.size_push]; omega) hge
    refine wpAny_bind (wpAny_builtinsFor hg' hbm hne0 (hx' _ _ hneP hbo) hcls hdict hdata ?_)
    refine wpAny_bind (wpAny_nsGet hg' ?_)
    exact wpAny_bind (wpAny_pure (wpAny_newObj_type (h c' _ h' tk hx' hge' hlt hrec htb.2) (by size_fits)))
theorem lam_tailHit {cv : Value} (hcl : closureFor F.scope env = pure clos) (hge0 : env.globals = mainGlobals) (hg : s.heap.Ns mainGlobals mg) (hcode : env.code = .ref c) (C : CodeHd s.heap c P) (hP : s.heap.get? P = some (tabObj ps)) (ht : TriplesOk ps.toList)
    (hf : codeAmong pos ps.toList = some cv) (hb : s.heap.BuiltinsAt mg P)
    (h : ∀ (ctv : Value) (h' : Heap) (tk : Tok), (∀ b o, s.heap.get? b = some o → h'.get? b = some o) → s.heap.objs.size ≤ h'.objs.size →
      Q (.ref h'.objs.size) { s with heap := h'.push { cls := .type "function", data := .func (lamFn F clos dV ((mg "__name__").getD .none) cv ctv) }, toks := tk }) :
    wpAny M A (makeTail "<lambda>" F.qual F.params (.expr F.body) F.scope env dV .none none pos firstLine) Q E s := by
  obtain ⟨bm, ob, hbm, hne0, _, hneP, hbo, hcls, hdict, hdata⟩ := hb
  unfold makeTail
  rw [hcl, hge0]
  refine wpAny_bind (wpAny_pure ?_)
  cases clos with
  | nil =>
    simp only [List.isEmpty_nil, if_true]
    refine wpAny_bind (wpAny_pure ?_)
    refine wpAny_bind (wpAny_functionCode_hit hcode (C.code hP ht) hf ?_)
    refine wpAny_bind (wpAny_builtinsFor hg hbm hne0 hbo hcls hdict hdata ?_)
    refine wpAny_bind (wpAny_nsGet hg ?_)
    exact wpAny_bind (wpAny_pure (wpAny_newObj_type (h .none s.heap s.toks (fun _ _ e => e) (Nat.le_refl _)) (by size_fits)))
  | cons q r =>
    simp only [List.isEmpty_cons, Bool.false_eq_true, if_false]
    refine wpAny_bind (wpAny_newTextTuple ?_)
    refine wpAny_bind (wpAny_functionCode_hit hcode ((C.keeps fun b o e => Heap.get?_push_of_some _ e).code (Heap.get?_push_of_some _ hP) ht) hf ?_)
    refine wpAny_bind (wpAny_builtinsFor (hg.push _) hbm hne0 (Heap.get?_push_of_some _ hbo) hcls hdict hdata ?_)
    refine wpAny_bind (wpAny_nsGet (hg.push _) ?_)
    have hsz : ∀ oT : Obj, s.heap.objs.size ≤ (s.heap.push oT).objs.size := fun oT => by rw [Heap.size_push]; omega
    exact wpAny_bind (wpAny_pure (wpAny_newObj_type (h _ _ s.toks (fun b o e => Heap.get?_push_of_some _ e) (hsz _)) (by size_fits)))
end
theorem lamO_ok {P : Program} {w : World} {H : Hp} {h : Heap} {f c : Addr} {F : LamF} {C : List (Str × Addr)} {dV pm ctv : Value} (e : h.get? f = some ({ cls := .type "function", data := .func (lamFn F (cloFrom C F.scope.names []) dV pm (.ref c) ctv) } : Obj)) : ObjOk P w H h f (LamO f F C c dV) :=
  ⟨⟨_, _, pm, ctv, e⟩, ⟨_, e⟩, fun h1 h2 ⟨od, sl, p, t, z⟩ st => ⟨od, sl, p, t, st _ z⟩⟩
theorem lamO_at {P : Program} {w : World} {H : Hp} {h : Heap} {f c : Addr} {F : LamF} {C : List (Str × Addr)} {dV : Value} (hok : HOk P w H h) (e : H f = some (LamO f F C c dV)) :
    ∃ (od : Option Addr) (sl : Array (Option Value)) (pm ctv : Value), h.get? f = some (⟨.type "function", od, .func (lamFn F (cloFrom C F.scope.names []) dV pm (.ref c) ctv), sl⟩ : Obj) := by
  obtain ⟨z, _, _⟩ := hok f _ e
  exact z
section
variable {X : Cx} {pins : List (Addr × Obj)} {σ : L2.St} {Hi H : Hp} {ι : List Addr} {m : Mem} {s : Shared}
theorem upd_swap {H : Hp} {a b : Addr} {u v : HO} (h : a ≠ b) : upd (upd H a u) b v = upd (upd H b v) a u := by
  funext x
  by_cases h1 : x = b
  · subst h1; rw [upd_same, upd_ne (Ne.symm h), upd_same]
  · rw [upd_ne h1]
    by_cases h2 : x = a
    · subst h2; rw [upd_same, upd_same]
    · rw [upd_ne h2, upd_ne h2, upd_ne h1]
theorem mok_tab {K : PySem.W.Frag} {mg : Str → Option Value} {k : Nat} {P c' : Addr} {q : Str} {ps : Array Value} {pos : Pos} (M : Mok K mg Hi ι m H) (hk : ι[k]? = some P) (hm : m[k]? = some (.tab P q)) (hP : H P = some (.tbl ps)) (ht : TriplesOk ps.toList)
    (ha : ∀ (pos : Pos) (cv : Value), codeAmong pos ps.toList = some cv → ∃ c, cv = .ref c ∧ Hi c = some (CodeO c q)) (hc : H c' = none) :
    Mok K mg (upd Hi c' (CodeO c' q)) ι m (upd (upd H P (.tbl (ps ++ #[rawInt pos.line, rawInt pos.col, .ref c']))) c' (CodeO c' q)) ∧
    Step Hi ι H (upd Hi c' (CodeO c' q)) ι (upd (upd H P (.tbl (ps ++ #[rawInt pos.line, rawInt pos.col, .ref c']))) c' (CodeO c' q)) := by
  have ne : P ≠ c' := ne_of_none hP hc
  obtain ⟨M1, s1⟩ := M.newD (o := CodeO c' q) hc
  have eL : (ps ++ #[rawInt pos.line, rawInt pos.col, .ref c']).toList = ps.toList ++ [rawInt pos.line, rawInt pos.col, .ref c'] := by simp
  obtain ⟨M2, s2⟩ := M1.setX (o := .tbl (ps ++ #[rawInt pos.line, rawInt pos.col, .ref c'])) (mo := .tab P q) hk hm (fun z => nomatch z) (by
    refine ⟨rfl, _, upd_same, by rw [eL]; exact PySem.TriplesOk_snoc _ _ _ _ ht, fun p' cv hcv => ?_⟩
    rw [eL] at hcv
    rcases among_app _ ht hcv with z | z
    · obtain ⟨c0, e1, e2⟩ := ha p' cv z
      exact ⟨c0, e1, s1.imm _ _ e2⟩
    · exact ⟨c', z, upd_same⟩)
  have em : m.set k (.tab P q) = m := by
    obtain ⟨hl, e⟩ := List.getElem?_eq_some_iff.mp hm
    rw [← e]
    exact List.set_getElem_self hl
  rw [em] at M2
  rw [upd_swap ne]
  exact ⟨M2, s1.trans s2⟩
/-- the lambda's object is made, its defaults dV laid -/
theorem lam_make {k : Nat} {c P : Addr} {Z : LamZ} {i : Nat} {pos : Pos} {firstLine : Nat} {dV : Value} {E : Value → Shared → Prop} {Q : Value → Shared → Prop} (I : Inv X pins σ H s) (M : Mok X.K X.mg Hi ι m H) (TB : TabB X.base X.mg c P) (hcode : X.env.code = .ref c) (hC : X.env.cells = Z.C) (hm : m[k]? = some (.tab P (Z.F i).qual))
    (hfree : ∀ y ∈ (Z.F i).scope.names, y.2 = .free → ∃ c, X.env.cells.lookup y.1 = some c) (hd : DflO Hi (Z.F i) dV)
    (h : ∀ (f : Addr) (Hi1 H1 : Hp) (s' : Shared), Inv X pins σ H1 s' → Mok X.K X.mg Hi1 ι m H1 → Step Hi ι H Hi1 ι H1 → Rep X.K X.mg Hi1 (.ref f) (.lam i Z) → Q (.ref f) s') :
    wpAny (model X.prog X.w) X.A (makeTail "<lambda>" (Z.F i).qual (Z.F i).params (.expr (Z.F i).body) (Z.F i).scope X.env dV .none none pos firstLine) Q E s := by
  obtain ⟨a, hk⟩ : ∃ a, ι[k]? = some a := by
    have hl := (List.getElem?_eq_some_iff.mp hm).1
    rw [← M.len] at hl
    exact ⟨ι[k], by simp [hl]⟩
  obtain ⟨ea, ps, hP, ht, ha⟩ := M.obj k _ a hm hk
  subst ea
  have bP : s.heap.BuiltinsAt X.mg a := TB.bm.keeps I.bk
  have hP' : s.heap.get? a = some { cls := .none, data := .fields ps } := I.hok a _ hP
  cases hc : codeAmong pos ps.toList with
  | none =>
    refine lam_tail (mg := X.mg) (c := c) (P := a) (ps := ps) (pos := pos) (closure_ok hfree) I.ok.glob (I.mod.glob.keeps I.bk) hcode (TB.code.keeps I.bk) hP' ht hc TB.gP bP fun c' ctv h' tk hx hge hlt hrec htb => ?_
    obtain ⟨c2, oc, vs, t, e2, hoc, hdd, hv⟩ := hrec
    cases e2
    have nC : H c' = none := I.hok.fresh hge
    have I1 := inv_table (t' := tk) (more := #[rawInt pos.line, rawInt pos.col, .ref c']) (h' := h') I hP (fun b o hb e => hx b o hb e) htb hge ⟨oc, vs, t, hoc, hdd, hv⟩
    obtain ⟨M1, s1⟩ := mok_tab (pos := pos) M hk hm hP ht ha nC
    have nF := I1.hok.fresh (Nat.le_refl _)
    have eF : (h'.push ({ cls := .type "function", data := .func (lamFn (Z.F i) (cloFrom X.env.cells (Z.F i).scope.names []) dV ((X.mg "__name__").getD .none) (.ref c') ctv) } : Obj)).get? h'.objs.size = some ({ cls := .type "function", data := .func (lamFn (Z.F i) (cloFrom X.env.cells (Z.F i).scope.names []) dV ((X.mg "__name__").getD .none) (.ref c') ctv) } : Obj) := Heap.get?_push_size _ rfl
    have I2 := I1.laid (t' := tk) (a := h'.objs.size) (o := LamO h'.objs.size (Z.F i) Z.C c' dV) (h' := h'.push ({ cls := .type "function", data := .func (lamFn (Z.F i) (cloFrom X.env.cells (Z.F i).scope.names []) dV ((X.mg "__name__").getD .none) (.ref c') ctv) } : Obj)) (fun b u e => Heap.get?_push_of_some _ e) (Nat.le_refl _) (lamO_ok (by rw [← hC]; exact eF))
    obtain ⟨M2, s2⟩ := M1.newD (o := LamO h'.objs.size (Z.F i) Z.C c' dV) nF
    exact h _ _ _ _ I2 M2 (s1.trans s2) (.lam upd_same (s2.imm _ _ upd_same) (hd.mono (s1.trans s2).imm))
  | some cv =>
    obtain ⟨c', e, hco⟩ := ha pos cv hc
    subst e
    refine lam_tailHit (mg := X.mg) (c := c) (P := a) (ps := ps) (pos := pos) (closure_ok hfree) I.ok.glob (I.mod.glob.keeps I.bk) hcode (TB.code.keeps I.bk) hP' ht hc bP fun ctv h' tk hx hsz => ?_
    have I1 : Inv X pins σ H { s with heap := h', toks := tk } := I.kept hx
    have nF : H h'.objs.size = none := I1.hok.fresh (Nat.le_refl _)
    have eF : (h'.push ({ cls := .type "function", data := .func (lamFn (Z.F i) (cloFrom X.env.cells (Z.F i).scope.names []) dV ((X.mg "__name__").getD .none) (.ref c') ctv) } : Obj)).get? h'.objs.size = some ({ cls := .type "function", data := .func (lamFn (Z.F i) (cloFrom X.env.cells (Z.F i).scope.names []) dV ((X.mg "__name__").getD .none) (.ref c') ctv) } : Obj) := Heap.get?_push_size _ rfl
    have I2 := I1.laid (t' := tk) (a := h'.objs.size) (o := LamO h'.objs.size (Z.F i) Z.C c' dV) (h' := h'.push ({ cls := .type "function", data := .func (lamFn (Z.F i) (cloFrom X.env.cells (Z.F i).scope.names []) dV ((X.mg "__name__").getD .none) (.ref c') ctv) } : Obj)) (fun b u e => Heap.get?_push_of_some _ e) (Nat.le_refl _) (lamO_ok (by rw [← hC]; exact eF))
    obtain ⟨M2, s2⟩ := M.newD (o := LamO h'.objs.size (Z.F i) Z.C c' dV) nF
    exact h _ _ _ _ I2 M2 s2 (.lam upd_same (s2.imm _ _ hco) (hd.mono s2.imm))
end
/-! ### the expression -/
/-- lambda i of the frame Z; its code's table has the number k -/
def fLam (k : Nat) (P : Addr) (q : Str) (Z : LamZ) (i : Nat) : Ev := fun _ m => match m[k]? with
  | some (.tab P' q') => if P' = P ∧ q' = q then .ok (.d (.lam i Z)) m else .bad
  | _ => .bad
/-- what is known of the frame that makes lambdas -/
structure LamC (X : Cx) (Z : LamZ) (P : Addr) : Prop where
  cells : X.env.cells = Z.C
  code : ∃ c, X.env.code = .ref c ∧ TabB X.base X.mg c P
def lamFreeB (sc scope : Scope) : Bool := scope.names.all fun y => !decide (y.2 = .free) || decide (sc.names.lookup y.1 = some .cell) || decide (sc.names.lookup y.1 = some .free)
theorem lam_free {X : Cx} {scope : Scope} (h : lamFreeB X.env.scope scope = true) (ok : X.Ok) : ∀ y ∈ scope.names, y.2 = .free → ∃ c, X.env.cells.lookup y.1 = some c := fun y hy e => by
  have z := List.all_eq_true.mp h y hy
  simp only [Bool.or_eq_true, Bool.not_eq_true', decide_eq_true_eq, decide_eq_false_iff_not] at z
  rcases z with (z | z) | z
  · exact absurd e z
  · exact ok.has _ (.inl z)
  · exact ok.has _ (.inr z)
section
variable {X : Cx} {Wx : WX}
theorem pd_lam {k i : Nat} {P : Addr} {q0 : Str} {Z : LamZ} {params : Arguments} {body : Expr} {scope : Scope} {pos : Pos} (L : LamC X Z P) (hq0 : X.env.qual ++ "<lambda>" = q0) (hF : Z.F i = ⟨X.env.qual ++ "<lambda>", params, body, scope⟩) (hfr : lamFreeB X.env.scope scope = true) (hdf : params.defaults = []) (hdef : defaultsOf params X.env = ([], [])) :
    PE X (.Lambda params body scope pos) (tD X.K X.mg Wx (fLam k P q0 Z i)) := by
  refine ⟨fun pins s σ H Q I h => ?_⟩
  obtain ⟨Hi, ι, ρ, m, RR, g⟩ := h
  unfold fLam at g
  split at g
  case h_2 => exact g.elim
  rename_i P' q hm
  split at g
  case isFalse => exact g.elim
  rename_i hq
  obtain ⟨rfl, rfl⟩ := hq
  have hm : m[k]? = some (.tab P' (Z.F i).qual) := by rw [hF]; show m[k]? = some (.tab P' (X.env.qual ++ "<lambda>")); rw [hq0]; exact hm
  obtain ⟨c, hc, TB⟩ := L.code
  refine PySem.W.kla_eval hdef ?_
  rw [makeFunction_eq]
  simp only [List.zip_nil_right, List.filterMap_nil, List.isEmpty_nil, if_true, pure_bind]
  have z := lam_make (X := X) (k := k) (c := c) (P := P') (Z := Z) (i := i) (pos := pos) (firstLine := pos.line) (dV := .none) (E := X.xe) (Q := EP X pins σ Q) I RR.mok TB hc L.cells hm (by rw [hF]; exact lam_free hfr I.ok) (.inl ⟨by rw [hF]; exact hdf, rfl⟩) fun f Hi1 H1 s' I1 M1 st rp => ⟨.ref f, H1, I1, rfl, g Hi1 ι (.ref f) H1 st M1 rp⟩
  rw [hF] at z
  exact z
theorem pd_lam1 {k i : Nat} {P : Addr} {q0 : Str} {Z : LamZ} {params : Arguments} {body : Expr} {scope : Scope} {pos p2 : Pos} {n : Int} {j : Nat} (L : LamC X Z P) (hq0 : X.env.qual ++ "<lambda>" = q0) (hF : Z.F i = ⟨X.env.qual ++ "<lambda>", params, body, scope⟩) (hfr : lamFreeB X.env.scope scope = true) (hdf : params.defaults ≠ []) (hdef : defaultsOf params X.env = ([eval (.Constant (.int n) j p2) X.env], [])) :
    PE X (.Lambda params body scope pos) (tD X.K X.mg Wx (fLam k P q0 Z i)) := by
  refine ⟨fun pins s σ H Q I h => ?_⟩
  obtain ⟨Hi, ι, ρ, m, RR, g⟩ := h
  unfold fLam at g
  split at g
  case h_2 => exact g.elim
  rename_i P' q hm
  split at g
  case isFalse => exact g.elim
  rename_i hq
  obtain ⟨rfl, rfl⟩ := hq
  have hm : m[k]? = some (.tab P' (Z.F i).qual) := by rw [hF]; show m[k]? = some (.tab P' (X.env.qual ++ "<lambda>")); rw [hq0]; exact hm
  obtain ⟨c, hc, TB⟩ := L.code
  rw [arm_eval_Lambda, hdef]
  show wpAny _ _ (do let dv ← evalAll [eval (.Constant (.int n) j p2) X.env]; let kdv ← holding dv (evalAllOpt []); makeFunction "<lambda>" (X.env.qual ++ "<lambda>") params (.expr body) scope X.env dv kdv [] pos pos.line) _ _ s
  refine wpAny_bind (evalAll_cons (wpAny_Constant_int (wpAny_evalAll_nil (wpAny_bind (wpAny_holding (wpAny_pure ?_))))))
  rw [makeFunction_eq]
  simp only [List.zip_nil_right, List.filterMap_nil, List.isEmpty_nil, List.isEmpty_cons, Bool.false_eq_true, if_false, if_true, pure_bind]
  refine wpAny_bind (wpAny_newTextTuple ?_)
  have I0 := I.tok (s.toks + 1)
  have nT : H s.heap.objs.size = none := I.hok.fresh (Nat.le_refl _)
  have eT : (s.heap.push ({ cls := .type "tuple", data := .seq [Value.int n s.toks].toArray } : Obj)).get? s.heap.objs.size = some ({ cls := .type "tuple", data := .seq [Value.int n s.toks].toArray } : Obj) := Heap.get?_push_size _ rfl
  have I1 := I0.laid (t' := s.toks + 1) (a := s.heap.objs.size) (o := .tup [.int n]) (h' := s.heap.push ({ cls := .type "tuple", data := .seq [Value.int n s.toks].toArray } : Obj)) (fun b u e => Heap.get?_push_of_some _ e) (Nat.le_refl _) ⟨by show 1 ≤ sizeLine; rw [sizeLine_eq]; decide, [Value.int n s.toks], .cons ⟨_, rfl⟩ .nil, _, eT, rfl, _, rfl⟩
  obtain ⟨M1, s1⟩ := RR.mok.newD (o := .tup [.int n]) nT
  have z := lam_make (X := X) (k := k) (c := c) (P := P') (Z := Z) (i := i) (pos := pos) (firstLine := pos.line) (dV := .ref s.heap.objs.size) (E := X.xe) (Q := EP X pins σ Q) I1 M1 TB hc L.cells hm (by rw [hF]; exact lam_free hfr I.ok) (.inr ⟨by rw [hF]; exact hdf, _, n, rfl, upd_same⟩) fun f Hi1 H1 s' I1 M1 st rp => ⟨.ref f, H1, I1, rfl, g Hi1 ι (.ref f) H1 (s1.trans st) M1 rp⟩
  rw [hF] at z
  exact z
end
end GD
/-! GL1: lambdas are called. -/
namespace GD
open PySem PySem.Spec PyProof.Rows L2 LamX
/-- the names of a lambda: own ones that the maker has not, captured ones, globals -/
structure LamW (N : List Str) (sc scope : Scope) : Prop where
  kind : scope.kind = .function
  co : scope.isCoroutine = false
  gen : scope.isGenerator = false
  nocell : ∀ y ∈ scope.names, y.2 ≠ .cell
  own : ∀ y ∈ scope.names, y.2 = .local → y.1 ∉ N
  free : ∀ y ∈ scope.names, y.2 = .free → sc.names.lookup y.1 = some .cell ∨ sc.names.lookup y.1 = some .free
def lamWB (N : List Str) (sc scope : Scope) : Bool :=
  decide (scope.kind = .function) && (!scope.isCoroutine && (!scope.isGenerator && ((scope.names.all fun y => !decide (y.2 = .cell)) && ((scope.names.all fun y => !decide (y.2 = .local) || !decide (y.1 ∈ N)) && lamFreeB sc scope))))
theorem lamW_by {N : List Str} {sc scope : Scope} (h : lamWB N sc scope = true) : LamW N sc scope := by
  unfold lamWB at h
  simp only [Bool.and_eq_true, Bool.not_eq_true', decide_eq_true_eq] at h
  obtain ⟨h1, h2, h3, h4, h5, h6⟩ := h
  refine ⟨h1, h2, h3, fun y hy e => ?_, fun y hy e hm => ?_, fun y hy e => ?_⟩
  · have z := List.all_eq_true.mp h4 y hy
    simp [e] at z
  · have z := List.all_eq_true.mp h5 y hy
    simp [e] at z
    exact z hm
  · have z := List.all_eq_true.mp h6 y hy
    simp only [e, Bool.or_eq_true, Bool.not_eq_true', decide_eq_true_eq, decide_eq_false_iff_not] at z
    rcases z with (z | z) | z
    · exact absurd trivial z
    · exact .inl z
    · exact .inr z
/-- how the names of a lambda are bound when it is called without arguments -/
def LamBind (F : LamF) : Prop :=
  (F.params.defaults = [] ∧ ∀ (cl : List (Str × Addr)) (pm cdv ctv : Value), bindArgs (lamFn F cl .none pm cdv ctv) ⟨[], []⟩ = pure []) ∨
  (F.params.defaults ≠ [] ∧ ∃ a, F.scope.names.lookup a = some .local ∧ ∀ (T : Addr) (cl : List (Str × Addr)) (pm cdv ctv : Value), ∃ k, bindArgs (lamFn F cl (.ref T) pm cdv ctv) ⟨[], []⟩ = (seqItems? (.ref T) >>= k) ∧ ∀ u, k (some #[u]) = pure [(a, u)])
section
variable {X : Cx} {pins : List (Addr × Obj)} {σ : L2.St} {H HZ : Hp} {s s1 : Shared} {ex : List Addr}
theorem lam_startG {A : Around} {outer : List PySem.Env} {E : XK} {scope : Scope} {f c' : Addr} {h₁ : Heap} {tk : Nat} {bs : List (Str × Value)} (I : Inv X pins σ H s) (L : LamW X.N X.env.scope scope) (e0 : Env0 X.prog X.w X.K X.mg X.base A outer s1 HZ) (hd : A.handled = none)
    (un : Un (frs X.stack) ex H HZ s.heap s1.heap) (hex : ∀ y c, X.env.cells.lookup y = some c → c ∉ ex) (hns : h₁.Ns s1.heap.objs.size fun y => bs.reverse.lookup y) (kp : ∀ b o, s1.heap.get? b = some o → h₁.get? b = some o) :
    Inv (lamCx X A outer s1 HZ E scope f c') [] σ HZ { s1 with heap := h₁, toks := tk } := by
  have hfree : ∀ y ∈ scope.names, y.2 = .free → ∃ c, X.env.cells.lookup y.1 = some c := fun y hy e => (L.free y hy e).elim (fun z => I.ok.has _ (.inl z)) fun z => I.ok.has _ (.inr z)
  have back : ∀ {y c}, (cloFrom X.env.cells scope.names []).lookup y = some c → X.env.cells.lookup y = some c := by
    intro y c e
    rcases cloFrom_mem (PySem.mem_of_lookup e) with z | ⟨z1, z2⟩
    · exact nomatch z
    obtain ⟨c1, z3⟩ := hfree _ z1 rfl
    have z3 : X.env.cells.lookup y = some c1 := z3
    rw [z3] at z2 ⊢
    rw [z2]
    rfl
  have forth : ∀ {y}, scope.names.lookup y = some .free → ∃ c, (cloFrom X.env.cells scope.names []).lookup y = some c := fun {y} z => mem_lookup (cloFrom_has (cells := X.env.cells) (acc := []) (PySem.mem_of_lookup z))
  have stays : ∀ {c : Addr} {v : Option Value}, H c = none → c ∉ ex → s.heap.IsCell c v → h₁.IsCell c v := by
    rintro c v n nx ⟨o, ho, hd⟩
    obtain ⟨sl, q⟩ := un.any ho n nx
    exact ⟨_, kp _ _ q, hd⟩
  have noA : ∀ b : Addr, b ∉ (lamCx X A outer s1 HZ E scope f c').ex := fun b z => nomatch (show b ∈ ([] : List Addr) from z)
  have ok : (lamCx X A outer s1 HZ E scope f c').Ok := by
    refine ⟨e0.mod, L.kind, rfl, rfl, Nat.le_refl _, fun y z c e1 e2 => I.ok.inj y z c (back e1) (back e2), fun y hy => ?_, fun y c z _ => (nomatch (show false = true from z)), fun _ => hd, Around.frames_deeper e0.frames, .inr ⟨rfl, rfl⟩, fun b z => absurd z (noA b), e0.bs, e0.bsz, fun b _ _ => noA b, fun b z => absurd z (noA b), e0.funs, e0.frf⟩
    rcases hy with z | z
    · exact absurd rfl (L.nocell _ (PySem.mem_of_lookup (show scope.names.lookup y = some .cell from z)))
    · exact forth z
  refine ⟨ok, rfl, e0.bare, Un.kept kp, ⟨_, hns, fun i y v e1 e2 e3 => ?_⟩, fun y c e => ?_, e0.hok.fresh (Nat.le_refl _), fun y c e => ?_, fun q hq => (nomatch (show q ∈ ([] : List (Addr × Obj)) from hq)), e0.hok.kept kp, I.len⟩
  · rcases (show Vis scope y from e3) with z | z | z
    · exact absurd (List.mem_of_getElem? e1) (L.own _ (PySem.mem_of_lookup z) rfl)
    · exact absurd rfl (L.nocell _ (PySem.mem_of_lookup z))
    · obtain ⟨m, _, hl⟩ := I.loc
      have fr := L.free _ (PySem.mem_of_lookup z) rfl
      obtain ⟨u, r, q⟩ := hl i y v e1 e2 (fr.elim (fun z => .inr (.inl z)) fun z => .inr (.inr z))
      obtain ⟨c2, h2⟩ := forth z
      have h3 := back h2
      refine ⟨u, r, .inr ⟨.inr z, c2, h2, ?_⟩⟩
      rcases q with ⟨z1, _⟩ | ⟨_, c3, e', z4⟩
      · have z1 : X.env.scope.names.lookup y = some .local := z1
        rcases fr with z2 | z2 <;> (rw [show X.env.scope.names.lookup y = _ from z2] at z1; cases z1)
      · rw [h3] at e'
        cases e'
        exact stays (I.freeC y _ h3) (hex y _ h3) z4
  · obtain ⟨u, z⟩ := I.cell y c (back e)
    exact ⟨u, stays (I.freeC y c (back e)) (hex y c (back e)) z⟩
  · obtain ⟨v, o, ho, _⟩ := I.cell y c (back e)
    exact un.free c o ho (I.freeC y c (back e)) (hex y c (back e))
/-- the lambda of the frame X, as it was at s, is called at s1 -/
theorem lam_run {k : Nat} {F : LamF} {A : Around} {outer : List PySem.Env} {f c' : Addr} {dV : Value} {Q : VK} {E : XK} {tb : TE} (I : Inv X pins σ H s) (L : LamW X.N X.env.scope F.scope) (B : LamBind F) (hq : F.qual = X.env.qual ++ "<lambda>") (e0 : Env0 X.prog X.w X.K X.mg X.base A outer s1 HZ) (hr : Room (k + 1) A)
    (un : Un (frs X.stack) ex H HZ s.heap s1.heap) (hex : ∀ y c, X.env.cells.lookup y = some c → c ∉ ex) (hf : HZ f = some (LamO f F X.env.cells c' dV)) (hc : HZ c' = some (CodeO c' F.qual)) (hd : DflO HZ F dV)
    (hbody : ∀ (A : Around) (outer : List PySem.Env) (s : Shared) (H : Hp), Room k (A.deeper (lamEnv X F.scope s.heap.objs.size f c')) → PE (lamCx X A outer s H E F.scope f c') F.body tb) (ht : tb σ HZ Q) :
    codeAny (model X.prog X.w) A (.call (.ref f) ⟨[], []⟩) (CR (L2.CX X.prog X.w) outer X.prog X.w HZ s1 Q E) s1 := by
  obtain ⟨od, sl, pm, ctv, of1⟩ := lamO_at e0.hok hf
  obtain ⟨⟨oc, vs, t, hoc, hdc, hvc⟩, _, _⟩ := e0.hok c' _ hc
  have lim : s1.heap.NoLimit := e0.mod.nolimit.keeps fun b o e => (e0.bs b o e).1
  have hb : ∃ bs : List (Str × Value), (∀ y ∈ bs, F.scope.names.lookup y.1 = some .local) ∧ BindsTo s1 (lamFn F (cloFrom X.env.cells F.scope.names []) dV pm (.ref c') ctv) ⟨[], []⟩ bs := by
    rcases B with ⟨b1, b2⟩ | ⟨b1, a, b2, b3⟩
    · rcases hd with ⟨_, rfl⟩ | ⟨z, _⟩
      · exact ⟨[], fun y hy => (nomatch hy), BindsTo.of_eq (b2 _ _ _ _)⟩
      · exact absurd b1 z
    · rcases hd with ⟨z, _⟩ | ⟨_, T, n, rfl, hT⟩
      · exact absurd z b1
      · obtain ⟨_, us, ru, oT, hoT, _, mm, hdT⟩ := e0.hok T _ hT
        obtain ⟨kk, k1, k2⟩ := b3 T (cloFrom X.env.cells F.scope.names []) pm (.ref c') ctv
        cases ru with
        | cons r1 r2 =>
          cases r2
          rename_i u
          exact ⟨[(a, u)], fun y hy => by rw [List.mem_singleton.mp hy]; exact b2, BindsTo.of_defaults rfl hoT hdT k1 (k2 u)⟩
  obtain ⟨bs, hl, hb⟩ := hb
  refine PySem.W.kla_callFunE hr.depth of1 rfl L.co L.gen rfl ⟨c', oc, vs, t, rfl, hoc, hdc, hvc⟩ (hb _ _ _ _ ?_)
  refine wpAny_newFunctionEnv L.nocell hl (fun h₁ hns hsb => ⟨lim.fresh _ hsb, ?_⟩) L.kind
  have kp : ∀ b o, s1.heap.get? b = some o → h₁.get? b = some o := fun b o e => hsb.extBut b o (Nat.ne_of_lt (Heap.lt_size e)) (Heap.get?_push_of_some _ e)
  have J := lam_startG (E := E) (f := f) (c' := c') (tk := s1.toks + bs.length) I L e0 hr.hd un hex hns kp
  show codeAny _ _ (.expr F.body (PySem.W.envX F.qual F.scope s1.heap.objs.size f (.ref c') (cloFrom X.env.cells F.scope.names []))) _ _
  rw [hq]
  refine PySem.W.kla_codeExpr (wpAny_mono ((hbody A outer s1 HZ (hr.deeper _)).run [] _ σ HZ Q J ht) (fun v s' z => ?_) fun e s' z => z)
  obtain ⟨w', H', J', rv, q⟩ := z
  exact ⟨w', H', J'.os, J'.bare, J'.base, J'.hok, rv, q⟩
end
/-! ### several clauses 'except x as n' -/
/-- behind the suite the name is gone -/
def offI (i : Nat) (D : Ends) : Ends := { nx := fun σ H => D.nx (σ.set i none) H, rt := D.rt, bk := fun σ H => D.bk (σ.set i none) H, ct := fun σ H => D.ct (σ.set i none) H }
abbrev ClT := Value × (Addr → Value → Option Addr → TS)
def wAll (K : PySem.W.Frag) (Wout : WX) (i : Nat) (D : Ends) : List ClT → WX
  | [] => Wout
  | q :: r => fun cls d σ H => ∃ b, PySem.W.exmOne K cls q.1 = some b ∧ (b = true → ∀ a, H a = none → q.2 a cls d (offI i D) (σ.set i (some (.ref a))) H) ∧ (b = false → wAll K Wout i D r cls d σ H)
/-- the clauses, each with its suite's reading -/
inductive HdsA (X : Cx) (n : Str) : List ExceptHandler → List ClT → Prop
  | nil : HdsA X n [] []
  | cons {x : Str} {q : ClT} {b₀ : Stmt} {suite : List Stmt} {np pos' : Pos} {hds : List ExceptHandler} {l : List ClT} (hc : Names X x q.1)
      (hsu : ∀ (a : Addr) (oe : Obj) (cls : Value) (d : Option Addr) (pn : List (Addr × Obj)), Zc cls d oe → (∃ vs, oe.data = .fields vs) → PSs (X.suite a ((a, oe) :: pn)) (b₀ :: suite) (q.2 a cls d)) (r : HdsA X n hds l) :
      HdsA X n (.ExceptHandler (some (.Name x np)) (some n) (b₀ :: suite) pos' :: hds) (q :: l)
section
variable {X : Cx} {n : Str} {i : Nat} {body : List Stmt} {h₀ : ExceptHandler} {hds : List ExceptHandler} {l : List ClT} {pos : Pos} {tb : WX → TS} {Wout : WX}
theorem ps_try_all (hs : X.stack = X.env :: X.outer) (hf : X.env.frame = some X.env.locals) (hN : X.N.Nodup) (hi : X.N[i]? = some n) (hln : X.env.kindOf n = some .local) (tk : Takes X Wout)
    (hb : ∀ (W : WX) (pn : List (Addr × Obj)) (xe : Value → Shared → Prop), Takes (X.tr pn xe) W → PassesOwn (model X.prog X.w) X.A X.env xe → PSs (X.tr pn xe) body (tb W))
    (hh : HdsA X n (h₀ :: hds) l) : PS X (.Try body (h₀ :: hds) [] [] pos) (fun D σ H => tb (wAll X.K Wout i D l) D σ H) := by
  refine ⟨fun pins s σ H D I h => wpAny_Try_except (wpAny_mono ((hb (wAll X.K Wout i D l) (X.pn ++ pins) _ (fun u s' xx => ?_) PassesOwn.looking).run [] s σ H D (I.toTry _) h) (fun f s1 z => ?_) fun e s1 z => z)⟩
  · have ok := I.ok
    have fr : X.A.frames = some (X.env :: X.outer) := by rw [ok.frames, hs]
    obtain ⟨a, B, sI, pins', σ', H', cls, d, rfl, J', nb, up, sky, na, os, ag, w⟩ := xx
    have J : Inv X pins σ' H' sI := J'.ofTry ok
    rw [hs] at sky
    show wpAny (model X.prog X.w) X.A (noteFrame (.ref a) X.env) _ _ _
    refine Sky.land Zc.steady fr hf sky fun h3 fl3 up3 => ?_
    obtain ⟨oe3, vs3, he3, hz3, hd3⟩ := fl3.there
    have out : a ∉ frs (X.env :: X.outer) := fun hm => by
      obtain ⟨_, o', e', hnf⟩ := fl3.2.2.1.mem hm
      rw [he3] at e'
      cases e'
      exact hnf _ hd3
    have nL : a ≠ X.env.locals := fun z => out (List.mem_filterMap.mpr ⟨X.env, List.mem_cons_self, by rw [hf, z]⟩)
    have nF : a ∉ X.fs := fun hm => by
      obtain ⟨e, he, q⟩ := List.mem_filterMap.mp hm
      exact out (List.mem_filterMap.mpr ⟨e, List.mem_cons_of_mem _ he, q⟩)
    have J3 : Inv X pins σ' H' { s' with heap := h3 } := J.landed nb fl3.1 (up.trans up3) os ag
    have S3 := J3.suite he3 hd3 na nL nF
    suffices go : ∀ {hs' : List ExceptHandler} {l' : List ClT}, HdsA X n hs' l' → wAll X.K Wout i D l' cls d σ' H' → wpAny (model X.prog X.w) X.A (handleBy (.ref a) X.env hs') (SP X pins D) X.xe { s' with heap := h3 } from go hh w
    intro hs' l' hk
    induction hk with
    | nil =>
      intro w
      refine wpAny_handleBy_nil ?_
      obtain ⟨k1, k2, k3, oe, vs, T, oT, ts', he, hz, hd, h1, hr⟩ := id fl3
      have fin : wpAny (model X.prog X.w) X.A (setFlight (.ref a) X.env.frame) (fun _ s4 => wpAny (model X.prog X.w) X.A (throw (.ref a) : Sem Flow) (SP X pins D) X.xe s4) X.xe { s' with heap := h3 } := by
        rw [hf]
        exact HandSPX.setFlight_upZ fl3 fun h4 hh4 up4 => wpAny_throw (tk _ _ ⟨a, B, sI, pins, σ', H', cls, d, rfl, J, nb, (up.trans up3).trans up4, .inr (.inr (by rw [hs]; exact hh4)), na, os, ag, w⟩)
      unfold PySem.passOn
      refine wpAny_bind (wpAny_field he hd h1 ?_)
      rw [if_neg (show ¬ ((Value.ref T == Value.none) = true) from by simp)]
      first
        | exact wpAny_bind (wpAny_pure (wpAny_bind fin))
        | exact wpAny_bind fin
    | @cons x q b₀ suite np pos' hds2 l2 hc hsu r ih =>
      intro w
      obtain ⟨b, hb1, hyes, hno⟩ := w
      have LT : PySem.W.Looks (model X.prog X.w) h3 (typeOf (.ref a)) cls := fun A Q E s k z => wpAny_typeOf_ref (k _ _ he3) (by rw [hz3.1]; exact z)
      have LM := PySem.W.exm_one (M := model X.prog X.w) J3.kIn LT hb1
      have seen : ∀ {Q : Value → Shared → Prop} {E : Value → Shared → Prop}, Q q.1 { s' with heap := h3 } → wpAny (model X.prog X.w) (X.A.mark (some (.ref a))) (eval (.Name x np) X.env) Q E { s' with heap := h3 } := by
        intro Q E z
        obtain ⟨hg, hdb, hm | ⟨hm, hv, hnn⟩⟩ := hc
        · exact ld_glob (X := X.suite a ((a, oe3) :: (X.pn ++ pins))) S3 hg hm z hdb
        · exact ld_blt (X := X.suite a ((a, oe3) :: (X.pn ++ pins))) S3 hg hm hv z hnn hdb
      refine wpAny_handleBy_cons (codeAny_handlers_test (seen (LM.here ?_))) (by intro z; cases z)
      cases b with
      | false => exact ih (hno rfl)
      | true =>
        refine codeAny_handlers_suite_as (HandSPX.lands_againZ fl3 fun h4 fl4 up4 => ?_)
        obtain ⟨oe4, vs4, he4, hz4, hd4⟩ := fl4.there
        have J4 : Inv X pins σ' H' { s' with heap := h4 } := J.landed nb fl4.1 ((up.trans up3).trans up4) os ag
        have S4 := J4.suite he4 hd4 na nL nF
        refine store_ok (X := X.suite a ((a, oe4) :: (X.pn ++ pins))) (v := .ref a) S4 hN hi (.inl hln) rfl (fun s5 S5 => ?_) (.inr hln)
        refine wpAny_mono ((hsu a oe4 cls d (X.pn ++ pins) hz4 ⟨_, hd4⟩).run [] s5 _ H' _ S5 (hyes rfl a na)) (fun f s6 z => ?_) fun _ _ z => z.elim
        cases f with
        | next => obtain ⟨σ6, H6, S6, q6⟩ := z; exact gone_ok (S6.unsuite ok) hN hi hln fun s7 J7 => ⟨_, _, J7, q6⟩
        | brk => obtain ⟨σ6, H6, S6, q6⟩ := z; exact gone_ok (S6.unsuite ok) hN hi hln fun s7 J7 => ⟨_, _, J7, q6⟩
        | cont => obtain ⟨σ6, H6, S6, q6⟩ := z; exact gone_ok (S6.unsuite ok) hN hi hln fun s7 J7 => ⟨_, _, J7, q6⟩
        | ret u => obtain ⟨v6, σ6, H6, S6, r6, q6⟩ := z; exact gone_ok (S6.unsuite ok) hN hi hln fun s7 J7 => ⟨_, _, _, J7, r6, q6⟩
  · have ok := I.ok
    cases f with
    | next => obtain ⟨σ', H', J', q⟩ := z; exact wpAny_execs_nil ⟨σ', H', J'.ofTry ok, q⟩
    | brk => obtain ⟨σ', H', J', q⟩ := z; exact ⟨σ', H', J'.ofTry ok, q⟩
    | cont => obtain ⟨σ', H', J', q⟩ := z; exact ⟨σ', H', J'.ofTry ok, q⟩
    | ret u => obtain ⟨v, σ', H', J', r, q⟩ := z; exact ⟨v, σ', H', J'.ofTry ok, r, q⟩
end
end GD
/-! GL2: the exception that is handled; the def that tries. -/
namespace GD
open PySem PySem.Spec PyProof.Rows L2 LamX
instance : DecidableEq XT := fun x y => decidable_of_iff (x.a = y.a ∧ x.C = y.C ∧ x.dd = y.dd) (by cases x; cases y; simp)
/-- p is the exception x -/
structure XPin (x : XT) (p : Addr × Obj) : Prop where
  at_ : p.1 = x.a
  cls : Zc (.ref x.C) (some x.dd) p.2
  flds : ∃ vs, p.2.data = .fields vs
/-- the attributes ats of the class are its instances' own -/
structure XF (K : PySem.W.Frag) (ats : List Str) (C : Addr) : Prop where
  xf : XfC K C
  no : ∀ n ∈ ats, PySem.W.findIn K (.ref C) n = some none
def fXf (x : XT) (n : Str) (f : Ev) : Ev := fun ρ m => (f ρ m).bind fun w m => match w with
  | .d (.xin y ns vs) => if y = x then (match (ns.zip vs).lookup n with
    | some v => .ok (.d v) m
    | none => .bad) else .bad
  | _ => .bad
/-- the context of a def that is called while x is handled -/
structure CcH (X : Cx) (ats : List Str) (x : XT) (k : Nat) : Prop where
  nd : X.N.Nodup
  room : L2H.RoomH k X.A
  pin : ∃ p, XPin x p ∧ p ∈ X.pn
  xf : XF X.K ats x.C
theorem op_inH {X : Cx} {k : Nat} (hr : L2H.RoomH k X.A) : OpR X (compareOp .In) (rInU X.K) := OpR.or (OpR.or (op_inD (by have := hr.un; omega)) (op_inTup (by have := hr.un; omega))) op_in_sign
theorem op_eqH {X : Cx} {k : Nat} (hr : L2H.RoomH k X.A) : OpR X (compareOp .Eq) (rEqU X.K) := OpR.or op_eq (op_eqD (by have := hr.un; omega))
section
variable {X : Cx} {Wx : WX} {kk : Nat}
theorem pd_xf {x : XT} {ats : List Str} {n : Str} {e : Expr} {pos : Pos} {f : Ev} (c : CcH X ats x kk) (hn : n ∈ ats) (he : PE X e (tD X.K X.mg Wx f)) (hb : attributeBase e n X.env (eval e X.env) = eval e X.env := by rfl) : PE X (.Attribute e n pos) (tD X.K X.mg Wx (fXf x n f)) := by
  refine ⟨fun pins s σ H Q I h => ?_⟩
  obtain ⟨Hi, ι, ρ, m, RR, g⟩ := h
  refine attr_of hb (thn (he.run pins s σ H (fun v H1 => ∃ (fs : List (Str × V)) (u : V), v = .ref x.a ∧ H1 x.dd = some (.xd fs) ∧ fs.lookup n = some u ∧ Q u H1) I ⟨Hi, ι, ρ, m, RR, good_bind g fun w m1 Hi1 ι1 v H1 st M rv g1 => ?_⟩) fun u s1 hh => ?_)
  · split at g1
    case h_2 => exact g1.elim
    rename_i y ns vs
    split at g1
    case isFalse => exact g1.elim
    rename_i hy
    subst hy
    split at g1
    case h_2 => exact g1.elim
    rename_i d hl
    cases rv with
    | xin h1 h2 h3 =>
      rename_i fs
      obtain ⟨u, k1, k2⟩ := fld_some h3 hl
      exact ⟨_, u, rfl, M.sub _ _ h1, k1, g1.here (rep := RepW X.K X.mg) M k2⟩
  · obtain ⟨v, H1, I1, rx, fs, w, ev, ea, l, q⟩ := hh
    subst ev
    obtain rfl : u = Value.ref x.a := rx
    obtain ⟨p, ⟨p1, p2, vs, p3⟩, hp⟩ := c.pin
    obtain ⟨ha, _⟩ := I1.pin p (List.mem_append_left _ hp)
    rw [p1] at ha
    have hx : ObjOk X.prog X.w H1 s1.heap x.dd (.xd fs) := I1.hok x.dd _ ea
    obtain ⟨mA, hns, hr⟩ := hx
    obtain ⟨od, ho, hl⟩ := lookIn_ns hns
    obtain ⟨u, hu, ru⟩ := RelO.some_of (v := w) (o := mA n) (by rw [← l]; exact hr n)
    have J : PySem.W.InstAt s1.heap x.a p.2 x.C (some od) := ⟨ha, p2.1, by unfold PySem.W.notCls; rw [p3] <;> rfl, by rw [p2.2]; exact ho⟩
    exact HandSPX.exc_get I1.kIn J c.xf.xf.ga c.xf.xf.gg c.xf.xf.exC (PySem.W.findObj_own c.xf.xf.hdC (c.xf.no n hn) rfl (by rw [hl, hu])) (handed_of ru) ⟨w, H1, I1.tok _, ru, q⟩
end
/-- what the def y promises while an exception is handled -/
structure FieldOk (P : Program) (w : World) (K : PySem.W.Frag) (mg : Str → Option Value) (base : Heap) (y : Str) (ats : List Str) (k : Nat) (g : XT → Fn) : Prop where
  ex : ∃ f, mg y = some (.ref f) ∧ PySem.W.keepIn K (.ref f) = true ∧ ∀ (A : Around) (outer : List PySem.Env) (s : Shared) (H : Hp) (p : Addr × Obj) (x : XT) (Q : VK) (Hi : Hp) (ι : List Addr) (ns : List Str) (vs : List D) (m : Mem),
    L2H.RoomH k A → L2H.PinOk outer H s p → Env0 P w K mg base A outer s H → XPin x p → XF K ats x.C → Mok K mg Hi ι m H → Rep K mg Hi (.ref x.a) (.xin x ns vs) → Good K mg (RepW K mg) W0 [] Hi ι H (g x [.d (.xin x ns vs)] m) Q →
    codeAny (model P w) A (.call (.ref f) ⟨[.ref x.a], []⟩) (CR (L2.CX P w) outer P w H s Q (fun _ _ _ => False)) s
theorem field_ok {P : Program} {w : World} {K : PySem.W.Frag} {mg : Str → Option Value} {base : Heap} {y e : Str} {ats : List Str} {st : Stmt} {N : List Str} {k n : Nat} {b : XT → Ex} (T : TopDef K mg y st) (S : FnScope N [e] (defScope st)) (hn : N.length = n)
    (hb : ∀ (kV doc pm : Value) (an : Option Addr) (cdv ct : Value) (us : List Value), us.length = 1 → bindArgs (PySem.W.fnOf y y (defArgs st) (defBody st) (defScope st) .none kV doc pm an cdv ct) ⟨us, []⟩ = pure (List.zip [e] us))
    (hbody : ∀ (f : Addr) (cdv : Value) (A : Around) (outer : List PySem.Env) (s : Shared) (H : Hp) (p : Addr × Obj) (x : XT), CcH (L2H.cxH (L2.CX P w) P w K mg base N y (defScope st) f cdv A outer s H (fun _ _ _ => False) p) ats x k →
      PSs (L2H.cxH (L2.CX P w) P w K mg base N y (defScope st) f cdv A outer s H (fun _ _ _ => False) p) (defBody st) (tDS K mg W0 (b x))) : FieldOk P w K mg base y ats (k + 1) (fun x => fnOf false 1 n (b x)) := by
  obtain ⟨f, fd, F, hm⟩ := T.ex
  obtain ⟨oc, od, kV, doc, pm, an, cdv, ct, osl, rfl, lk, hcd⟩ := F.ex
  refine ⟨f, hm, F.kp, fun A outer s H p x Q Hi ι ns vs m hr hpin e0 hx hxf M rp g => ?_⟩
  have KX : K.In s.heap := e0.mod.kin.keeps fun b o z => (e0.bs b o z).1
  have lim : s.heap.NoLimit := e0.mod.nolimit.keeps fun b o z => (e0.bs b o z).1
  refine codeAny_call_function hr.depth (KX _ _ lk) rfl S.co S.gen rfl (PySem.W.codeRec_of KX hcd) (BindsTo.of_eq (hb kV doc pm an cdv ct [.ref x.a] rfl) _ _ _ _ ?_)
  refine wpAny_newFunctionEnv_cells S.kind (fun z hz => ?_) fun env he s1 ic => ?_
  · have hz : z = (e, Value.ref x.a) := by simpa using hz
    subst hz
    rcases S.par e (by simp) with q | q
    · exact .inl q
    · exact .inr ⟨q, PySem.W.cellsFrom_some _ _ _ (.inl q)⟩
  subst he
  refine ⟨lim.keeps ic.toInCall.keep, codeAny_func ?_⟩
  have I := L2H.inv_startH (CX := L2.CX P w) (P := P) (w := w) (E := fun _ _ _ => False) (vs := [V.ref x.a]) (us := [Value.ref x.a]) S hpin e0 rfl (.cons rfl .nil) ic
  have C : CcH (L2H.cxH (L2.CX P w) P w K mg base N y (defScope st) f cdv A outer s H (fun _ _ _ => False) p) ats x k := ⟨S.nd, hr.deeper _, ⟨p, hx, List.mem_singleton.mpr rfl⟩, hxf⟩
  have z := body_imp (E := fun _ _ _ => False) (mu := false) (np := 1) (N := N) (b := b x) (vs := [V.ref x.a]) (ws := [.d (.xin x ns vs)]) hn M (.cons rp .nil) g
  refine wpAny_mono ((hbody f cdv A outer s H p x C).run [] s1 _ H _ I z) (fun fl s' hs => ?_) fun _ _ hs => hs
  cases fl with
  | ret u =>
    obtain ⟨v, σ', H', J, rv, q⟩ := hs
    exact ⟨v, H', J.os, J.bare, J.base, J.hok, rv, q⟩
  | next =>
    obtain ⟨σ', H', J, q⟩ := hs
    exact ⟨V.non, H', J.os, J.bare, J.base, J.hok, rfl, q⟩
  | brk =>
    obtain ⟨_, _, _, q⟩ := hs
    exact q.elim
  | cont =>
    obtain ⟨_, _, _, q⟩ := hs
    exact q.elim
/-! ### the suite -/
/-- return (e.code, y(e)) -/
def tryX (fh : XT → Fn) (x : XT) (ns : List Str) (vs : List D) (m : Mem) : R W := match (ns.zip vs).lookup ("code" : Str) with
  | some code => (fh x [.d (.xin x ns vs)] m).bind fun w m' => match w with
    | .d z => .ok (.d (.tup [code, z])) m'
    | .m _ => .bad
  | none => .bad
def tsX (K : PySem.W.Frag) (mg : Str → Option Value) (ats : List Str) (fh : XT → Fn) (a : Addr) (cls : Value) (d : Option Addr) : TS := fun Ds σ H => ∃ (C dd : Addr) (Hi : Hp) (ι : List Addr) (m : Mem) (ns : List Str) (vs : List D) (fs : List V),
  cls = .ref C ∧ d = some dd ∧ σ[1]? = some (some (.ref a)) ∧ XF K ats C ∧ Mok K mg Hi ι m H ∧ Hi dd = some (.xd (ns.zip fs)) ∧ ns.length = fs.length ∧ RepL K mg Hi fs vs ∧ Good K mg (RepW K mg) W0 [] Hi ι H (tryX fh ⟨a, C, dd⟩ ns vs m) Ds.rt
theorem try_suite {X : Cx} {y e : Str} {ats : List Str} {k : Nat} {fh : XT → Fn} {a : Addr} {oe : Obj} {cls : Value} {d : Option Addr} {pn : List (Addr × Obj)} {p1 p2 p3 p4 p5 p6 p7 : Pos} {j : Nat} (F : FieldOk X.prog X.w X.K X.mg X.base y ats k fh) (hr : Room k X.A) (hcode : ("code" : Str) ∈ ats) (hN : X.N[1]? = some e) (hv : Vis X.env.scope e)
    (hg : Gl X y) (hz : Zc cls d oe) (hf : ∃ vs, oe.data = .fields vs) (hd : (e == ("__debug__" : Str)) = false) (hcd : (e == ("__classdict__" : Str)) = false) (hdy : (y == ("__debug__" : Str)) = false) :
    PSs (X.suite a ((a, oe) :: pn)) [.Return (some (.Tuple [.Attribute (.Name e p1) "code" p2, .Call (.Name y p3) [.Name e p4] [] p5] j p6)) p7] (tsX X.K X.mg ats fh a cls d) := by
  refine ⟨fun pins s σ H D I h => ?_⟩
  obtain ⟨C, dd, Hi, ι, m, ns, vs, fs, rfl, rfl, hs, hxf, M, hdd, hl, rl, g⟩ := h
  obtain ⟨f, hm, hk, run⟩ := F.ex
  have hvar : ∀ p : Pos, PE (X.suite a ((a, oe) :: pn)) (.Name e p) (tVar 1) := fun p => pe_var hN hv hd hcd
  have h1 : PE (X.suite a ((a, oe) :: pn)) (.Attribute (.Name e p1) "code" p2) (tXf a (.ref C) (some dd) C "code" (tVar 1)) := pe_xf hxf.xf (hxf.no _ hcode) hz hf (hvar p1)
  have h2 : PE (X.suite a ((a, oe) :: pn)) (.Call (.Name y p3) [.Name e p4] [] p5) (fun σ H Q => σ[1]? = some (some (.ref a)) ∧ ∃ Hi ι m, Mok X.K X.mg Hi ι m H ∧ Rep X.K X.mg Hi (.ref a) (.xin ⟨a, C, dd⟩ ns vs) ∧ Good X.K X.mg (RepW X.K X.mg) W0 [] Hi ι H (fh ⟨a, C, dd⟩ [.d (.xin ⟨a, C, dd⟩ ns vs)] m) Q) := by
    refine ⟨fun pins s σ H Q I hq => ?_⟩
    obtain ⟨q0, Hi, ι, m, M, rp, g⟩ := hq
    refine wpAny_Call_Name_kw (ld_glob I hg hm ?_ hdy)
    refine PySem.W.callWith_K (h₀ := X.base) I.ok.mod.kin hk (thn ((pa_cons (hvar p4) pa_nil).run p5 pins s σ H (fun xs H1 => xs = [.ref a] ∧ H1 = H) I ⟨_, q0, rfl, rfl⟩) fun us s1 ⟨xs, H1, I1, r, e1, e2⟩ => ⟨I1.kIn, ?_⟩) rfl rfl
    subst e1
    rw [e2] at I1
    cases r with
    | cons r1 r2 =>
      cases r2
      cases r1
      have P1 := I1.pin (a, oe) (List.mem_append_left _ List.mem_cons_self)
      have pk : L2H.PinOk X.stack H s1 (a, oe) := ⟨P1.1, P1.2.1, fun hm => (List.mem_cons.mp (I1.stkSub a hm)).elim P1.2.2.1 P1.2.2.2.1, P1.2.2.2.2⟩
      refine wpAny_call (codeAny_mono (run _ X.stack s1 H (a, oe) ⟨a, C, dd⟩ Q Hi ι ns vs m ⟨hr.dp, hr.un⟩ pk I1.env0 ⟨rfl, hz, hf⟩ hxf M rp g) fun r s' z => ?_)
      cases r with
      | error er =>
        obtain ⟨_, _, _, _, _, _, _, _, _, _, _, _, z⟩ := z
        exact z.elim
      | ok fl =>
        cases fl with
        | ret u => exact I1.after z
        | next => exact z.elim
        | brk => exact z.elim
        | cont => exact z.elim
  refine (pss_one (ps_ret (pe_tup (pa_cons h1 (pa_cons h2 pa_nil))))).run pins s σ H D I ?_
  unfold tryX at g
  split at g
  case h_2 => exact g.elim
  rename_i code hc
  obtain ⟨u, k1, k2⟩ := fld_some rl hc
  have rx : Rep X.K X.mg Hi (.ref a) (.xin ⟨a, C, dd⟩ ns vs) := Rep.xin (x := ⟨a, C, dd⟩) hdd hl rl
  refine ⟨.ref a, hs, rfl, rfl, dd, ns.zip fs, u, rfl, M.sub _ _ hdd, k1, hs, Hi, ι, m, M, rx, good_bind g fun w m1 Hi1 ι1 v H1 st M1 rv g1 => ?_⟩
  cases w with
  | m _ => exact g1.elim
  | d z =>
    refine ⟨by show 2 ≤ sizeLine; rw [sizeLine_eq]; decide, fun p hp => ?_⟩
    obtain ⟨M2, st2⟩ := M1.newD (o := .tup [u, v]) hp
    exact g1 _ _ _ _ st2 M2 (.tup (.inl (.inl upd_same)) (.cons (Rep.mono (st.imm.trans st2.imm) k2) (.cons (Rep.mono st2.imm rv) .nil)))
/-! ### the def -/
open Classical in
/-- what is the same for every exception -/
noncomputable def allX (f : XT → R W) : R W := if h : ∃ r, ∀ x, f x = r then h.choose else .bad
theorem allX_eq {f : XT → R W} {r : R W} (h : ∀ x, f x = r) : allX f = r := by
  have z : ∃ r, ∀ x, f x = r := ⟨r, h⟩
  unfold allX
  rw [dif_pos z]
  exact (z.choose_spec ⟨0, 0, 0⟩).symm.trans (h _)
theorem allX_at {f : XT → R W} (x : XT) : f x = allX f ∨ allX f = .bad := by
  unfold allX
  by_cases z : ∃ r, ∀ x, f x = r
  · rw [dif_pos z]
    exact .inl (z.choose_spec x)
  · rw [dif_neg z]
    exact .inr rfl
/-- cs: the errors that are caught -/
noncomputable def tryR (cs : List Str) (fh : XT → Fn) (r : R W) : R W := match r with
  | .ok (.d v) m => .ok (.d (.tup [.str "value", v])) m
  | .ok (.m _) _ => .bad
  | .exc c ns vs m => if c ∈ cs then allX (fun x => tryX fh x ns vs m) else .bad
  | .bad => .bad
/-- the error c is caught by 'except b1' or, if not, by 'except b2' -/
structure TryC (K : PySem.W.Frag) (mg : Str → Option Value) (b1 b2 : Str) (ats : List Str) (c : Str) : Prop where
  ex : ∃ C C1 C2, mg c = some (.ref C) ∧ mg b1 = some (.ref C1) ∧ mg b2 = some (.ref C2) ∧ XF K ats C ∧ (PySem.W.exmOne K (.ref C) (.ref C1) = some true ∨ (PySem.W.exmOne K (.ref C) (.ref C1) = some false ∧ PySem.W.exmOne K (.ref C) (.ref C2) = some true))
def trySuite (e fld : Str) (q2 q3 q4 q5 q6 q7 q8 : Pos) (j : Nat) : List Stmt := [.Return (some (.Tuple [.Attribute (.Name e q2) "code" q3, .Call (.Name fld q4) [.Name e q5] [] q6] j q7)) q8]
def tryBody (a e fld b1 b2 : Str) (p1 p2 p3 p4 p5 p6 q1 q2 q3 q4 q5 q6 q7 q8 q9 r1 r2 r3 r4 r5 r6 r7 r8 r9 : Pos) (j1 j2 j3 j4 : Nat) : List Stmt :=
  [.Try [.Return (some (.Tuple [.Constant (.str "value") j1 p1, .Call (.Name a p2) [] [] p3] j2 p4)) p5]
    [.ExceptHandler (some (.Name b1 q1)) (some e) (trySuite e fld q2 q3 q4 q5 q6 q7 q8 j3) q9, .ExceptHandler (some (.Name b2 r1)) (some e) (trySuite e fld r2 r3 r4 r5 r6 r7 r8 j4) r9] [] [] p6]
/-- what is known of the def y that tries -/
structure TryDef (K : PySem.W.Frag) (mg : Str → Option Value) (y a e fld b1 b2 : Str) (st : Stmt) : Prop where
  top : TopDef K mg y st
  sc : FnScope [a, e] [a] (defScope st)
  bind : ∀ (kV doc pm : Value) (an : Option Addr) (cdv ct : Value) (us : List Value), us.length = 1 → bindArgs (PySem.W.fnOf y y (defArgs st) (defBody st) (defScope st) .none kV doc pm an cdv ct) ⟨us, []⟩ = pure (List.zip [a] us)
  body : ∃ p1 p2 p3 p4 p5 p6 q1 q2 q3 q4 q5 q6 q7 q8 q9 r1 r2 r3 r4 r5 r6 r7 r8 r9 j1 j2 j3 j4, defBody st = tryBody a e fld b1 b2 p1 p2 p3 p4 p5 p6 q1 q2 q3 q4 q5 q6 q7 q8 q9 r1 r2 r3 r4 r5 r6 r7 r8 r9 j1 j2 j3 j4
  la : (defScope st).names.lookup a = some .local
  le : (defScope st).names.lookup e = some .local
  g1 : (defScope st).names.lookup b1 = some .globalImplicit
  g2 : (defScope st).names.lookup b2 = some .globalImplicit
  gf : (defScope st).names.lookup fld = some .globalImplicit
  db : [a, e, fld, b1, b2].all (fun z => !(z == ("__debug__" : Str)) && !(z == ("__classdict__" : Str))) = true
  cls : ∃ C1 C2, mg b1 = some (.ref C1) ∧ mg b2 = some (.ref C2)
/-- the lambda i of the frame X: its body's mirror f -/
structure LamAt (X : Cx) (F : LamF) (k : Nat) (f : Ev) : Prop where
  w : LamW X.N X.env.scope F.scope
  b : LamBind F
  q : F.qual = X.env.qual ++ "<lambda>"
  run : ∀ (A : Around) (outer : List PySem.Env) (s : Shared) (H : Hp) (E : XK) (fa c' : Addr), Cc (lamCx X A outer s H E F.scope fa c') (fun c d _ H' => E c d H') k → PE (lamCx X A outer s H E F.scope fa c') F.body (tD X.K X.mg (fun c d _ H' => E c d H') f)
theorem not_of {l : List Str} {z : Str} (h : l.all (fun z => !(z == ("__debug__" : Str)) && !(z == ("__classdict__" : Str))) = true) (hz : z ∈ l) : (z == ("__debug__" : Str)) = false ∧ (z == ("__classdict__" : Str)) = false := by
  have q := List.all_eq_true.mp h z hz
  simpa using q
section
variable {X : Cx} {pins : List (Addr × Obj)} {σ : L2.St} {HM H : Hp} {sM s : Shared} {ex : List Addr}
theorem try_run {y a e fld b1 b2 : Str} {st : Stmt} {ats cs : List Str} {k kf i : Nat} {fh : XT → Fn} {f : Ev} {Z : LamZ} {fa : Addr} {Q : VK} {Hi : Hp} {ι : List Addr} {ρ : Env} {m : Mem} (T : TryDef X.K X.mg y a e fld b1 b2 st) (FF : FieldOk X.prog X.w X.K X.mg X.base fld ats kf fh) (hcode : ("code" : Str) ∈ ats) (hcs : ∀ c ∈ cs, TryC X.K X.mg b1 b2 ats c)
    (IM : Inv X pins σ HM sM) (e0 : Env0 X.prog X.w X.K X.mg X.base X.A X.stack s H) (un : Un (frs X.stack) ex HM H sM.heap s.heap) (hex : ∀ y c, X.env.cells.lookup y = some c → c ∉ ex) (hN : X.N.Nodup) (hr : Room (k + 2) X.A) (hkf : kf ≤ k + 1) (hC : X.env.cells = Z.C) (L : LamAt X (Z.F i) k f)
    (M : Mok X.K X.mg Hi ι m H) (hS : RepS X.K X.mg Hi ι ρ σ) (hl : Rep X.K X.mg Hi (.ref fa) (.lam i Z)) (g : Good X.K X.mg (RepW X.K X.mg) W0 [] Hi ι H (tryR cs fh (f ρ m)) Q) :
    ∃ gf, X.mg y = some (.ref gf) ∧ PySem.W.keepIn X.K (.ref gf) = true ∧ codeAny (model X.prog X.w) X.A (.call (.ref gf) ⟨[.ref fa], []⟩) (CR C8.CX0 X.stack X.prog X.w H s Q C8.E0) s := by
  obtain ⟨gf, fd, F, hm⟩ := T.top.ex
  obtain ⟨oc, od, kV, doc, pm, an, cdv, ct, osl, rfl, lk, hcd⟩ := F.ex
  obtain ⟨p1, p2, p3, p4, p5, p6, q1, q2, q3, q4, q5, q6, q7, q8, q9, r1, r2, r3, r4, r5, r6, r7, r8, r9, j1, j2, j3, j4, hbd⟩ := T.body
  obtain ⟨C1, C2, hC1, hC2⟩ := T.cls
  have da := not_of T.db (z := a) (by simp)
  have de := not_of T.db (z := e) (by simp)
  have df := not_of T.db (z := fld) (by simp)
  have d1 := not_of T.db (z := b1) (by simp)
  have d2 := not_of T.db (z := b2) (by simp)
  cases hl with
  | lam h1 h2 h3 =>
    rename_i c' dV
    rw [← hC] at h1
    refine ⟨gf, hm, F.kp, run_ofS (k := k + 1) (N := [a, e]) (ps := [a]) (us := [.ref fa]) (vs := [.ref fa]) lk hcd T.sc hr e0 (BindsTo.of_eq (T.bind kV doc pm an cdv ct [.ref fa] rfl)) (.cons rfl .nil) rfl fun hr' => ?_⟩
    obtain ⟨XT', hXT⟩ : ∃ Y : Cx, Y = (cxOf C8.CX0 X.prog X.w X.K X.mg X.base [a, e] y (defScope st) gf cdv X.A X.stack s H C8.E0).nox := ⟨_, rfl⟩
    have gl : ∀ {z : Str}, (defScope st).names.lookup z = some .globalImplicit → Gl XT' z := fun hz => by rw [hXT]; exact hz
    have act : ∀ (W : WX) (pn : List (Addr × Obj)) (xe : Value → Shared → Prop), Takes (XT'.tr pn xe) W →
        PE (XT'.tr pn xe) (.Call (.Name a p2) [] [] p3) (fun σZ HZ Q => σZ[0]? = some (some (.ref fa)) ∧ HZ = H ∧ tD X.K X.mg (fun c d _ H' => W c d σZ H') f σ H Q) := by
      intro W pn xe tk
      subst hXT
      refine ⟨fun pinsZ sZ σZ HZ Q IZ h => ?_⟩
      obtain ⟨hs, rfl, ht⟩ := h
      refine wpAny_Call_Name_kw (thn ((pe_var (pos := p2) (i := 0) rfl (.inl T.la) da.1 da.2).run pinsZ sZ σZ HZ (fun v H1 => v = .ref fa ∧ H1 = HZ) IZ ⟨.ref fa, hs, rfl, rfl⟩) fun u s1 ⟨v, H1, I1, r1, ev, eH⟩ => ?_)
      subst ev eH
      obtain rfl : u = Value.ref fa := r1
      obtain ⟨od1, sl1, pm1, ctv1, of1⟩ := lamO_at I1.hok (M.sub _ _ h1)
      refine PySem.W.callWith_F0 ⟨_, _, _, _, of1⟩ ?_
      have un1 : Un (frs X.stack) ex HM H1 sM.heap s1.heap := un.trans (I1.base.mono (fun b hb => hb) fun b hb => nomatch hb)
      have rc := lam_run (k := k) (E := fun cls d H' => W cls d σZ H') (tb := tD X.K X.mg (fun c d _ H' => W c d σZ H') f) (Q := Q) IM L.w L.b L.q I1.env0 hr' un1 hex (M.sub _ _ h1) (M.sub _ _ h2) (h3.mono M.sub)
        (fun A outer s H hr2 => L.run A outer s H _ fa c' ⟨takes_of rfl rfl rfl rfl, passes_of rfl, hN, rfl, hr2⟩) ht
      refine wpAny_call (codeAny_mono rc fun r s' hq => ?_)
      cases r with
      | error er => exact passAt tk σZ pinsZ H1 s1 er s' I1 hq
      | ok fl =>
        cases fl with
        | ret u => exact I1.after hq
        | next => exact hq.elim
        | brk => exact hq.elim
        | cont => exact hq.elim
    have hrs : Room kf XT'.A := by rw [hXT]; exact hr'.mono hkf
    have FF' : FieldOk XT'.prog XT'.w XT'.K XT'.mg XT'.base fld ats kf fh := by rw [hXT]; exact FF
    have su : ∀ (q2 q3 q4 q5 q6 q7 q8 : Pos) (j : Nat) (a : Addr) (oe : Obj) (cls : Value) (d : Option Addr) (pn : List (Addr × Obj)), Zc cls d oe → (∃ vs, oe.data = .fields vs) → PSs (XT'.suite a ((a, oe) :: pn)) (trySuite e fld q2 q3 q4 q5 q6 q7 q8 j) (tsX XT'.K XT'.mg ats fh a cls d) :=
      fun _ _ _ _ _ _ _ _ a oe cls d pn hz hf => try_suite FF' hrs hcode (by rw [hXT]; rfl) (by rw [hXT]; exact .inl T.le) (gl T.gf) hz hf de.1 de.2 df.1
    have tr := ps_try_all (X := XT') (n := e) (i := 1) (pos := p6) (Wout := fun _ _ _ _ => False)
      (body := [.Return (some (.Tuple [.Constant (.str "value") j1 p1, .Call (.Name a p2) [] [] p3] j2 p4)) p5]) (l := [(.ref C1, tsX XT'.K XT'.mg ats fh), (.ref C2, tsX XT'.K XT'.mg ats fh)])
      (by rw [hXT]; rfl) (by rw [hXT]; rfl) (by rw [hXT]; exact T.sc.nd) (by rw [hXT]; rfl) (by rw [hXT]; exact T.le) takes_none5
      (fun W pn xe tk _ => pss_one (ps_ret (pe_tup (pa_cons pe_str (pa_cons (act W pn xe tk) pa_nil)))))
      (HdsA.cons (q := (.ref C1, tsX XT'.K XT'.mg ats fh)) (np := q1) (pos' := q9) ⟨gl T.g1, d1.1, .inl (by rw [hXT]; exact hC1)⟩ (su q2 q3 q4 q5 q6 q7 q8 j3) (HdsA.cons (q := (.ref C2, tsX XT'.K XT'.mg ats fh)) (np := r1) (pos' := r9) ⟨gl T.g2, d2.1, .inl (by rw [hXT]; exact hC2)⟩ (su r2 r3 r4 r5 r6 r7 r8 j4) .nil))
    refine ⟨_, by rw [hbd]; exact (hXT ▸ (pss_one tr)).nox, ?_⟩
    subst hXT
    refine ⟨rfl, rfl, Hi, ι, ρ, m, ⟨M, hS⟩, ?_⟩
    cases hf : f ρ m with
    | bad => rw [hf] at g; exact g.elim
    | ok w m1 =>
      rw [hf] at g
      cases w with
      | m _ => exact g.elim
      | d v =>
        intro Hi1 ι1 x H1 st1 M1 rv
        refine ⟨by show 2 ≤ sizeLine; rw [sizeLine_eq]; decide, fun p hp => ?_⟩
        obtain ⟨M2, st2⟩ := M1.newD (o := .tup [.str "value", x]) hp
        exact g _ _ _ _ (st1.trans st2) M2 (.tup (.inl (.inl upd_same)) (.cons (.str _) (.cons (Rep.mono st2.imm rv) .nil)))
    | exc c ns vs m1 =>
      rw [hf] at g
      unfold tryR at g
      simp only at g
      split at g
      case isFalse => exact g.elim
      rename_i hc
      obtain ⟨C, C1', C2', hc1, hc2, hc3, hxf, hcase⟩ := (hcs c hc).ex
      rw [hC1] at hc2
      rw [hC2] at hc3
      cases hc2
      cases hc3
      intro Hi1 ι1 H1 C' dx fs st1 M1 hmc hdx hln rl
      rw [hc1] at hmc
      cases hmc
      have fin : ∀ a' : Addr, tsX X.K X.mg ats fh a' (.ref C) (some dx) (offI 1 { nx := fun _ H' => Q .non H', rt := Q }) (List.set (L2.start [a, e] [.ref fa]) 1 (some (.ref a'))) H1 := fun a' => by
        refine ⟨C, dx, Hi1, ι1, m1, ns, vs, fs, rfl, rfl, rfl, hxf, M1, hdx, hln, rl, ?_⟩
        rcases allX_at (f := fun x => tryX fh x ns vs m1) ⟨a', C, dx⟩ with z | z
        · show Good _ _ _ _ _ _ _ _ (tryX fh ⟨a', C, dx⟩ ns vs m1) Q
          rw [show tryX fh ⟨a', C, dx⟩ ns vs m1 = _ from z]
          exact Good.step g st1
        · rw [z] at g
          exact g.elim
      rcases hcase with z | ⟨z1, z2⟩
      · exact ⟨true, z, fun _ a' _ => fin a', fun h => nomatch h⟩
      · exact ⟨false, z1, fun h => (nomatch h), fun _ => ⟨true, z2, fun _ a' _ => fin a', fun h => nomatch h⟩⟩
end
end GD
/-! GL3: y(lambda), [y(a) for a in asks]; where a table comes in. -/
namespace GD
open PySem PySem.Spec PyProof.Rows L2 LamX
open Classical in
/-- y(e), e a lambda of the frame Z: tbl holds the mirrors of the bodies -/
noncomputable def fTry (cs : List Str) (fh : XT → Fn) (Z : LamZ) (tbl : List Ev) (fe : Ev) : Ev := fun ρ m => (fe ρ m).bind fun w m => match w with
  | .d (.lam i Z') => if Z' = Z then (match tbl[i]? with
    | some f => noX (tryR cs fh (f ρ m))
    | none => .bad) else .bad
  | _ => .bad
/-- the lambdas from the i-th on -/
def LamsOk (X : Cx) (Z : LamZ) (k : Nat) : Nat → List Ev → Prop
  | _, [] => True
  | i, f :: r => LamAt X (Z.F i) k f ∧ LamsOk X Z k (i + 1) r
theorem LamsOk.get {X : Cx} {Z : LamZ} {k : Nat} : ∀ {tbl : List Ev} {j i : Nat} {f : Ev}, LamsOk X Z k j tbl → tbl[i]? = some f → LamAt X (Z.F (j + i)) k f
  | [], _, _, _, _, h => by simp at h
  | g :: r, j, 0, f, h, e => by simp at e; subst e; exact h.1
  | g :: r, j, i + 1, f, h, e => by
    have z := LamsOk.get (i := i) h.2 (by simpa using e)
    rw [Nat.add_right_comm, Nat.add_assoc] at z
    exact z
/-- all that is known of the def y that tries -/
structure TryOk (P : Program) (w : World) (K : PySem.W.Frag) (mg : Str → Option Value) (base : Heap) (y : Str) (cs : List Str) (fh : XT → Fn) (kf : Nat) : Prop where
  ex : ∃ a e fld b1 b2 st ats, TryDef K mg y a e fld b1 b2 st ∧ FieldOk P w K mg base fld ats kf fh ∧ ("code" : Str) ∈ ats ∧ ∀ c ∈ cs, TryC K mg b1 b2 ats c
theorem good_no0 {K : PySem.W.Frag} {mg : Str → Option Value} {Wx : WX} {σ : L2.St} {Hi H : Hp} {ι : List Addr} {r : R W} {Q : VK} (g : Good K mg (RepW K mg) Wx σ Hi ι H (noX r) Q) : Good K mg (RepW K mg) W0 [] Hi ι H r Q := by
  cases r with
  | ok a m => exact g
  | exc c ns vs m => exact g.elim
  | bad => exact g
section
variable {X : Cx} {Wx : WX} {kk : Nat}
/-- y(fa), from a state in which the frame X stands as it did at sM -/
theorem try_at {y : Str} {cs : List Str} {fh : XT → Fn} {k kf i : Nat} {Z : LamZ} {tbl : List Ev} {f : Ev} {fa : Addr} {pins : List (Addr × Obj)} {σ : L2.St} {HM H : Hp} {sM s : Shared} {ex : List Addr} {Q : VK} {Hi : Hp} {ι : List Addr} {ρ : Env} {m : Mem}
    (T : TryOk X.prog X.w X.K X.mg X.base y cs fh kf) (LC : X.env.cells = Z.C) (L : LamsOk X Z k 0 tbl) (hN : X.N.Nodup) (hr : Room (k + 2) X.A) (hkf : kf ≤ k + 1) (hi : tbl[i]? = some f)
    (IM : Inv X pins σ HM sM) (e0 : Env0 X.prog X.w X.K X.mg X.base X.A X.stack s H) (un : Un (frs X.stack) ex HM H sM.heap s.heap) (hex : ∀ y c, X.env.cells.lookup y = some c → c ∉ ex)
    (M : Mok X.K X.mg Hi ι m H) (hS : RepS X.K X.mg Hi ι ρ σ) (hl : Rep X.K X.mg Hi (.ref fa) (.lam i Z)) (g : Good X.K X.mg (RepW X.K X.mg) W0 [] Hi ι H (tryR cs fh (f ρ m)) Q) :
    ∃ gf, X.mg y = some (.ref gf) ∧ PySem.W.keepIn X.K (.ref gf) = true ∧ codeAny (model X.prog X.w) X.A (.call (.ref gf) ⟨[.ref fa], []⟩) (CR C8.CX0 X.stack X.prog X.w H s Q C8.E0) s := by
  obtain ⟨a, e, fld, b1, b2, st, ats, TD, FF, hcode, hcs⟩ := T.ex
  have z := L.get hi
  rw [Nat.zero_add] at z
  exact try_run TD FF hcode hcs IM e0 un hex hN hr hkf LC z M hS hl g
theorem TryOk.at_ {P : Program} {w : World} {K : PySem.W.Frag} {mg : Str → Option Value} {base : Heap} {y : Str} {cs : List Str} {fh : XT → Fn} {kf : Nat} (T : TryOk P w K mg base y cs fh kf) : ∃ gf, mg y = some (.ref gf) ∧ PySem.W.keepIn K (.ref gf) = true := by
  obtain ⟨a, e, fld, b1, b2, st, ats, TD, FF, hcode, hcs⟩ := T.ex
  obtain ⟨f, fd, F, hm⟩ := TD.top.ex
  exact ⟨f, hm, F.kp⟩
theorem pd_try {y : Str} {cs : List Str} {fh : XT → Fn} {k kf : Nat} {Z : LamZ} {P : Addr} {tbl : List Ev} {e : Expr} {fe : Ev} {p pos : Pos} (c : Cc X Wx kk) (T : TryOk X.prog X.w X.K X.mg X.base y cs fh kf) (LC : LamC X Z P) (L : LamsOk X Z k 0 tbl) (hk : k + 2 ≤ kk) (hkf : kf ≤ k + 1) (hg : Gl X y) (he : PE X e (tD X.K X.mg Wx fe))
    (hdb : (y == ("__debug__" : Str)) = false := by decide) (hst : starEach [e] X.env = (false, eval e X.env) :: starEach [] X.env := by rfl) : PE X (.Call (.Name y p) [e] [] pos) (tD X.K X.mg Wx (fTry cs fh Z tbl fe)) := by
  refine ⟨fun pins s σ H Q I h => ?_⟩
  obtain ⟨Hi, ι, ρ, m, RR, g⟩ := h
  obtain ⟨gf, hm, hkp⟩ := T.at_
  refine wpAny_Call_Name_kw (ld_glob I hg hm ?_ hdb)
  refine PySem.W.callWith_K (h₀ := X.base) I.ok.mod.kin hkp (thn ((pa_cons he pa_nil hst).run pos pins s σ H (fun xs H1 => ∃ fa Hi1 ι1 m1 i f, xs = [.ref fa] ∧ Mok X.K X.mg Hi1 ι1 m1 H1 ∧ RepS X.K X.mg Hi1 ι1 ρ σ ∧ Rep X.K X.mg Hi1 (.ref fa) (.lam i Z) ∧ tbl[i]? = some f ∧ Good X.K X.mg (RepW X.K X.mg) W0 [] Hi1 ι1 H1 (tryR cs fh (f ρ m1)) Q) I
    ⟨Hi, ι, ρ, m, RR, good_bind g fun w m1 Hi1 ι1 v H1 st M rv g1 => ?_⟩) fun us s1 ⟨xs, H1, I1, r, q⟩ => ⟨I1.kIn, ?_⟩) hst rfl
  · split at g1
    case h_2 => exact g1.elim
    rename_i i Z'
    split at g1
    case isFalse => exact g1.elim
    rename_i hZ
    subst hZ
    split at g1
    case h_2 => exact g1.elim
    rename_i f hf
    cases rv with
    | lam h1 h2 h3 =>
      rename_i fa c' dV
      exact ⟨fa, Hi1, ι1, m1, i, f, rfl, M, RR.slots.step st, .lam h1 h2 h3, hf, good_no0 g1⟩
  · obtain ⟨fa, Hi1, ι1, m1, i, f, rfl, M, hS, hl, hi, g1⟩ := q
    cases r with
    | cons r1 r2 =>
      cases r2
      cases r1
      obtain ⟨gf', hm', _, rc⟩ := try_at (ex := []) T LC.cells L c.nd (c.room.mono hk) hkf hi I1 I1.env0 Un.refl (fun _ _ _ z => nomatch z) M hS hl g1
      rw [hm] at hm'
      cases hm'
      refine wpAny_call (codeAny_mono rc fun r s' z => ?_)
      cases r with
      | error er => exact (show False from z).elim
      | ok fl =>
        cases fl with
        | ret u => exact I1.after z
        | next => exact z.elim
        | brk => exact z.elim
        | cont => exact z.elim
/-! ### a comprehension whose element needs to know the frame -/
end
end GD
/-! GL4: [y(a) for a in asks]; the law's body with its table. -/
namespace GD
open PySem PySem.Spec PyProof.Rows L2 LamX
/-! ### the table comes in -/
def sTab (P : Addr) (q : Str) (f g : Ex) : Ex := fun ρ m => match f ρ m with
  | .nx ρ' m' => g ρ' (m' ++ [.tab P q])
  | _ => .bad
/-- the end of a law: nothing but its value is asked -/
def GoodT (K : PySem.W.Frag) (mg : Str → Option Value) (E : Ends) (r : RS) : Prop := match r with
  | .rt w m => ∀ (Hi' : Hp) (ι' : List Addr) (v : V) (H' : Hp), Mok K mg Hi' ι' m H' → RepW K mg Hi' ι' v w → E.rt v H'
  | _ => False
theorem GoodT.good {K : PySem.W.Frag} {mg : Str → Option Value} {E : Ends} {r : RS} {Wx : WX} {Hi H : Hp} {ι : List Addr} (g : GoodT K mg E r) : GoodS K mg Wx E Hi ι H r := by
  cases r with
  | rt w m => exact fun Hi' ι' v H' _ M rv => g Hi' ι' v H' M rv
  | _ => exact g.elim
/-- at the start: the table at P is empty and nobody's -/
def tDP (K : PySem.W.Frag) (mg : Str → Option Value) (P : Addr) (b : Ex) : TS := fun E σ H => ∃ Hi ι ρ m, Rel K mg Hi ι ρ m σ H ∧ H P = some (.tbl #[]) ∧ P ∉ ι ∧ Hi P = none ∧ GoodT K mg E (b ρ m)
theorem mok_in {K : PySem.W.Frag} {mg : Str → Option Value} {Hi H : Hp} {ι : List Addr} {m : Mem} {P : Addr} (q : Str) (M : Mok K mg Hi ι m H) (hP : H P = some (.tbl #[])) (hι : P ∉ ι) (hi : Hi P = none) : Mok K mg Hi (ι ++ [P]) (m ++ [.tab P q]) H := by
  refine ⟨M.sub, by simp [M.len], ?_, fun k mo a h1 h2 h3 => ?_, fun k mo a h1 h2 => ?_⟩
  · rw [List.nodup_append]
    refine ⟨M.nd, by simp, fun a ha b hb => ?_⟩
    have : b = P := by simpa using hb
    rw [this]
    exact fun z => hι (z ▸ ha)
  · by_cases hk : k < m.length
    · rw [List.getElem?_append_left hk] at h1
      rw [List.getElem?_append_left (by rw [M.len]; exact hk)] at h2
      exact M.free k mo a h1 h2 h3
    · have e : k = m.length := by
        have := (List.getElem?_eq_some_iff.mp h1).1
        simp at this
        omega
      subst e
      rw [List.getElem?_append_right (Nat.le_of_eq M.len), M.len] at h2
      simp at h2
      rw [← h2]
      exact hi
  · by_cases hk : k < m.length
    · rw [List.getElem?_append_left hk] at h1
      rw [List.getElem?_append_left (by rw [M.len]; exact hk)] at h2
      exact M.obj k mo a h1 h2
    · have e : k = m.length := by
        have := (List.getElem?_eq_some_iff.mp h1).1
        simp at this
        omega
      subst e
      rw [List.getElem?_append_right (Nat.le_of_eq M.len), M.len] at h2
      simp at h1 h2
      rw [← h1, ← h2]
      exact ⟨rfl, #[], hP, True.intro, fun pos cv hc => by
        have z : codeAmong pos [] = some cv := hc
        simp [codeAmong] at z⟩
theorem pssd_tab {X : Cx} {Wx : WX} {P : Addr} {q : Str} {st : Stmt} {rest : List Stmt} {f g : Ex} (h1 : PS X st (tDS X.K X.mg Wx f)) (h2 : PSs X rest (tDS X.K X.mg Wx g)) : PSs X (st :: rest) (tDP X.K X.mg P (sTab P q f g)) := PSs.imp (pss_cons h1 h2) fun D σ H t => by
  obtain ⟨Hi, ι, ρ, m, RR, hP, hι, hi, gd⟩ := t
  refine ⟨Hi, ι, ρ, m, RR, ?_⟩
  unfold sTab at gd
  cases e : f ρ m with
  | nx ρ' m' =>
    rw [e] at gd
    intro Hi2 ι2 σ2 H2 st R2
    have n1 : P ∉ ι2 := fun z => by
      have := st.new P z hι
      rw [hP] at this
      cases this
    exact ⟨Hi2, ι2 ++ [P], ρ', m' ++ [.tab P q], ⟨mok_in q R2.mok (st.frm P _ hP hι) n1 (st.inew P hι hi (by rw [hP]; simp)), R2.slots.1, fun i w z => by
      obtain ⟨v, q1, q2⟩ := R2.slots.2 i w z
      exact ⟨v, q1, q2.mono (fun _ _ h => h) (List.prefix_append _ _)⟩⟩, GoodT.good gd⟩
  | bk ρ' m' => rw [e] at gd; exact gd.elim
  | ct ρ' m' => rw [e] at gd; exact gd.elim
  | rt w m' => rw [e] at gd; exact gd.elim
  | xc c ns vs ρ' m' => rw [e] at gd; exact gd.elim
  | bad => rw [e] at gd; exact gd.elim
/-- what the law promises, its table at P -/
def spLawT (K : PySem.W.Frag) (P : Addr) : Sp := fun vs H Q _ => ∃ (a : Addr) (ns : List Int), vs = [.ref a] ∧ ns.length ≤ 63 ∧ H P = some (.tbl #[]) ∧ SqL K H a (ns.map V.int) ∧ ∀ H', Q (.bl true) H'
theorem fn_true {n : Nat} {b : Ex} {ws : List W} {m : Mem} (hl : ws.length = 1) (h : fnOf false 1 n b ws [] = .ok (.d (.bl true)) m) : ∃ m', b (ws.map some ++ List.replicate (n - ws.length) none) [] = .rt (.d (.bl true)) m' := by
  unfold fnOf at h
  rw [if_pos hl] at h
  cases e : b (ws.map some ++ List.replicate (n - ws.length) none) [] with
  | rt w m' =>
    rw [e] at h
    cases w with
    | d x =>
      have h : R.ok (W.d x) (m'.take 0) = .ok (.d (.bl true)) m := h
      cases h
      exact ⟨m', rfl⟩
    | m k =>
      have h : (if k < 0 then R.ok (W.m k) (m'.take 0) else match m'[k]? with
        | some (.lst xs) => if false = true then .ok (.m 0) (m'.take 0 ++ [.lst xs]) else .ok (.d (.lst xs)) (m'.take 0)
        | _ => .bad) = .ok (.d (.bl true)) m := h
      rw [if_neg (by omega)] at h
      split at h <;> cases h
  | nx ρ' m' => rw [e] at h; cases h
  | bk ρ' m' => rw [e] at h; cases h
  | ct ρ' m' => rw [e] at h; cases h
  | xc c ns vs ρ' m' => rw [e] at h; cases h
  | bad => rw [e] at h; cases h
theorem law_tab {P : Program} {w : World} {K : PySem.W.Frag} {mg : Str → Option Value} {base : Heap} {x : Str} {st : Stmt} {f : Addr} {fd : FuncData} {N : List Str} {k n : Nat} {T : Addr} {b : LamZ → Ex} (F : Fun K "law" "law" st f fd) (S : FnScope N [x] (defScope st)) (hn : N.length = n)
    (h : ∀ (Z : LamZ) (ns : List Int), ns.length ≤ 63 → ∃ m, fnOf false 1 n (b Z) [.d (.fls (ns.map .int))] [] = .ok (.d (.bl true)) m)
    (hbody : ∀ (cdv : Value) (A : Around) (outer : List PySem.Env) (s : Shared) (H : Hp) (E : XK), (∃ oc od osl dV kV doc pm an ct, K.lookup f = some ⟨oc, od, .func (PySem.W.fnOf "law" "law" (defArgs st) (defBody st) (defScope st) dV kV doc pm an cdv ct), osl⟩) → Cc (cxOf (L2.CX P w) P w K mg base N "law" (defScope st) f cdv A outer s H E) (fun c d _ H' => E c d H') k →
      ∃ Z, PSs (cxOf (L2.CX P w) P w K mg base N "law" (defScope st) f cdv A outer s H E) (defBody st) (tDP K mg T (b Z))) : FnOk P w K mg base (L2.CX P w) (k + 1) f fd [x] (spLawT K T) := by
  obtain ⟨oc, od, kV, doc, pm, an, cdv, ct, osl, rfl, lk, hcd⟩ := F.ex
  refine fn_of lk hcd S (fun vs H Q E h => by obtain ⟨a, ns, rfl, _⟩ := h; rfl) fun A outer s H vs Q E hr hs => ?_
  obtain ⟨Z, hp⟩ := hbody cdv A outer s H E ⟨_, _, _, _, _, _, _, _, _, lk⟩ ⟨takes_of rfl rfl rfl rfl, passes_of rfl, S.nd, rfl, hr⟩
  refine ⟨_, hp, ?_⟩
  obtain ⟨a, ns, rfl, hl, hT, sq, q⟩ := hs
  obtain ⟨m, e⟩ := h Z ns hl
  obtain ⟨m', e'⟩ := fn_true rfl e
  have sq' : SqL K (fun b => if b = a ∧ b ≠ T then H b else none) a (ns.map V.int) := by
    have key : ∀ u, H a = some u → (∀ ps, u ≠ .tbl ps) → (if a = a ∧ a ≠ T then H a else none) = some u := fun u hu hn => by
      have : a ≠ T := fun z => by rw [z, hT] at hu; exact hn _ (Option.some.inj hu).symm
      rw [if_pos ⟨rfl, this⟩]
      exact hu
    rcases sq with sq | sq
    · refine .inl ?_
      rcases sq with z | ⟨o, z⟩
      · exact .inl (key _ z fun ps y => by cases y)
      · exact .inr ⟨o, key _ z fun ps y => by cases y⟩
    · exact .inr sq
  refine ⟨fun b => if b = a ∧ b ≠ T then H b else none, [], _, [], ⟨⟨fun b u z => ?_, rfl, .nil, (fun k mo a h1 _ _ => by simp at h1), fun k mo a h1 _ => by simp at h1⟩, start_rep (N := N) (n := n) (ι := []) (ws := [.d (.fls (ns.map .int))]) (.cons (Rep.fls sq' (ints_repL ns)) .nil) hn⟩, hT, by simp, by simp, ?_⟩
  · have z : (if b = a ∧ b ≠ T then H b else none) = some u := z
    split at z
    · exact z
    · cases z
  · rw [e']
    intro Hi' ι' v H' M rv
    cases rv
    exact q H'
end GD
/-! GE8: a list made by + that is changed later; own !=. -/
namespace GD
open PySem PySem.Spec PyProof.Rows L2
/-! ### a != b by the own __eq__ -/
def oOwnNe (tab : List (Str × Fn)) : O2 := fun x y m => noX ((oOwn tab x y m).bind fun w m => match w with
  | .d (.bl b) => .ok (.d (.bl (!b))) m
  | _ => .bad)
/-- the class has no __ne__ of its own -/
structure NeAt (K : PySem.W.Frag) (mg : Str → Option Value) (c : Str) : Prop where
  ex : ∃ C, mg c = some (.ref C) ∧ PySem.W.findIn K (.ref C) "__ne__" = some (some (.builtin "object.__ne__")) ∧ PySem.W.mroIn K C (.type "object") = some true
section
variable {M : Model} {prog : Program} {w : World} {A : Around} {E : Value → Shared → Prop} {s : Shared} {K : PySem.W.Frag} {x C : Addr} {ox : Obj} {od : Option Obj}
theorem ifBound_objNe {args : List Value} {Q : Option Value → Shared → Prop} (X : K.In s.heap) (I : PySem.W.InstAt s.heap x ox C od) (hs : PySem.W.findIn K (.ref C) "__ne__" = some (some (.builtin "object.__ne__")))
    (h : wpAny M A (call (.builtin "object.__ne__") (.ref x :: args)) (fun v => Q (some v)) E s) : wpAny M A (callSpecialIfBound? (.ref x) "__ne__" args) Q E s := by
  simp only [callSpecialIfBound?, bindSpecialIfBound?]
  refine wpAny_holding (wpAny_bind (wpAny_bind (wpAny_bind (I.type.here ((PySem.W.looks_findIn X hs).here ?_)))))
  refine wpAny_bind (wpAny_askSetting (wpAny_ite ?_))
  have fin : wpAny M A (call (.builtin "object.__ne__") ([.ref x] ++ args) >>= fun v => pure (some v)) Q E s := wpAny_bind (wpAny_mono h (fun v s' h' => wpAny_pure h') fun _ _ h' => h')
  split
  · exact wpAny_bind (wpAny_of_eq (F.cmp_object.ne.bind _) (wpAny_pure (by exact fin)))
  · exact wpAny_tryCatch (wpAny_bind (wpAny_of_eq (F.cmp_object.ne.bind _) (wpAny_pure (by exact fin))))
theorem entry_ne {y f : Addr} (X : K.In s.heap) (I : PySem.W.InstAt s.heap x ox C od) (hs : PySem.W.findIn K (.ref C) "__eq__" = some (some (.ref f))) (hf : PySem.W.isFn K (.ref f) = true) (hu : A.units < cLine) {Q : Fin → Shared → Prop}
    (hcall : wpAny (model prog w) A (call (.ref f) [.ref x, .ref y]) (fun v s' => ∃ b, v = .bool b ∧ Q (.done (.ret (.bool (!b)))) s') E s) :
    wpAny (model prog w) A (Builtin.«object.__ne__» ⟨[.ref x, .ref y], []⟩) Q E s := by
  unfold Builtin.«object.__ne__»
  repeat (first
    | with_reducible refine wpAny_cRoomFor hu ?_
    | (refine wpAny_bind (m := callSpecialIfBound? (.ref x) (Str.ofString "__eq__") [.ref y])
        (PySem.W.ifBound_K X I hs hf (wpAny_mono hcall (fun r s' hr => by
          obtain ⟨b, rfl, hq⟩ := hr
          repeat (first | exact hq | exact wpAny_pure hq | exact wpAny_truthy_bool hq | (refine wpAny_bind (m := truthy (.bool _)) (wpAny_truthy_bool ?_)) | wp_step)) fun _ _ e => e)))
    | wp_step)
theorem call_objNe {y f : Addr} {Q : Value → Shared → Prop} (X : K.In s.heap) (I : PySem.W.InstAt s.heap x ox C od) (hm : PySem.W.mroIn K C (.type "object") = some true) (hs : PySem.W.findIn K (.ref C) "__eq__" = some (some (.ref f))) (hf : PySem.W.isFn K (.ref f) = true) (hu : A.in1.units < cLine)
    (hcall : wpAny (model prog w) A.in1 (call (.ref f) [.ref x, .ref y]) (fun v s' => ∃ b, v = .bool b ∧ Q (.bool (!b)) s') E s) :
    wpAny (model prog w) A (call (.builtin "object.__ne__") [.ref x, .ref y]) Q E s :=
  wpAny_call (codeAny_call_builtin F.cmp_object.ne.plain F.cmpEntry_ne (PySem.W.check_slot F.cmpKind_ne F.cmpSplit_ne (I.type.andThen (PySem.W.looks_mroIn X hm)) (F.cmpArgs_ne _ _) (entry_ne (A := A.in1) X I hs hf hu hcall)))
theorem rc_ne {y f : Addr} {oy : Obj} {od' : Option Obj} {Q : Value → Shared → Prop} (hu : A.in1.units < cLine) (X : K.In s.heap) (I : PySem.W.InstAt s.heap x ox C od) (J : PySem.W.InstAt s.heap y oy C od') (hm : PySem.W.mroIn K C (.type "object") = some true) (hn : PySem.W.findIn K (.ref C) "__ne__" = some (some (.builtin "object.__ne__"))) (hs : PySem.W.findIn K (.ref C) "__eq__" = some (some (.ref f))) (hf : PySem.W.isFn K (.ref f) = true)
    (hcall : wpAny (model prog w) A.in1 (call (.ref f) [.ref x, .ref y]) (fun v s' => ∃ b, v = .bool b ∧ Q (.bool (!b)) s') E s) : wpAny (model prog w) A (richCompare .NotEq (.ref x) (.ref y)) Q E s := by
  have hu0 : A.units < cLine := Nat.lt_of_le_of_lt (Nat.le_succ _) hu
  have one : wpAny (model prog w) A (tryCompare (.ref x) "__ne__" (.ref y)) (fun r s' => ∃ v, r = some v ∧ Q v s') E s := by
    unfold tryCompare
    refine wpAny_bind (ifBound_objNe X I hn (call_objNe X I hm hs hf hu (wpAny_mono hcall (fun v s' hv => ?_) fun _ _ e => e)))
    obtain ⟨b, rfl, hq⟩ := hv
    exact ⟨b, rfl, wpAny_pure ⟨_, rfl, hq⟩⟩
  simp only [richCompare, cmpInfo_NotEq, oneThing_ref]
  refine wpAny_holding (wpAny_bind (wpAny_cRoomFor hu0 ?_))
  refine wpAny_bind (I.type.here (wpAny_bind (J.type.here ?_)))
  rw [show (Value.ref C != Value.ref C) = false from by simp]
  simp only [Bool.false_eq_true, if_false]
  refine wpAny_bind (wpAny_pure ?_)
  simp only [Bool.false_eq_true, if_false]
  refine wpAny_bind (wpAny_mono one (fun r s' z => ?_) fun _ _ e => e)
  obtain ⟨v, rfl, hq⟩ := z
  exact wpAny_pure hq
end
section
variable {X : Cx} {Wx : WX} {kk j : Nat}
theorem op_ownNe {tab : List (Str × Fn)} (c : Cc X Wx kk) (T : AllT (fun c g => OwnOk X.prog X.w X.K X.mg X.base c "__eq__" j g) tab) (T2 : AllT (fun c _ => NeAt X.K X.mg c) tab) (hj : j + 1 ≤ kk) : OpR X (compareOp .NotEq) (rW2 X.K X.mg (oOwnNe tab)) := by
  intro pins s σ H x y v u Q I rx ry hq
  obtain ⟨Hi, ι, m, wa, wb, M, ra, rb, g⟩ := hq
  show wpAny (model X.prog X.w) X.A (richCompare .NotEq v u) (EP X pins σ Q) X.xe s
  have g' := good_unX (τ := σ) g
  unfold oOwn at g'
  cases h1 : insOf wa m with
  | none => rw [h1] at g'; exact g'.elim
  | some p1 =>
  cases h2 : insOf wb m with
  | none => rw [h1, h2] at g'; exact g'.elim
  | some p2 =>
  obtain ⟨c1, ns1, ds1⟩ := p1
  obtain ⟨c2, ns2, ds2⟩ := p2
  rw [h1, h2] at g'
  dsimp only at g'
  split at g'
  case isFalse => exact g'.elim
  rename_i hc
  subst hc
  split at g'
  case h_2 => exact g'.elim
  rename_i gm hl
  obtain ⟨b1, C1, dx1, vs1, e1, hg1, ha1, _, _⟩ := insOf_rep M ra h1
  obtain ⟨b2, C2, dx2, vs2, e2, hg2, ha2, _, _⟩ := insOf_rep M rb h2
  obtain ⟨C, f, hg, hsf, hfi, hisf, _, F⟩ := (T.get hl).ex
  obtain ⟨C', hg', hn, hm⟩ := (T2.get hl).ex
  rw [hg] at hg1 hg2 hg'
  cases hg1
  cases hg2
  cases hg'
  subst e1 e2
  obtain ⟨ox, od, J1, _⟩ := inst_at I ha1
  obtain ⟨ox', od', J2, _⟩ := inst_at I ha2
  obtain rfl : v = .ref b1 := rx
  obtain rfl : u = .ref b2 := ry
  refine rc_ne (c.room.mono hj).in1.units0 I.kIn J1 J2 hm hn hfi hisf ?_
  refine wpAny_mono (run_noX F (c.room.mono hj).in1 I.env0.in1 I (us := [.ref b1, .ref b2]) (vs := [.ref b1, .ref b2]) (Q := fun y H' => ∃ Hi' ι' m' w', Mok X.K X.mg Hi' ι' m' H' ∧ RepW X.K X.mg Hi' ι' y w' ∧ Good X.K X.mg (RepW X.K X.mg) (fun _ _ _ _ => False) σ Hi' ι' H' (match w' with
    | .d (.bl b) => .ok (.d (.bl (!b))) m'
    | _ => .bad) Q) (.cons rfl (.cons rfl .nil)) ⟨Hi, ι, [wa, wb], m, M, .cons ra (.cons rb .nil), good_bind g' fun y m1 Hi1 ι1 v1 H1 st M1 rv g1 => ⟨Hi1, ι1, m1, y, M1, rv, g1⟩⟩) (fun y s' z => ?_) fun _ _ z => z
  obtain ⟨v, H', I', rv, Hi', ι', m', w', M', rw', g'⟩ := z
  split at g'
  case h_2 => exact g'.elim
  rename_i b
  cases rw'
  obtain rfl := rv
  exact ⟨b, rfl, .bl (!b), H', I', rfl, g'.here (rep := RepW X.K X.mg) M' (.bl _)⟩
/-! ### a, b, c = x, y, z -/
def sPar3 (i j l : Nat) (a : EvL) : Ex := fun ρ m => (a ρ m).lift ρ fun ws m => match ws with
  | [x, y, z] => .nx (((ρ.set i (some x)).set j (some y)).set l (some z)) m
  | _ => .bad
/-! ### C.f, f an int of the class C -/
def fCVal (c : Str) (i : Int) (fo : Ev) : Ev := fun ρ m => (fo ρ m).bind fun w m => match w with
  | .d (.gl c') => if c' = c then .ok (.d (.int i)) m else .bad
  | _ => .bad
structure CValOk (K : PySem.W.Frag) (mg : Str → Option Value) (c f : Str) (i : Int) : Prop where
  ex : ∃ C mc u, mg c = some (.ref C) ∧ ClX.CRead K C mc ∧ ClX.CVal K C mc f (.int i) u
theorem pd_cval {o : Expr} {c f : Str} {i : Int} {fo : Ev} {pos : Pos} (T : CValOk X.K X.mg c f i) (ho : PE X o (tD X.K X.mg Wx fo)) (hb : attributeBase o f X.env (eval o X.env) = eval o X.env := by rfl) : PE X (.Attribute o f pos) (tD X.K X.mg Wx (fCVal c i fo)) :=
  PE.imp (ClX.pe_cval (f := f) ho hb) fun σ H Q t => by
    obtain ⟨Hi, ι, ρ, m, RR, g⟩ := t
    obtain ⟨C, mc, u, hg, hr, hv⟩ := T.ex
    refine ⟨Hi, ι, ρ, m, RR, good_bind g fun w m1 Hi1 ι1 v H1 st M rv g1 => ?_⟩
    split at g1
    case h_2 => exact g1.elim
    rename_i c'
    split at g1
    case isFalse => exact g1.elim
    rename_i hc
    subst hc
    have rv' : Rep X.K X.mg Hi1 v (.gl c') := rv
    cases rv' with
    | gl q1 q2 =>
      rw [hg] at q1
      cases q1
      have e : v = .ref C := by
        cases v with
        | int i => obtain ⟨t, h⟩ := q2; cases h
        | str i => obtain ⟨t, h⟩ := q2; cases h
        | byt i => obtain ⟨t, h⟩ := q2; cases h
        | flt i => obtain ⟨t, h⟩ := q2; cases h
        | ref b => cases (show Value.ref C = Value.ref b from q2); rfl
        | _ => cases (show Value.ref C = _ from q2)
      exact ⟨C, mc, .int i, u, e, hr, hv, g1.here (rep := RepW X.K X.mg) M (.int i)⟩
end
end GD
/-! GF0: the facts of the text, told by one run of the top. -/
namespace GD
open PySem PySem.Spec PyProof.Rows L2
open He (ga ma eqO eqO_ok ba)
section
variable {fa : List Fg} {fn : List DefG} {ts : List TabG} {w : World} {K : PySem.W.Frag} {h : Heap} {mg : Str → Option Value}
theorem SaysG.fact (c : SaysG fa fn ts w K) (i : Nat) {f : Fg} (h : fa[i]? = some f := by rfl) : f.ok K = true := by
  have c1 : ((fa.all fun f => f.ok K) && ((fn.all fun d => d.a.ok K) && ts.all fun t => !(ga K t.1 == sysModules))) = true := congrArg (fun z : AlG => z.1) c
  exact List.all_eq_true.mp (ba c1).1 f (List.mem_of_getElem? h)
theorem SaysG.fun_ (c : SaysG fa fn ts w K) (i : Nat) {d : DefG} (h : fn[i]? = some d := by rfl) (hd : d.dfl = [] := by rfl) : ∃ fd, Fun K d.name d.qual d.st (d.pl.at_ K) fd := by
  have c1 : ((fa.all fun f => f.ok K) && ((fn.all fun d => d.a.ok K) && ts.all fun t => !(ga K t.1 == sysModules))) = true := congrArg (fun z : AlG => z.1) c
  have e : (fn.map fun d => He5.fnA K (d.pl.at_ K)) = fn.map fun d => d.a.val := congrArg (fun z : AlG => z.2.1) c
  have e2 : (fn.map fun d => He5.fnA K (d.pl.at_ K))[i]? = (fn.map fun d => d.a.val)[i]? := by rw [e]
  rw [List.getElem?_map, List.getElem?_map, h] at e2
  obtain ⟨fd, F⟩ := He5.DefA.funD (d := d.a) (Option.some.inj e2) (List.all_eq_true.mp (ba (ba c1).2).1 d (List.mem_of_getElem? h))
  have F : L2.FunD K d.name d.qual (defArgs d.st) (defBody d.st) (defScope d.st) (d.dfl.map (He.Dv.v K)) [] (d.pl.at_ K) fd := F
  rw [hd] at F
  exact ⟨fd, He5.fun_of F⟩
theorem SaysG.funD (c : SaysG fa fn ts w K) (i : Nat) {d : DefG} (h : fn[i]? = some d := by rfl) : ∃ fd, L2.FunD K d.name d.qual (defArgs d.st) (defBody d.st) (defScope d.st) (d.dfl.map (He.Dv.v K)) [] (d.pl.at_ K) fd := by
  have c1 : ((fa.all fun f => f.ok K) && ((fn.all fun d => d.a.ok K) && ts.all fun t => !(ga K t.1 == sysModules))) = true := congrArg (fun z : AlG => z.1) c
  have e : (fn.map fun d => He5.fnA K (d.pl.at_ K)) = fn.map fun d => d.a.val := congrArg (fun z : AlG => z.2.1) c
  have e2 : (fn.map fun d => He5.fnA K (d.pl.at_ K))[i]? = (fn.map fun d => d.a.val)[i]? := by rw [e]
  rw [List.getElem?_map, List.getElem?_map, h] at e2
  obtain ⟨fd, F⟩ := He5.DefA.funD (d := d.a) (Option.some.inj e2) (List.all_eq_true.mp (ba (ba c1).2).1 d (List.mem_of_getElem? h))
  exact ⟨fd, F⟩
theorem SaysG.tab (X : K.In h) (G : h.Ns mainGlobals mg) (c : SaysG fa fn ts w K) (i j : Nat) {x : Str} {kvs : List (Str × Str)} (h : ts[i]? = some (x, kvs) := by rfl) (hj : fa[j]? = some (.glo x) := by rfl) : DictTab K mg w x kvs := by
  have c1 : ((fa.all fun f => f.ok K) && ((fn.all fun d => d.a.ok K) && ts.all fun t => !(ga K t.1 == sysModules))) = true := congrArg (fun z : AlG => z.1) c
  have e : (ts.map fun t => dicS K t.1) = ts.map fun t => some (t.2.map fun kv => some (kv.1, PyData.keyHash w.params kv.1, kv.2)) := congrArg (fun z : AlG => z.2.2) c
  have e2 : (ts.map fun t => dicS K t.1)[i]? = (ts.map fun t => some (t.2.map fun kv => some (kv.1, PyData.keyHash w.params kv.1, kv.2)))[i]? := by rw [e]
  rw [List.getElem?_map, List.getElem?_map, h] at e2
  have e3 : dicS K x = some (kvs.map fun kv => some (kv.1, PyData.keyHash w.params kv.1, kv.2)) := Option.some.inj e2
  have hs : (ga K x == sysModules) = false := by
    have z := List.all_eq_true.mp (ba (ba c1).2).2 (x, kvs) (List.mem_of_getElem? h)
    simpa using z
  have hg := He.glo_ok X G (show (He.Fa.glo x).ok K = true from c.fact j hj)
  unfold dicS at e3
  split at e3
  · rename_i tt es n sl hl
    split at e3
    case isFalse => cases e3
    rename_i hb
    obtain ⟨b1, b2⟩ := ba hb
    rw [beq_iff_eq] at b1 b2
    have b3 : sl = #[] := Array.eq_empty_of_size_eq_zero b2
    rw [b1, b3] at hl
    have e4 : (es.toList.map fun e => match e.key, e.val with
      | .str k _, .str v _ => some (k, e.hash, v)
      | _, _ => none) = kvs.map fun kv => some (kv.1, PyData.keyHash w.params kv.1, kv.2) := Option.some.inj e3
    refine tab_mk (l := es.toList) hg (by rw [Array.toArray_toList]; exact hl) hs (by have := congrArg List.length e4; simpa using this) fun i e kv h1 h2 => ?_
    have q : (es.toList.map fun e => match e.key, e.val with
      | .str k _, .str v _ => some (k, e.hash, v)
      | _, _ => none)[i]? = (kvs.map fun kv => some (kv.1, PyData.keyHash w.params kv.1, kv.2))[i]? := by rw [e4]
    rw [List.getElem?_map, List.getElem?_map, h1, h2] at q
    have q2 := Option.some.inj q
    dsimp only at q2
    split at q2
    · rename_i k t v t' ek ev
      simp only [Option.some.injEq, Prod.mk.injEq] at q2
      obtain ⟨r1, r2, r3⟩ := q2
      exact ⟨⟨t, by rw [ek, r1]⟩, r2, ⟨t', by rw [ev, r3]⟩⟩
    · cases q2
  · cases e3
/-! ### to the facts that the walk asks -/
theorem fld_of (X : K.In h) (G : h.Ns mainGlobals mg) {c f : Str} (h1 : (Fg.glo c).ok K = true) (h2 : (Fg.cls c).ok K = true) (h3 : (Fg.noat c f).ok K = true) : FldOk K mg c f := ⟨_, He.glo_ok X G h1, He.cls_ok h2, He.noat_ok h3⟩
theorem con_of (X : K.In h) (G : h.Ns mainGlobals mg) {c f : Str} {i : Int} (h1 : (Fg.glo c).ok K = true) (h2 : (Fg.cls c).ok K = true) (h3 : (Fg.con c f i).ok K = true) (hc : PySem.W.copiedNames.contains f = false := by decide +kernel) : ConOk K mg c f (.int i) := by
  obtain ⟨u, hu⟩ := He.conB_ok h3 hc
  exact ⟨_, .int i, u, He.glo_ok X G h1, He.cls_ok h2, hu, fun _ => .int i⟩
theorem isiG_of (X : K.In h) (G : h.Ns mainGlobals mg) {c : Str} (h1 : (Fg.glo c).ok K = true) (h2 : (Fg.cls c).ok K = true) (z : (Fg.isi c).ok K = true) : IsiOk K mg c := by
  obtain ⟨z, y⟩ := ba z
  obtain ⟨y1, y2⟩ := ba y
  obtain ⟨k1, k2⟩ := ba y1
  obtain ⟨k3, k4⟩ := ba y2
  obtain ⟨a1, z⟩ := ba z
  obtain ⟨a2, z⟩ := ba z
  obtain ⟨a3, z⟩ := ba z
  obtain ⟨a4, a5⟩ := ba z
  exact ⟨_, He.glo_ok X G h1, ⟨He.cls_ok h2, eqO_ok a1, eqO_ok a2, of_decide_eq_true a3, of_decide_eq_true a4, of_decide_eq_true a5⟩, ⟨of_decide_eq_true k1, of_decide_eq_true k2, of_decide_eq_true k3, of_decide_eq_true k4⟩⟩
theorem cls_of (X : K.In h) (G : h.Ns mainGlobals mg) {c : Str} (z : (Fg.glo c).ok K = true) : ClsAt K mg c := ⟨_, He.glo_ok X G z⟩
theorem met_of (X : K.In h) (G : h.Ns mainGlobals mg) {c m x qual : Str} {st : Stmt} (h1 : (Fg.glo c).ok K = true) (h2 : (Fg.cls c).ok K = true) (h3 : (Fg.met c m).ok K = true) (F : ∃ fd, Fun K x qual st ((Pl.m c m).at_ K) fd) : MethAt K mg c m x qual st := by
  obtain ⟨fd, F⟩ := F
  exact ⟨_, _, fd, He.glo_ok X G h1, He.cls_ok h2, He.meth_ok h3, F⟩
theorem own_of (X : K.In h) (G : h.Ns mainGlobals mg) {c m x qual : Str} {st : Stmt} (h1 : (Fg.glo c).ok K = true) (h2 : (Fg.met c m).ok K = true) (h3 : (Fg.sf c).ok K = true) (h4 : (Fg.fni c m).ok K = true) (F : ∃ fd, Fun K x qual st ((Pl.m c m).at_ K) fd) : OwnAt K mg c m x qual st := by
  obtain ⟨fd, F⟩ := F
  have q := He.meth_ok (show (He.Fa.meth c m).ok K = true from h2)
  exact ⟨_, _, fd, He.glo_ok X G h1, h3, q.at_, q.fn, h4, F⟩
theorem new_of (X : K.In h) (G : h.Ns mainGlobals mg) {c x qual : Str} {st : Stmt} (h1 : (Fg.glo c).ok K = true) (h2 : (Fg.new c).ok K = true) (F : ∃ fd, Fun K x qual st ((Pl.m c "__init__").at_ K) fd) : NewAt K mg c x qual st := by
  obtain ⟨fd, F⟩ := F
  exact ⟨_, _, fd, He.glo_ok X G h1, He.mkr_ok h2, F⟩
theorem prp_of (X : K.In h) (G : h.Ns mainGlobals mg) {c m x qual : Str} {st : Stmt} (h1 : (Fg.glo c).ok K = true) (h2 : (Fg.cls c).ok K = true) (z : (Fg.prp c m).ok K = true) (F : ∃ fd, Fun K x qual st ((Pl.p c m).at_ K) fd) : PropAt K mg c m x qual st := by
  obtain ⟨h3, z⟩ := ba z
  obtain ⟨h4, z⟩ := ba z
  obtain ⟨h5, h6⟩ := ba z
  obtain ⟨fd, F⟩ := F
  refine ⟨_, _, _, fd, He.glo_ok X G h1, He.cls_ok h2, ⟨eqO_ok h3, eqO_ok h4, of_decide_eq_true h5, ?_⟩, F⟩
  show ∃ rest, PySem.W.recIn K (ma K (ga K c) m) "property" = some (.ref (He5.wf K (ga K c) "property" m) :: rest)
  unfold He5.wf
  split at h6
  · rename_i f r e
    exact ⟨r, by rw [e]⟩
  · cases h6
theorem ne_of (X : K.In h) (G : h.Ns mainGlobals mg) {c : Str} (h1 : (Fg.glo c).ok K = true) (z : (Fg.nb c).ok K = true) : NeAt K mg c := by
  obtain ⟨h2, h3⟩ := ba z
  exact ⟨_, He.glo_ok X G h1, eqO_ok h2, of_decide_eq_true h3⟩
theorem cvl_of (X : K.In h) (G : h.Ns mainGlobals mg) {c f : Str} {i : Int} (h1 : (Fg.glo c).ok K = true) (z : (Fg.crd c).ok K = true) (y : (Fg.cvl c f i).ok K = true) : CValOk K mg c f i := by
  obtain ⟨h2, h3⟩ := ba z
  have y : (match PySem.W.findCls K (.ref (ga K c)) (.type "type") f with
    | some (.val (.int j _)) => decide (j = i)
    | _ => false) = true := y
  split at y
  · rename_i j t e
    obtain rfl : j = i := of_decide_eq_true y
    exact ⟨_, _, _, He.glo_ok X G h1, ⟨h2, eqO_ok h3⟩, ⟨e, ⟨_, rfl⟩⟩⟩
  · cases y
theorem top_of (X : K.In h) (G : h.Ns mainGlobals mg) {x : Str} {st : Stmt} (z : (Fg.glo x).ok K = true) (F : ∃ fd, Fun K x x st ((Pl.g x).at_ K) fd) : TopDef K mg x st := by
  obtain ⟨fd, F⟩ := F
  exact ⟨_, fd, F, He.glo_ok X G z⟩
end
end GD
/-! GF1: the end of a law over the facts that the top's run tells. -/
namespace GD
open PySem PySem.Spec PyProof.Rows L2
section
variable {K : PySem.W.Frag} {h : Heap} {mg : Str → Option Value} {x : Str}
theorem glo_of (X : K.In h) (G : h.Ns mainGlobals mg) (z : (Fg.glo x).ok K = true) : mg x = some (.ref (He.ga K x)) := He.glo_ok X G z
theorem free_of (X : K.In h) (G : h.Ns mainGlobals mg) (z : (Fg.free x).ok K = true) : mg x = none := He.free_ok X G z
theorem int_of (X : K.In h) (G : h.Ns mainGlobals mg) {i : Int} (z : (Fg.int x i).ok K = true) : ∃ t, mg x = some (.int i t) := He.int_ok X G z
end
theorem fun_binds1 {K : PySem.W.Frag} {x qual p : Str} {st : Stmt} {f : Addr} {fd : FuncData} (F : Fun K x qual st f fd)
    (h : ∀ (kV doc pm : Value) (an : Option Addr) (cdv ct v : Value), bindArgs (PySem.W.fnOf x qual (defArgs st) (defBody st) (defScope st) .none kV doc pm an cdv ct) ⟨[v], []⟩ = pure [(p, v)]) (s : Shared) (v : Value) : BindsTo s fd ⟨[v], []⟩ [(p, v)] := by
  obtain ⟨oc, od, kV, doc, pm, an, cdv, ct, osl, rfl, lk, hcd⟩ := F.ex
  exact .of_eq (h kV doc pm an cdv ct v)
end GD
/-! GE9: list(range(a, b)) with bounds of any size. -/
/-! GEA: divmod, // and % by any divisor, any. -/
namespace GD
open PySem PySem.Spec PyProof.Rows L2
def oDivmod : ON := fun ws m => match ws with
  | [.d (.int i), .d (.int j)] => if decide (j ≠ 0) && small j then .ok (.d (.tup [.int (i.fdiv j), .int (i.fmod j)])) m else .bad
  | _ => .bad
end GD
/-! GEB: a, b, .. = x, y, .. for any names. -/
namespace GD
open PySem PySem.Spec PyProof.Rows L2
section
variable {X : Cx} {Wx : WX}
def gNms : List Nat → TGs
  | [] => gNil
  | i :: js => gCons (gName i) (gNms js)
def setAll (ρ : Env) : List Nat → List W → Env
  | i :: js, w :: ws => setAll (ρ.set i (some w)) js ws
  | _, _ => ρ
def sParG (js : List Nat) (a : EvL) : Ex := fun ρ m => (a ρ m).lift ρ fun ws m => if ws.length = js.length then .nx (setAll ρ js ws) m else .bad
theorem gNms_run {K : PySem.W.Frag} {mg : Str → Option Value} {Hi : Hp} {ι : List Addr} {m : Mem} {H : Hp} {Q : L2.St → Hp → Prop} : ∀ (js : List Nat) (vs : List V) (ws : List W) (ρ : Env) (σ : L2.St), Rel K mg Hi ι ρ m σ H → RepWs K mg Hi ι vs ws → ws.length = js.length → (∀ σ', Rel K mg Hi ι (setAll ρ js ws) m σ' H → Q σ' H) → gNms js vs σ H Q
  | [], vs, [], ρ, σ, RR, r, _, q => by
    cases r
    exact ⟨rfl, q σ RR⟩
  | i :: js, _, w :: ws, ρ, σ, RR, .cons a b, hl, q => ⟨_, _, rfl, gNms_run js _ ws (ρ.set i (some w)) _ ⟨RR.mok, RR.slots.set i a⟩ b (Nat.succ.inj hl) q⟩
theorem psd_parG {js : List Nat} {n : Nat} {ts es : List Expr} {f : EvL} {pt pos : Pos} {kt k2 pt2} (hc : X.calm = true) (hn : js.length = n) (hg : PGs X ts (gNms js)) (ha : PA X es (tDA X.K X.mg Wx f))
    (hs : swapsWithSole [.Tuple ts kt pt] (.Tuple es k2 pt2) pos.line X.env = pure false := by rfl) (hw : swappedStores [.Tuple ts kt pt] (.Tuple es k2 pt2) X.env = pure none := by rfl) (h1 : (assignEach [.Tuple ts kt pt] X.env).map (·.2) = [assign (.Tuple ts kt pt) X.env] := by rfl)
    (hn2 : n ≤ 100 := by decide) (hl : (assignEach ts X.env).length = n := by rfl) (hst : (assignEach ts X.env).findIdx? (·.1) = none := by rfl) :
    PS X (.Assign [.Tuple ts kt pt] (.Tuple es k2 pt2) pos) (tDS X.K X.mg Wx (sParG js f)) := PS.imp (ps_asg (pe_tup ha) (pg_tup (n := n) hc hg hl hst) hs hw h1) fun D σ H t => by
  obtain ⟨Hi, ι, ρ, m, RR, gd⟩ := t
  refine ⟨Hi, ι, ρ, m, RR, goodS_lift RR gd fun ws m1 Hi1 ι1 vs H1 st M rv g1 => ?_⟩
  split at g1
  · rename_i hl
    have lv := rv.length
    refine ⟨?_, fun p hp => ?_⟩
    · exact sz5 (by omega)
    · obtain ⟨M2, st2⟩ := M.newD (o := .tup vs) hp
      refine ⟨p, vs, rfl, .inl (.inl upd_same), by omega, ?_⟩
      exact gNms_run js vs ws ρ _ ⟨M2, (RR.slots.step st).step st2⟩ (rv.step st2) hl fun σ' RR' => g1 _ _ _ _ st2 RR'
  · exact g1.elim
end
end GD
/-! GEC: defs whose last parameter is keyword-only with a default (None or a number), called without it. -/
namespace GD
open PySem PySem.Spec PyProof.Rows L2
def toDd : Option Int → D
  | none => .non
  | some i => .int i
section
variable {P : Program} {w : World} {K : PySem.W.Frag} {mg : Str → Option Value} {base : Heap}
/-- f(e, ..) without the last parameter, which has a default -/
def dflFn (d : Option Int) (f : Fn) : Fn := fun ws m => f (ws ++ [.d (toDd d)]) m
end
end GD
/-! GF2: the facts of errors, of the def that tries, of tables; the end with a table. -/
namespace GD
open PySem PySem.Spec PyProof.Rows L2 LamX NdefX
open He (ga ma eqO eqO_ok ba)
/-! ### where a lambda stands in a text -/
def kidsE : Expr → List Expr
  | .BoolOp _ vs _ => vs
  | .BinOp l _ r _ => [l, r]
  | .UnaryOp _ e _ => [e]
  | .IfExp t a b _ => [t, a, b]
  | .ListComp e gs _ _ => e :: gs.map (·.iter)
  | .Compare l _ rs _ => l :: rs
  | .Call f as _ _ => f :: as
  | .Attribute e _ _ => [e]
  | .Subscript e i _ => [e, i]
  | .List es _ => es
  | .Tuple es _ _ => es
  | _ => []
def atE (e : Expr) : List Nat → Expr
  | [] => e
  | i :: r => atE ((kidsE e).getD i e) r
def kidsS : Stmt → List Stmt
  | .For _ _ b _ _ => b
  | .While _ b _ _ => b
  | .If _ a b _ => a ++ b
  | _ => []
def exprS : Stmt → Expr
  | .Return (some e) _ => e
  | .Assign _ e _ => e
  | .For _ e _ _ _ => e
  | .While e _ _ _ => e
  | .If e _ _ _ => e
  | .Expr e _ => e
  | _ => .Name "" ⟨0, 0, 0, 0⟩
def atS (b : List Stmt) : List Nat → Stmt
  | [] => .Pass ⟨0, 0, 0, 0⟩
  | [i] => b.getD i (.Pass ⟨0, 0, 0, 0⟩)
  | i :: r => atS (kidsS (b.getD i (.Pass ⟨0, 0, 0, 0⟩))) r
/-- the lambda at a place of a def's body -/
def lamOf (q : Str) (b : List Stmt) (ps pe : List Nat) : LamF := match atE (exprS (atS b ps)) pe with
  | .Lambda as e sc _ => ⟨q, as, e, sc⟩
  | _ => ⟨q, defArgs (.Pass ⟨0, 0, 0, 0⟩), .Name "" ⟨0, 0, 0, 0⟩, defScope (.Pass ⟨0, 0, 0, 0⟩)⟩
/-! ### own errors -/
theorem oexB_ok {K : PySem.W.Frag} {C : Addr} (h : oexB K C = true) : OexC K C := by
  obtain ⟨h0, h⟩ := ba h
  obtain ⟨h1, h⟩ := ba h
  obtain ⟨h2, h⟩ := ba h
  obtain ⟨h3, h4⟩ := ba h
  refine ⟨?_, eqO_ok h1, of_decide_eq_true h2, of_decide_eq_true h3, h4⟩
  split at h0
  case h_2 => cases h0
  rename_i t dd cd sl ho
  rw [Bool.and_eq_true, beq_iff_eq] at h0
  obtain ⟨e0, h0⟩ := h0
  subst e0
  cases hm : cd.mro with
  | nil => rw [hm] at h0; cases h0
  | cons v bm =>
  cases hs : sl.toList with
  | nil => rw [hm, hs] at h0; cases v <;> cases h0
  | cons _ _ =>
  rw [hm, hs] at h0
  split at h0
  case h_2 => cases h0
  rename_i C' bm' k0 k1 k2 k3 n k5 q1 q2
  cases q1
  simp only [Bool.and_eq_true, beq_iff_eq, Bool.not_eq_true'] at h0
  obtain ⟨rfl, rfl, e3, e4, e5⟩ := h0
  obtain ⟨nm, bs, mro, ns, qn, hd, sn, sub, ab, col, del⟩ := cd
  dsimp only at hm e3 e4
  subst hm e3 e4
  have hsl : sl = #[k0, k1, k2, k3, some (.builtin "ValueError.__new__"), k5] := by
    rw [← Array.toArray_toList (xs := sl), hs, q2]
  subst hsl
  exact ⟨nm, qn, ns, bs, bm, sn, sub, ab, col, dd, k0, k1, k2, k3, k5, ho, e5⟩
/-- the words of the error c with the field f -/
structure ErrT (P : Program) (st : Stmt) (c f : Str) : Prop where
  body : ∃ msg p0 p1 p2 p3 p4 p5 p6 p7 p8 p9 p10 p11 p12 p13 p14 p15 p16 j0 j1, defBody st = errBody c f msg p0 p1 p2 p3 p4 p5 p6 p7 p8 p9 p10 p11 p12 p13 p14 p15 p16 j0 j1 ∧ (p2.endLine == p7.line) = true ∧ decide (msg.length ≤ 10000) = true
  sc : nscB ["self", f, "__class__"] ["self", f] ["__class__"] (defScope st) = true
  hd : ∃ ar, ((defArgs st).posonlyargs ++ (defArgs st).args).head? = some ar ∧ ar.arg = ("self" : Str)
  bind : ∀ (qual : Str) (cl : List (Str × Addr)) (kV doc pm : Value) (an : Option Addr) (cdv ct : Value) (us : List Value), us.length = 2 → bindArgs (PySem.W.fnX "__init__" qual (defArgs st) (defBody st) (defScope st) cl .none kV doc pm an cdv ct) ⟨us, []⟩ = pure (List.zip (["self", f] : List Str) us)
  ks : (defScope st).names.lookup ("super" : Str) = some .globalImplicit
  top : (P.main.scope.names.lookup ("super" : Str)).isSome = false
  fd : ((f == ("__debug__" : Str)) || (f == ("__classdict__" : Str))) = false
theorem err_of {P : Program} {w : World} {K : PySem.W.Frag} {mg : Str → Option Value} {base h : Heap} {c f : Str} {st : Stmt} (X : K.In h) (G : h.Ns mainGlobals mg) (B : errB K P.main.file c = true) (V : fnE K c = (ErrG.mk c st).val) (T : ErrT P st c f) (hs : mg "super" = none) (n1 : (Fg.noat c "code").ok K = true) (n2 : (Fg.noat c f).ok K = true) : ErrOk P w K mg base c (some f) := by
  obtain ⟨b0, B⟩ := ba B
  obtain ⟨b1, B⟩ := ba B
  obtain ⟨b2, B⟩ := ba B
  obtain ⟨b3, B⟩ := ba B
  obtain ⟨b4, B⟩ := ba B
  obtain ⟨b5, B⟩ := ba B
  obtain ⟨b6, B⟩ := ba B
  have O := oexB_ok b1
  unfold fnE at V
  split at B
  case h_2 => cases B
  rename_i oc od fd osl lk
  rw [lk] at V
  obtain ⟨m1, m2, m3, m4, m5, m6, m7, m8, m9, m10, m11, m12, m13, m14, m15⟩ := fd
  have V : some (m1, m2, m3, m4, m5, m6, m7.map (·.1), m15) = (ErrG.mk c st).val := V
  unfold ErrG.val at V
  simp only [Option.some.injEq, Prod.mk.injEq] at V
  obtain ⟨rfl, rfl, rfl, rfl, rfl, rfl, v7, rfl⟩ := V
  obtain ⟨B1, B⟩ := ba B
  dsimp only at B1 B
  have e8 : m8 = .none := by
    split at B1
    · rfl
    · cases B1
  subst e8
  obtain ⟨cc, rfl⟩ : ∃ cc, m7 = [(("__class__" : Str), cc)] := by
    match m7, v7 with
    | [(nm, cc)], v => exact ⟨cc, by have v : [nm] = [("__class__" : Str)] := v; cases v; rfl⟩
  obtain ⟨cda, rfl⟩ : ∃ cda, m13 = .ref cda := by
    cases m13 with
    | ref a => exact ⟨a, rfl⟩
    | _ => cases B
  have B : (PySem.W.codeIn K (.ref cda) (c ++ ".__init__") && ((match K.lookup cda with
          | some ⟨_, _, .fields vs, _⟩ => (match (vs[2]? : Option Value) with
            | some (.str fl _) => P.main.file == fl
            | _ => false)
          | _ => false) && (match K.lookup cc with
            | some ⟨_, _, .cell (some (.ref C')), _⟩ => C' == ga K c
            | _ => false))) = true := B
  obtain ⟨B2, B⟩ := ba B
  obtain ⟨B3, B4⟩ := ba B
  obtain ⟨msg, p0, p1, p2, p3, p4, p5, p6, p7, p8, p9, p10, p11, p12, p13, p14, p15, p16, j0, j1, hb, hpos, hmsg⟩ := T.body
  have S := nscope_by T.sc
  have cell : ∃ cl cld csl, K.lookup cc = some (⟨cl, cld, .cell (some (.ref (ga K c))), csl⟩ : Obj) := by
    split at B4
    · rename_i q1 q2 C' q3 q4
      rw [beq_iff_eq] at B4
      exact ⟨_, _, _, by rw [q4, B4]⟩
    · cases B4
  have code : ∃ ccl cdd vs ccs file tf, K.lookup cda = some (⟨ccl, cdd, .fields vs, ccs⟩ : Obj) ∧ vs[2]? = some (.str file tf) ∧ ((P.main.file : Str) == file) = true := by
    split at B3
    · rename_i q1 q2 vs q3 q4
      split at B3
      · rename_i fl t q5
        exact ⟨_, _, _, _, _, _, q4, q5, B3⟩
      · cases B3
    · cases B3
  obtain ⟨ar, a1, a2⟩ := T.hd
  have SF : SupF P K mg (ga K c) (ma K (ga K c) "__init__") cda cc (defScope st) "self" := ⟨⟨_, _, _, _, ar, lk, a1, a2⟩, code, cell, hs, T.top, T.ks, S.frk _ (by simp), S.par _ (by simp), S.kind, eqO_ok b4, of_decide_eq_true b5, eqO_ok b6⟩
  have hf := T.fd
  rw [Bool.or_eq_false_iff] at hf
  exact ⟨_, _, _, ["self", f], He.glo_ok X G b0, O, eqO_ok b2, of_decide_eq_true b3, Binds.all fun us hu => T.bind _ _ _ _ _ _ _ _ us hu,
    err_init (w := w) (base := base) O SF lk B2 S hb hpos (of_decide_eq_true hmsg) (He.noat_ok n1) (He.noat_ok n2) hf.1 hf.2⟩
/-! ### the def that tries -/
theorem tryc_of {K : PySem.W.Frag} {h : Heap} {mg : Str → Option Value} {c b1 b2 : Str} {ats : List Str} (X : K.In h) (G : h.Ns mainGlobals mg) (g0 : (Fg.glo c).ok K = true) (g1 : (Fg.glo b1).ok K = true) (g2 : (Fg.glo b2).ok K = true) (hx : (Fg.xf c ats).ok K = true) (h1 : (Fg.exm c b1 true).ok K = true) : TryC K mg b1 b2 ats c := by
  obtain ⟨x1, x2⟩ := ba hx
  exact ⟨_, _, _, He.glo_ok X G g0, He.glo_ok X G g1, He.glo_ok X G g2, ⟨xfB_ok x1, fun n hn => eqO_ok (List.all_eq_true.mp x2 n hn)⟩, .inl (of_decide_eq_true h1)⟩
/-! ### the run of the top, with errors and tables -/
section
variable {file : Str} {fa : List Fg} {fn : List DefG} {ts : List TabG} {es : List ErrG} {tf : List He.Defn} {w : World} {h : Heap} {K : PySem.W.Frag}
theorem SaysH.err (c : SaysH file fa fn ts es tf w h K) (i : Nat) {e : ErrG} (he : es[i]? = some e := by rfl) : errB K file e.c = true ∧ fnE K e.c = e.val := by
  refine ⟨List.all_eq_true.mp c.e2 e (List.mem_of_getElem? he), ?_⟩
  have z : (es.map fun e => fnE K e.c)[i]? = (es.map ErrG.val)[i]? := by rw [c.e1]
  rw [List.getElem?_map, List.getElem?_map, he] at z
  exact Option.some.inj z
end
theorem walk_t {l : PySem.W.OpenLaw} {n k deep : Nat} {file : Str} {fa : List Fg} {fn : List DefG} {ts : List TabG} {es : List ErrG} {tf : List He.Defn} {q : Program} {loose : List Str} {XP : (Str → Option Value) → Heap → Prop} {d : DefRec} {x : Str}
    (hn : l.most = some n) (hn2 : n ≤ 63) (hdf : d.params.defaults = []) (hr : Room k callerA) (hd : d.name = ("law" : Str)) (htf : (("law" : Str), none) ∈ tf)
    (F : ∀ (w : World) (mg : Str → Option Value) (f : Addr) (h : Heap) (K : PySem.W.Frag), K.In h → h.Ns mainGlobals mg → mg ("law" : Str) = some (.ref f) → SaysH file fa fn ts es tf w h K →
      ∃ fd : FuncData, (∀ (s : Shared) (v : Value), BindsTo s fd ⟨[v], []⟩ [(x, v)]) ∧ ∀ base : Heap, K.In base → base.Ns mainGlobals mg → (∀ p ∈ tf, TabB base mg (He.cT K p).1 (He.cT K p).2) → FnOk l.prog w K mg base (L2.CX l.prog w) k f fd [x] (spLawT K (He.cT K (("law" : Str), none)).2)) :
    PySem.W.WalkO q loose XP (hookH file deep fa fn ts es tf).says l.row.toRowW d [] (fun f vs => PySem.call f vs) := by
  refine walk_ofTsE (x := x) (CX := fun w => L2.CX l.prog w) hn (Nat.le_trans hn2 (by decide)) hdf hr (fun w mg f h YY G hmg => ?_) fun w H s e s' h => by
    obtain ⟨_, _, _, _, _, _, _, _, _, _, _, _, z⟩ := h
    exact z
  obtain ⟨K, KX, c⟩ := YY
  rw [hd] at hmg
  obtain ⟨fd, hb, hF⟩ := F w mg f h K KX G hmg c
  have mem : ∀ {p : Addr × Addr}, p ∈ tf.map (He.cT K) → ∃ q ∈ tf, He.cT K q = p := fun hp => List.mem_map.mp hp
  refine ⟨K, KX, fd, tf.map (He.cT K), spLawT K (He.cT K (("law" : Str), none)).2, fun p hp => ?_, fun p hp => ?_, fun p hp => ?_, hb, fun H a ns hl _ hH hS => ?_, fun base kb gb tb => hF base kb gb fun p hp => tb _ (List.mem_map.mpr ⟨p, hp, rfl⟩)⟩
  · obtain ⟨q, hq, rfl⟩ := mem hp
    exact c.empty q hq
  · obtain ⟨q, hq, rfl⟩ := mem hp
    exact c.out q hq
  · obtain ⟨q, hq, rfl⟩ := mem hp
    exact PySem.W.codeHd_of_K KX (c.hd q hq)
  · exact ⟨a, ns, rfl, Nat.le_trans hl hn2, hH _ (List.mem_map.mpr ⟨_, htf, rfl⟩), hS, fun _ => rfl⟩
/-- the frame of the law makes lambdas -/
theorem lamC_law {P : Program} {w : World} {K : PySem.W.Frag} {mg : Str → Option Value} {base : Heap} {N : List Str} {st : Stmt} {f : Addr} {cdv : Value} {A : Around} {outer : List PySem.Env} {s : Shared} {H : Hp} {E : XK} {F : Nat → LamF} {h : Heap} (X : K.In h) (G : h.Ns mainGlobals mg) (gl : (Fg.glo "law").ok K = true) (hmg : mg "law" = some (.ref f))
    (lk : ∃ oc od osl dV kV doc pm an ct, K.lookup f = some ⟨oc, od, .func (PySem.W.fnOf "law" "law" (defArgs st) (defBody st) (defScope st) dV kV doc pm an cdv ct), osl⟩) (hc : ∃ c, cdv = .ref c) (TB : TabB base mg (He.cT K (("law" : Str), none)).1 (He.cT K (("law" : Str), none)).2) :
    LamC (cxOf (L2.CX P w) P w K mg base N "law" (defScope st) f cdv A outer s H E) ⟨(cxOf (L2.CX P w) P w K mg base N "law" (defScope st) f cdv A outer s H E).env.cells, F⟩ (He.cT K (("law" : Str), none)).2 := by
  obtain ⟨oc, od, osl, dV, kV, doc, pm, an, ct, lk⟩ := lk
  obtain ⟨c, rfl⟩ := hc
  have e := hmg.symm.trans (He.glo_ok X G gl)
  have e2 : f = ga K "law" := by
    injection (Option.some.inj e)
  have lk' : K.lookup (He.fAd K (("law" : Str), none)) = some ⟨oc, od, .func (PySem.W.fnOf "law" "law" (defArgs st) (defBody st) (defScope st) dV kV doc pm an (.ref c) ct), osl⟩ := by
    show K.lookup (ga K "law") = _
    rw [← e2]
    exact lk
  refine ⟨rfl, c, rfl, ?_⟩
  have e3 : (He.cT K (("law" : Str), none)).1 = c := He.codeOf_eq lk' rfl
  rw [e3] at TB
  exact TB
end GD
/-! GED: methods of texts: split, partition, join. -/
namespace GD
open PySem PySem.Spec PyProof.Rows L2
theorem strs_of_repL {K : PySem.W.Frag} {mg : Str → Option Value} {H : Hp} : ∀ {vs : List V} {ys : List Str}, RepL K mg H vs (ys.map D.str) → vs = ys.map V.str
  | _, [], .nil => rfl
  | _, y :: ys, .cons h r => by
    cases h
    rw [strs_of_repL r]
    rfl
/-- the texts of data -/
def strsD : List D → Option (List Str)
  | [] => some []
  | .str x :: r => (strsD r).map (x :: ·)
  | _ :: _ => none
theorem strsD_eq : ∀ {l : List D} {ys : List Str}, strsD l = some ys → l = ys.map D.str
  | [], _, h => by cases h; rfl
  | .str x :: r, ys, h => by
    unfold strsD at h
    obtain ⟨zs, h1, rfl⟩ := Option.map_eq_some_iff.mp h
    rw [strsD_eq h1]
    rfl
  | .non :: _, _, h | .bl _ :: _, _, h | .int _ :: _, _, h | .tup _ :: _, _, h | .lst _ :: _, _, h | .fls _ :: _, _, h | .obj _ _ _ :: _, _, h | .gl _ :: _, _, h | .ty _ :: _, _, h | .xin _ _ _ :: _, _, h | .lam _ _ :: _, _, h => by cases h
def oJoin : OM := fun o ws m => match o, ws with
  | .d (.str a), [y] => (match (lstOf y m).bind strsD with
    | some ys => if (ys.map (·.length)).sum + ys.length * a.length ≤ 16777216 then .ok (.d (.str (Txt.join a ys))) m else .bad
    | none => .bad)
  | _, _ => .bad
theorem s_join {K : PySem.W.Frag} {mg : Str → Option Value} : SM K mg (fun x xs H Q => ∃ a p, ∃ ys : List Str, x = .str a ∧ xs = [.ref p] ∧ (SqL K H p (ys.map V.str) ∨ SqT K H p (ys.map V.str)) ∧
    (ys.map (·.length)).sum + ys.length * a.length ≤ 16777216 ∧ Q (.str (Txt.join a ys)) H) oJoin := by
  intro Wx σ Hi ι m H x xs o ws Q M rx rs g
  unfold oJoin at g
  split at g
  · rename_i a y
    split at g
    · rename_i ys hy
      split at g
      · rename_i h
        obtain ⟨l, h1, h2⟩ := Option.bind_eq_some_iff.mp hy
        cases rx
        cases rs with
        | cons r1 r2 =>
          cases r2
          obtain ⟨p, vs, rfl, q, r⟩ := lstOf_rep M h1 r1
          rw [strsD_eq h2] at r
          rw [strs_of_repL r] at q
          exact ⟨a, p, ys, rfl, rfl, .inl (.inl (.inl q)), h, g.here (rep := RepW K mg) M (.str _)⟩
      · exact g.elim
    · exact g.elim
  · exact g.elim
end GD
/-! GEE: a, *b = a list. -/
/-! GEF: {..}.get(x), a display of two texts. -/
namespace GD
open PySem PySem.Spec PyProof.Rows L2 PySem.W PySem.Calls
def optS : Option Str → D
  | some x => .str x
  | none => .non
def fGetC (kvs : List (Str × Str)) (f : Ev) : Ev := fun ρ m => (f ρ m).bind fun w m => match w with
  | .d (.str x) => .ok (.d (optS (kvs.lookup x))) m
  | _ => .bad
end GD
/-! GEG: texts: walked, made of numbers, made of parts; repr of own objects; a written dict asked by an index. -/
namespace GD
open PySem PySem.Spec PyProof.Rows L2
/-! ### for c in a text -/
def iTxt (a : Ev) : EvL := fun ρ m => (a ρ m).bind fun w m => match w with
  | .d (.str x) => .ok (x.cps.toList.map fun c => W.d (.str ⟨#[c]⟩)) m
  | _ => .bad
/-! ### for k in a dict of the module -/
def iKeyT (x : Str) (kvs : Dtab) : EvL := fun _ m => .ok (kvs.map fun kv => W.d (.str kv.1)) m
/-! ### str, repr, int of texts and numbers -/
def oStrB : ON := fun ws m => match ws with
  | [.d (.int i)] => if i.natAbs < 2 ^ 250 then .ok (.d (.str (Str.ofString (toString i)))) m else .bad
  | [.d (.str x)] => .ok (.d (.str x)) m
  | _ => .bad
theorem call_strB {X : Cx} : CallR X (.type "str") (fun xs H Q => (∃ i, xs = [.int i] ∧ i.natAbs.log2 < 1920 ∧ Q (.str (toString i)) H) ∨ ∃ a, xs = [.str a] ∧ Q (.str a) H) := CallR.or call_str_int SkE.call_str_str
theorem s_strB {K : PySem.W.Frag} {mg : Str → Option Value} : SN K mg (fun xs H Q => (∃ i, xs = [.int i] ∧ i.natAbs.log2 < 1920 ∧ Q (.str (toString i)) H) ∨ ∃ a, xs = [.str a] ∧ Q (.str a) H) oStrB := by
  intro Wx σ Hi ι m H xs ws Q M rs g
  unfold oStrB at g
  split at g
  · split at g
    · rename_i h
      cases rs with
      | cons r1 r2 => cases r2; cases r1; exact .inl ⟨_, rfl, log_small h, g.here (rep := RepW K mg) M (.str _)⟩
    · exact g.elim
  · cases rs with
    | cons r1 r2 => cases r2; cases r1; exact .inr ⟨_, rfl, g.here (rep := RepW K mg) M (.str _)⟩
  · exact g.elim
/-! ### f'..' -/
/-- {e}: a number or a text, as a text -/
def fFmt (a : Ev) : Ev := fun ρ m => (a ρ m).bind fun w m => match w with
  | .d (.int i) => if i.natAbs < 2 ^ 250 then .ok (.d (.str (Str.ofString (toString i)))) m else .bad
  | .d (.str x) => if x.length ≤ 100000 then .ok (.d (.str x)) m else .bad
  | _ => .bad
/-- the parts, one behind the other -/
def fJs : List Ev → Str → Ev
  | [], acc => fC (.str acc)
  | e :: es, acc => fun ρ m => (e ρ m).bind fun w m => match w with
    | .d (.str y) => if (acc ++ y).length ≤ 1000000 then fJs es (acc ++ y) ρ m else .bad
    | _ => .bad
def fJoined (es : List Ev) : Ev := fJs es Str.empty
section
variable {X : Cx} {Wx : WX} {kk : Nat}
theorem pd_fmt {e : Expr} {f : Ev} {pos : Pos} (he : PE X e (tD X.K X.mg Wx f)) : PE X (.FormattedValue e (-1) none pos) (tD X.K X.mg Wx (fFmt f)) := PE.imp (pe_fmt he) fun σ H Q t => by
  obtain ⟨Hi, ι, ρ, m, RR, gd⟩ := t
  refine ⟨Hi, ι, ρ, m, RR, good_bind gd fun w m1 Hi1 ι1 v H1 st M rv g1 => ?_⟩
  split at g1
  · split at g1
    · rename_i h
      cases rv
      exact .inr ⟨_, rfl, log_small h, g1.here (rep := RepW X.K X.mg) M (.str _)⟩
    · exact g1.elim
  · split at g1
    · rename_i h
      cases rv
      exact .inl ⟨_, rfl, by rw [sizeLine_eq]; omega, g1.here (rep := RepW X.K X.mg) M (.str _)⟩
    · exact g1.elim
  · exact g1.elim
inductive PJd (X : Cx) (Wx : WX) : List Expr → List Ev → Prop where
  | nil : PJd X Wx [] []
  | cons {e : Expr} {f : Ev} {es : List Expr} {fs : List Ev} (h : PE X e (tD X.K X.mg Wx f)) (r : PJd X Wx es fs) : PJd X Wx (e :: es) (f :: fs)
theorem PJd.pj {es : List Expr} {fs : List Ev} (h : PJd X Wx es fs) : PJ X es (fs.map fun f => tD X.K X.mg Wx f) := by
  induction h with
  | nil => exact .nil
  | cons h r ih => exact .cons h ih
theorem tJs_of {K : PySem.W.Frag} {mg : Str → Option Value} {σ : L2.St} {ρ : Env} {Q : VK} : ∀ (fs : List Ev) (acc : Str) (H : Hp) (Hi : Hp) (ι : List Addr) (m : Mem), Rel K mg Hi ι ρ m σ H → Good K mg (RepW K mg) Wx σ Hi ι H (fJs fs acc ρ m) Q → tJs (fs.map fun f => tD K mg Wx f) acc σ H fun out H1 => Q (.str out) H1
  | [], acc, H, Hi, ι, m, RR, g => g.here (rep := RepW K mg) RR.mok (.str _)
  | f :: fs, acc, H, Hi, ι, m, RR, g => by
    refine ⟨Hi, ι, ρ, m, RR, good_bind g fun w m1 Hi1 ι1 v H1 st M rv g1 => ?_⟩
    split at g1
    · split at g1
      · rename_i y h
        cases rv
        exact ⟨_, rfl, by rw [sizeLine_eq]; omega, tJs_of fs _ H1 Hi1 ι1 m1 (RR.step st M) g1⟩
      · exact g1.elim
    · exact g1.elim
theorem pd_joined {v1 v2 : Expr} {rest : List Expr} {fs : List Ev} {pos : Pos} (h : PJd X Wx (v1 :: v2 :: rest) fs) : PE X (.JoinedStr (v1 :: v2 :: rest) pos) (tD X.K X.mg Wx (fJoined fs)) := PE.imp (pe_joined h.pj) fun σ H Q t => by
  obtain ⟨Hi, ι, ρ, m, RR, gd⟩ := t
  exact tJs_of fs _ H Hi ι m RR gd
/-! ### {..}[x], a display of two texts -/
def fIxC (kvs : List (Str × Str)) (f : Ev) : Ev := fun ρ m => (f ρ m).bind fun w m => match w with
  | .d (.str x) => (match kvs.lookup x with
    | some v => .ok (.d (.str v)) m
    | none => .bad)
  | _ => .bad
end
/-! ### repr(o) by the own __repr__ -/
def oReprO (tab : List (Str × Fn)) : ON := own1 tab fun x m => match x with
  | .d (.str n) => .ok (.d (.str n)) m
  | _ => .bad
end GD
namespace PySem.W
open Lean Elab Tactic Meta PySem PySem.Spec PySem.Calls PyProof.Rows
section
variable {prog : Program} {w : World} {M : Model} {A : Around} {E : Value → Shared → Prop} {s : Shared} {K : Frag} {x C f : Addr} {ox : Obj} {od : Option Obj}
open Builtin in
theorem kro_call {Q : Value → Shared → Prop} (hu : A.in1.units < cLine) (X : K.In s.heap) (I : InstAt s.heap x ox C od) (hs : findIn K (.ref C) "__repr__" = some (some (.ref f))) (hf : isFn K (.ref f) = true)
    (h : wpAny (model prog w) A.in1 (call (.ref f) [.ref x]) (StrBack Q) E s) : wpAny (model prog w) A (call (.builtin "repr") [.ref x]) Q E s := by
  refine Calls.call_function_entry F.kind_repr F.plain_repr F.entry_repr (F.args_repr1 _) ?_
  unfold Builtin.«repr»
  refine wpAny_bind (m := oneArg "repr" _) (wpAny_pure ?_)
  refine wpAny_bind (m := cRoomFor _ _) (wpAny_cRoomFor hu ?_)
  refine wpAny_bind (wpAny_bind (I.type.here ((looks_findIn X hs).here ?_)))
  refine wpAny_bind (m := callSpecialIfBound? (.ref x) (Str.ofString "__repr__") _) (ifBound_K X I hs hf (wpAny_mono h (fun r s' hr => ?_) fun _ _ y => y))
  cases r <;> first | exact hr.elim | exact wpAny_bind (wpAny_isInstance (T := "str") (b := true) (typeIs_str _ _ _) isSubtype_str_str (wpAny_pure ⟨_, rfl, hr⟩))
end
end PySem.W
namespace GD
open PySem PySem.Spec PyProof.Rows L2
section
variable {X : Cx} {Wx : WX} {kk j : Nat}
theorem cr_repr {tab : List (Str × Fn)} (c : Cc X Wx kk) (T : AllT (fun c g => OwnOk X.prog X.w X.K X.mg X.base c "__repr__" j g) tab) (hj : j + 2 ≤ kk) : CallR X (.builtin "repr") (rWN X.K X.mg (oReprO tab)) := by
  intro pins s σ H xs us Q I rs hq
  obtain ⟨C, f, b1, gm, ox, od, rfl, J, hfi, hisf, F, hsp⟩ := one_core T I rs hq
  refine PySem.W.kro_call (c.room.mono hj).in1.units0 I.kIn J hfi hisf ?_
  refine wpAny_mono (run_noX F (c.room.mono (Nat.le_of_succ_le hj)).in1 I.env0.in1 I (us := [.ref b1]) (vs := [.ref b1]) (.cons rfl .nil) hsp) (fun y s' z => ?_) fun _ _ z => z
  obtain ⟨v, H', I', rv, Hi', ι', m', w', M', rw', g'⟩ := z
  split at g'
  case h_2 => exact g'.elim
  rename_i n
  cases rw'
  obtain ⟨t, rfl⟩ := rv
  exact ⟨.str n, H', I', ⟨_, rfl⟩, g'.here (rep := RepW X.K X.mg) M' (.str n)⟩
end
/-! ### a short text times an int -/
end GD
/-! GEI: defs whose last parameter has a number as its default. -/
/-! GEJ: a changeable list lent to a test as data: the test changes nothing, and its answer is a truth value. -/
namespace GD
open PySem PySem.Spec PyProof.Rows L2
/-- no changeable object is seen -/
def hideE (ρ : Env) : Env := ρ.map fun o => match o with
  | some (.m _) => none
  | o => o
def gLend (i : Nat) (t : EvT) : EvT := fun ρ m => match ρ[i]? with
  | some (some (.m k)) => (match m[k]? with
    | some (.lst xs) => (match t ((hideE ρ).set i (some (.d (.lst xs)))) [] with
      | .ok b _ => .ok b m
      | _ => .bad)
    | _ => .bad)
  | _ => .bad
theorem hide_get {ρ : Env} {j : Nat} {w : W} (h : (hideE ρ)[j]? = some (some w)) : ∃ x, w = .d x ∧ ρ[j]? = some (some (.d x)) := by
  unfold hideE at h
  rw [List.getElem?_map] at h
  cases e : ρ[j]? with
  | none => rw [e] at h; cases h
  | some o =>
    rw [e] at h
    simp only [Option.map_some, Option.some.injEq] at h
    cases o with
    | none => cases h
    | some u =>
      cases u with
      | m k => cases h
      | d x => cases h; exact ⟨x, rfl, rfl⟩
section
variable {K : PySem.W.Frag} {mg : Str → Option Value} {Hi H : Hp} {ι : List Addr} {m : Mem}
open Classical in
/-- all changeable objects as they stand, as data -/
noncomputable def lentH (Hi H : Hp) (ι : List Addr) : Hp := fun b => match Hi b with
  | some o => some o
  | none => if b ∈ ι then H b else none
theorem lent_same : Same Hi (lentH Hi H ι) := fun b u q => by unfold lentH; rw [q]
theorem lent_sub (M : Mok K mg Hi ι m H) : Same (lentH Hi H ι) H := fun b u q => by
  unfold lentH at q
  cases e : Hi b with
  | some o => rw [e] at q; cases q; exact M.sub _ _ e
  | none =>
    rw [e] at q
    dsimp only at q
    split at q
    · exact q
    · cases q
theorem lent_at (M : Mok K mg Hi ι m H) {k : Nat} {a : Addr} {xs : List D} (hk : ι[k]? = some a) (ho : m[k]? = some (.lst xs)) : lentH Hi H ι a = H a := by
  unfold lentH
  rw [M.free k _ a ho hk (fun q => nomatch q)]
  exact if_pos (List.mem_of_getElem? hk)
theorem lent_mok (M : Mok K mg Hi ι m H) : Mok K mg (lentH Hi H ι) [] [] H := ⟨lent_sub M, rfl, List.nodup_nil, fun k mo a h => by simp at h, fun k mo a h => by simp at h⟩
theorem lent_back {Hi1 H1 : Hp} {ι1 : List Addr} (M : Mok K mg Hi ι m H) (st : Step (lentH Hi H ι) [] H Hi1 ι1 H1) : Step Hi ι H Hi ι H1 ∧ Mok K mg Hi ι m H1 := by
  have fr : ∀ a o, H a = some o → H1 a = some o := fun a o h => st.frm a o h (by simp)
  refine ⟨⟨Same.refl _, List.prefix_refl _, fun a o h _ => fr a o h, fun a h1 h2 => absurd h1 h2, st.live, fun a _ h _ => h⟩, fun b u q => fr b u (M.sub b u q), M.len, M.nd, M.free, fun k mo a h1 h2 => ?_⟩
  obtain ⟨o, ho⟩ := M.live (List.mem_of_getElem? h2)
  exact (M.obj k mo a h1 h2).mono (Same.refl _) (by rw [ho, fr a o ho])
end
section
variable {X : Cx} {Wx : WX}
theorem ptd_lend {e : Expr} {t : EvT} {i : Nat} (h : PT X e (tDT X.K X.mg Wx t)) : PT X e (tDT X.K X.mg Wx (gLend i t)) := PT.imp h fun σ H Q tt => by
  obtain ⟨Hi, ι, ρ, m, RR, g⟩ := tt
  unfold gLend at g
  split at g
  case h_2 => exact g.elim
  rename_i k h1
  split at g
  case h_2 => exact g.elim
  rename_i xs h2
  obtain ⟨v, hv, a, hk, rfl⟩ := RR.slots.2 i _ h1
  obtain ⟨vs, hH, hr⟩ := RR.mok.obj k _ a h2 hk
  refine ⟨lentH Hi H ι, [], (hideE ρ).set i (some (.d (.lst xs))), [], ⟨lent_mok RR.mok, ?_, fun j w hj => ?_⟩, ?_⟩
  · rw [List.length_set]
    unfold hideE
    rw [List.length_map]
    exact RR.slots.1
  · by_cases e : i = j
    · subst e
      have hl : i < (hideE ρ).length := by
        unfold hideE
        rw [List.length_map]
        exact (List.getElem?_eq_some_iff.mp h1).1
      rw [List.getElem?_set_self hl] at hj
      cases hj
      exact ⟨_, hv, .lst (by rw [lent_at RR.mok hk h2]; exact hH) (hr.mono lent_same)⟩
    · rw [List.getElem?_set_ne e] at hj
      obtain ⟨x, rfl, hx⟩ := hide_get hj
      obtain ⟨u, hu, ru⟩ := RR.slots.2 j _ hx
      exact ⟨u, hu, Rep.mono lent_same ru⟩
  · cases ht : t ((hideE ρ).set i (some (.d (.lst xs)))) [] with
    | ok b m1 =>
      rw [ht] at g
      intro Hi1 ι1 x H1 st M1 rx
      obtain ⟨s2, M2⟩ := lent_back RR.mok st
      exact g Hi ι x H1 s2 M2 rx
    | exc c ns vs m1 => rw [ht] at g; exact g.elim
    | bad => rw [ht] at g; exact g.elim
end
end GD
/-! GEM: an own instance looked for in a list of plain things: each is asked by the own __eq__, reflected. -/
namespace GM
open PySem PySem.Spec PyProof.Rows L2
open AutoSeq1 (wpAny_loadPart')
open MeetsSeq MeetsSeq2 MeetsSeq3 SeqRoads2
section
variable {prog : Program} {w : World} {A : Around} {E : Value → Shared → Prop} {s : Shared} {K : PySem.W.Frag} {x C l : Addr} {ox : Obj} {od : Option Obj} {items : Array Value}
theorem isInst_no (X : K.In s.heap) (I : PySem.W.InstAt s.heap x ox C od) {T : String} (hm : PySem.W.mroIn K C (.type T) = some false) {Q : Bool → Shared → Prop} (h : Q false s) : wpAny (model prog w) A (isInstance (.ref x) (.type T)) Q E s := by
  unfold isInstance
  exact wpAny_bind (I.type.here ((PySem.W.looks_mroIn X hm).here h))
/-- a tuple, a list, a text, None do not know the instance -/
theorem tup_declines (X : K.In s.heap) (I : PySem.W.InstAt s.heap x ox C od) (hm : PySem.W.mroIn K C (.type "tuple") = some false) (hl : s.heap.IsTuple l items) {Q : Option Value → Shared → Prop} (h : Q none s) : wpAny (model prog w) A (tryCompare (.ref l) "__eq__" (.ref x)) Q E s := by
  obtain ⟨⟨cls, dd, data, sl⟩, ho, hc, n, hd⟩ := id hl
  simp only at hc hd
  subst hc hd
  refine wpAny_tryCompare_declines ⟨_, ho, rfl⟩ F.slot_tuple_eq (GQ.call_here F.slot_tuple_eq ⟨_, ho, rfl⟩ F.entry_tuple_eq (F.args_tuple_eq_2 _ _) ?_)
  wp_walk using wpAny_loadPart' ho, isInst_no X I hm
  exact ⟨rfl, h⟩
theorem lst_declines (X : K.In s.heap) (I : PySem.W.InstAt s.heap x ox C od) (hm : PySem.W.mroIn K C (.type "list") = some false) (hl : s.heap.IsList l items) {Q : Option Value → Shared → Prop} (h : Q none s) : wpAny (model prog w) A (tryCompare (.ref l) "__eq__" (.ref x)) Q E s := by
  obtain ⟨⟨cls, dd, data, sl⟩, ho, hc, n, hd⟩ := id hl
  simp only at hc hd
  subst hc hd
  refine wpAny_tryCompare_declines ⟨_, ho, rfl⟩ F.slot_list_eq (GQ.call_here F.slot_list_eq ⟨_, ho, rfl⟩ F.entry_list_eq (F.args_list_eq_2 _ _) ?_)
  wp_walk using wpAny_loadPart' ho, isInst_no X I hm
  exact ⟨rfl, h⟩
theorem str_declines (I : PySem.W.InstAt s.heap x ox C od) (hd : ox.data = .plain) (b : Str) (u : Tok) {Q : Option Value → Shared → Prop} (h : Q none s) : wpAny (model prog w) A (tryCompare (.str b u) "__eq__" (.ref x)) Q E s := by
  refine wpAny_tryCompare_declines (typeIs_str s b u) F.slot_str_eq (GQ.call_here F.slot_str_eq (typeIs_str s b u) F.entry_str_eq (F.args_str_eq_2 _ _) ?_)
  have h1 := I.at_
  wp_walk using wpAny_load h1
  rw [hd]
  wp_walk
  exact ⟨rfl, h⟩
theorem none_declines {Q : Option Value → Shared → Prop} (h : Q none s) : wpAny (model prog w) A (tryCompare .none "__eq__" (.ref x)) Q E s :=
  wpAny_tryCompare_declines (show s.TypeIs .none "NoneType" from rfl) F.slot_NoneType_eq_refl (call_gives F.slot_NoneType_eq_refl rfl F.entry_NoneType_eq (F.args_NoneType_eq_2 _ _) (SeqAt.NoneType___eq___none_ref_0 x) ⟨rfl, h⟩)
/-- u == x, where u does not know the instance x: x is asked -/
theorem rc_own_r {u tu : Value} {f : Addr} {r : Bool} {Q : Value → Shared → Prop} (hu : A.units < cLine) (X : K.In s.heap) (I : PySem.W.InstAt s.heap x ox C od) (ho : oneThing? .Eq u (.ref x) = none) (htu : PySem.W.Looks (model prog w) s.heap (typeOf u) tu) (hne : (tu != .ref C) = true) (hsub : PySem.W.mroIn K C tu = some r)
    (dec : ∀ Q : Option Value → Shared → Prop, Q none s → wpAny (model prog w) A (tryCompare u "__eq__" (.ref x)) Q E s) (hs : PySem.W.findIn K (.ref C) "__eq__" = some (some (.ref f))) (hf : PySem.W.isFn K (.ref f) = true)
    (h : wpAny (model prog w) A (call (.ref f) [.ref x, u]) (PySem.W.CmpBack Q) E s) : wpAny (model prog w) A (richCompare .Eq u (.ref x)) Q E s := by
  have one : wpAny (model prog w) A (tryCompare (.ref x) "__eq__" u) (fun r s' => ∃ v, r = some v ∧ Q v s') E s := by
    unfold tryCompare
    refine wpAny_bind (PySem.W.ifBound_K X I hs hf (wpAny_mono h (fun v s' hv => ?_) fun _ _ e => e))
    cases v <;> first | exact hv.elim | exact wpAny_pure ⟨_, rfl, hv⟩
  simp only [richCompare, cmpInfo_Eq, ho]
  refine wpAny_holding (wpAny_bind (wpAny_cRoomFor hu ?_))
  refine wpAny_bind (htu.here (wpAny_bind (I.type.here ?_)))
  rw [if_pos hne]
  refine wpAny_bind ((PySem.W.looks_mroIn X hsub).here ?_)
  cases r with
  | true =>
    simp only [if_true]
    refine wpAny_bind (wpAny_mono one (fun r s' z => ?_) fun _ _ e => e)
    obtain ⟨v, rfl, hq⟩ := z
    first
      | exact wpAny_bind (wpAny_rule (wpAny_pure hq))
      | exact wpAny_rule (wpAny_pure hq)
  | false =>
    simp only [Bool.false_eq_true, if_false, Bool.not_false, if_true]
    refine wpAny_bind (dec _ ?_)
    refine wpAny_bind (wpAny_mono one (fun r s' z => ?_) fun _ _ e => e)
    obtain ⟨v, rfl, hq⟩ := z
    exact wpAny_pure hq
theorem eqBool_of {u v : Value} {Q : Bool → Shared → Prop} (hsh : (∃ a, u = .ref a) ∨ (∃ b t, u = .str b t) ∨ u = .none) (hne : (u == v) = false) (h : wpAny (model prog w) A (richCompare .Eq u v) (fun v s' => ∃ r, v = .bool r ∧ Q r s') E s) : wpAny (model prog w) A (eqBool u v) Q E s := by
  unfold eqBool
  refine wpAny_holding ?_
  refine wpAny_ite_split (fun hab => absurd hab (by rw [hne]; exact Bool.false_ne_true)) (fun _ => ?_)
  rcases hsh with ⟨a, rfl⟩ | ⟨b, t, rfl⟩ | rfl
  all_goals
   refine wpAny_bind (wpAny_mono h (fun v s' hv => ?_) fun _ _ x => x)
   obtain ⟨r, rfl, q⟩ := hv
   exact wpAny_truthy_bool q
end
section
variable {prog : Program} {w : World} {A : Around} {R : Result → Shared → Prop} {xv : Value}
theorem contains_loopG (l : Addr) (N : Nat) (I : Nat → Shared → Prop)
    (hl : ∀ i s, I i s → ∃ (items : Array Value) (n : Nat), s.heap.get? l = some { cls := .type "list", data := .seq items n } ∧ items.size = N ∧ ∀ (h1 : i < items.size), wpAny (model prog w) A.in1 (eqBool items[i] xv) (fun r s' => r = false ∧ I (i + 1) s') (fun e s' => R (.error e) s') s)
    (fin : ∀ s, I N s → R (.ok (.ret (.bool false))) s) (k : Nat) : ∀ i : Nat, N - i = k → i ≤ N → ∀ s, I i s →
      wpAny (model prog w) A.in1 (Builtin.«list.__contains__.loop» ⟨[.ref l, xv, rawInt i], []⟩) (GQ.FinOf prog w A R) (fun e s' => R (.error e) s') s := by
  induction k with
  | zero =>
    intro i hk hi s h
    obtain ⟨items, n, hl1, hs1, _⟩ := hl _ _ h
    have hi' : i = N := by omega
    have hR : R (.ok (.ret (.bool false))) s := fin s (hi' ▸ h)
    obtain ⟨hp, g, d, tk, os⟩ := s
    wp_walk using wpAny_loadPart' hl1
    have hi1 : items[((i : Nat) : Int).toNat]? = none := by simp; omega
    rw [hi1]
    wp_walk
    exact hR
  | succ k ih =>
    intro i hk hi s h
    obtain ⟨items, n, hl1, hs1, turn⟩ := hl _ _ h
    have hlt : i < items.size := by omega
    have ht := turn hlt
    obtain ⟨hp, g, d, tk, os⟩ := s
    wp_walk using wpAny_loadPart' hl1
    have hi1 : items[((i : Nat) : Int).toNat]? = some items[i] := by simp [hlt]
    have hc : ((i : Int) + 1) = ((i + 1 : Nat) : Int) := by omega
    rw [hi1]
    refine wpAny_bind (wpAny_mono ht (fun r s2 h2 => ?_) fun _ _ x => x)
    obtain ⟨hr, h2⟩ := h2
    subst hr
    have hrec := ih (i + 1) (by omega) (by omega) s2 h2
    obtain ⟨hp2, g2, d2, tk2, os2⟩ := s2
    wp_walk
    rw [hc]
    exact ⟨plainId_quiet plain_contains_loop _, codeAny_builtin entry_contains_loop (by
      rw [Around.under_plainId plain_contains_loop _]
      exact hrec)⟩
theorem list_containsG (l : Addr) (N : Nat) (I : Nat → Shared → Prop)
    (hl : ∀ i s, I i s → ∃ (items : Array Value) (n : Nat), s.heap.get? l = some { cls := .type "list", data := .seq items n } ∧ items.size = N ∧ ∀ (h1 : i < items.size), wpAny (model prog w) A.in1 (eqBool items[i] xv) (fun r s' => r = false ∧ I (i + 1) s') (fun e s' => R (.error e) s') s)
    (fin : ∀ s, I N s → R (.ok (.ret (.bool false))) s) {s : Shared} (h : I 0 s) :
    wpAny (model prog w) A.in1 (Builtin.«list.__contains__» ⟨[.ref l, xv], []⟩) (GQ.FinOf prog w A R) (fun e s' => R (.error e) s') s := by
  have hrec := contains_loopG l N I hl fin N 0 (by omega) (by omega) s h
  obtain ⟨items, n, hl1, hs1, _⟩ := hl _ _ h
  obtain ⟨hp, g, d, tk, os⟩ := s
  wp_walk using wpAny_loadPart' hl1
  exact ⟨plainId_quiet plain_contains_loop _, codeAny_builtin entry_contains_loop (by
    rw [Around.under_plainId plain_contains_loop _]
    exact hrec)⟩
end
section
variable {prog : Program} {w : World} {A : Around} {E : Value → Shared → Prop} {s : Shared} {xv : Value}
theorem in_listG (l : Addr) (N : Nat) (I : Nat → Shared → Prop) {Q : Value → Shared → Prop}
    (hl : ∀ i s, I i s → ∃ (items : Array Value) (n : Nat), s.heap.get? l = some { cls := .type "list", data := .seq items n } ∧ items.size = N ∧ ∀ (h1 : i < items.size), wpAny (model prog w) A.in1 (eqBool items[i] xv) (fun r s' => r = false ∧ I (i + 1) s') E s)
    (fin : ∀ s, I N s → Q (.bool false) s) (h : I 0 s) : wpAny (model prog w) A (compareOp .In xv (.ref l)) Q E s := by
  obtain ⟨items, n, hl1, hs1, _⟩ := hl _ _ h
  have hT : s.TypeIs (.ref l) "list" := ⟨_, hl1, rfl⟩
  show wpAny _ A (do return .bool (← contains (.ref l) xv)) Q E s
  refine wpAny_bind (wpAny_contains_slot hT F.slot_list_contains (wpAny_mono (GQ.call_here F.slot_list_contains hT F.entry_list_contains (F.args_list_contains_2 _ _) (list_containsG (R := wants (fun v s' => v = .bool false ∧ Q (.bool false) s') E) l N I hl (fun s' q => ⟨rfl, fin s' q⟩) h)) (fun v s' hv => ?_) fun _ _ e => e))
  obtain ⟨rfl, hq⟩ := hv
  exact wpAny_truthy_bool (wpAny_pure hq)
end
end GM
namespace GD
open PySem PySem.Spec PyProof.Rows L2
/-- what does not know an own instance -/
def declD : D → Bool
  | .non => true
  | .str _ => true
  | .tup _ => true
  | .lst _ => true
  | _ => false
/-- a in ys: the own __eq__ is asked about each of ys, and says no -/
def ownIn (g : Fn) (a : W) : List D → Mem → R W
  | [], m => .ok (.d (.bl false)) m
  | y :: ys, m => if declD y then noX ((g [a, .d y] m).bind fun w m => match w with
    | .d (.bl false) => ownIn g a ys m
    | _ => .bad) else .bad
def oInOwn (tab : List (Str × Fn)) : O2 := fun a b m => match a, b with
  | .d (.obj c ns ds), .d (.lst ys) => (match tab.lookup c with
    | some g => ownIn g (.d (.obj c ns ds)) ys m
    | none => .bad)
  | _, _ => .bad
/-- the class is no class of plain things -/
structure NoBase (K : PySem.W.Frag) (mg : Str → Option Value) (c : Str) : Prop where
  ex : ∃ C, mg c = some (.ref C) ∧ PySem.W.mroIn K C (.type "tuple") = some false ∧ PySem.W.mroIn K C (.type "list") = some false ∧ PySem.W.mroIn K C (.type "str") = some false ∧ PySem.W.mroIn K C (.type "NoneType") = some false
section
variable {X : Cx} {Wx : WX} {kk j : Nat}
theorem eq_decl {pins : List (Addr × Obj)} {σ : L2.St} {Hi H : Hp} {s : Shared} {b C f dx : Addr} {fs : List (Str × V)} {v : V} {u : Value} {y : D} {A : Around} {Q : Bool → Shared → Prop} {E : Value → Shared → Prop} (I : Inv X pins σ H s) (hb : H b = some (.ins C dx fs)) (hA : A.units < cLine) (rv : RelV v u) (ry : Rep X.K X.mg Hi v y) (sub : Same Hi H) (hd : declD y = true)
    (m1 : PySem.W.mroIn X.K C (.type "tuple") = some false) (m2 : PySem.W.mroIn X.K C (.type "list") = some false) (m3 : PySem.W.mroIn X.K C (.type "str") = some false) (m4 : PySem.W.mroIn X.K C (.type "NoneType") = some false)
    (hs : PySem.W.findIn X.K (.ref C) "__eq__" = some (some (.ref f))) (hf : PySem.W.isFn X.K (.ref f) = true)
    (h : wpAny (model X.prog X.w) A (call (.ref f) [.ref b, u]) (fun v s' => ∃ r, v = .bool r ∧ Q r s') E s) : wpAny (model X.prog X.w) A (eqBool u (.ref b)) Q E s := by
  obtain ⟨ox, od, J, hp⟩ := inst_at I hb
  have h' : wpAny (model X.prog X.w) A (call (.ref f) [.ref b, u]) (PySem.W.CmpBack fun v s' => ∃ r, v = .bool r ∧ Q r s') E s := wpAny_mono h (fun v s' z => by
    obtain ⟨r, rfl, q⟩ := z
    exact ⟨r, rfl, q⟩) fun _ _ e => e
  cases y with
  | non =>
    cases ry
    cases rv
    exact GM.eqBool_of (.inr (.inr rfl)) rfl (GM.rc_own_r hA I.kIn J rfl (tu := .type "NoneType") (.of_pure rfl) rfl m4 (fun Q q => GM.none_declines q) hs hf h')
  | str x =>
    cases ry
    obtain ⟨t, rfl⟩ := rv
    exact GM.eqBool_of (.inr (.inl ⟨_, _, rfl⟩)) rfl (GM.rc_own_r hA I.kIn J rfl (tu := .type "str") (.of_pure rfl) rfl m3 (fun Q q => GM.str_declines J hp x t q) hs hf h')
  | tup xs =>
    cases ry with
    | tup h1 h2 =>
      rename_i a vs
      cases rv
      obtain ⟨its, r, e, z⟩ := I.tuple (L2.SqT.ext h1 fun a o e => sub a o e)
      obtain ⟨o, ho, hc, n, hdd⟩ := id e
      have hne : a ≠ b := fun q => by
        have z1 := J.at_
        rw [← q, ho] at z1
        cases z1
        have z2 := J.cls
        rw [hc] at z2
        cases z2
      exact GM.eqBool_of (.inl ⟨_, rfl⟩) (by simp [hne]) (GM.rc_own_r hA I.kIn J rfl (tu := .type "tuple") (hc ▸ (PySem.W.Looks.ld ho).andThen .now) rfl m1 (fun Q q => GM.tup_declines I.kIn J m1 e q) hs hf h')
  | lst xs =>
    cases ry with
    | lst h1 h2 =>
      rename_i a vs
      cases rv
      obtain ⟨z, its, k, r, e⟩ := I.hok a _ (sub _ _ h1)
      have hl : s.heap.IsList a its.toArray := ⟨_, e, rfl, k, rfl⟩
      have hne : a ≠ b := fun q => by
        have z1 := J.at_
        rw [← q, e] at z1
        cases z1
        have z2 := J.cls
        cases z2
      exact GM.eqBool_of (.inl ⟨_, rfl⟩) (by simp [hne]) (GM.rc_own_r hA I.kIn J rfl (tu := .type "list") ((PySem.W.Looks.ld e).andThen .now) rfl m2 (fun Q q => GM.lst_declines I.kIn J m2 hl q) hs hf h')
  | _ => cases hd
theorem op_inOwn {tab : List (Str × Fn)} (c : Cc X Wx kk) (T : AllT (fun c g => OwnOk X.prog X.w X.K X.mg X.base c "__eq__" j g) tab) (T2 : AllT (fun c _ => NoBase X.K X.mg c) tab) (hj : j + 1 ≤ kk) : OpR X (compareOp .In) (rW2 X.K X.mg (oInOwn tab)) := by
  intro pins s σ H x y v u Q I rx ry hq
  obtain ⟨Hi, ι, m, wa, wb, M, ra, rb, g⟩ := hq
  unfold oInOwn at g
  split at g
  case h_2 => exact g.elim
  rename_i cn ns ds ys
  split at g
  case h_2 => exact g.elim
  rename_i gm hl
  obtain ⟨b1, C1, dx1, vs1, e1, hg1, ha1, _, _⟩ := insOf_rep M ra (show insOf (.d (.obj cn ns ds)) m = some (cn, ns, ds) from rfl)
  obtain ⟨C, f, hg, hsf, hfi, hisf, _, F⟩ := (T.get hl).ex
  obtain ⟨C', hg', m1, m2, m3, m4⟩ := (T2.get hl).ex
  have q1 : C = C1 := by
    have z := hg1.symm.trans hg
    cases z
    rfl
  have q2 : C = C' := by
    have z := hg'.symm.trans hg
    cases z
    rfl
  subst q1 q2
  subst e1
  obtain rfl : v = .ref b1 := rx
  have hbi : ∃ dx fs, Hi b1 = some (.ins C dx fs) := by
    have ra2 : Rep X.K X.mg Hi (.ref b1) (.obj cn ns ds) := ra
    cases ra2 with
    | obj g1 g2 g3 g4 g5 =>
      have z := g1.symm.trans hg
      cases z
      exact ⟨_, _, g2⟩
  obtain ⟨dx, fs, hbi⟩ := hbi
  have rb2 : Rep X.K X.mg Hi y (.lst ys) := rb
  cases rb2 with
  | lst h1 h2 =>
  rename_i l vs
  obtain rfl : u = .ref l := ry
  refine GM.in_listG l vs.length (fun i s' => ∃ H' Hi' ι' m', Inv X pins σ H' s' ∧ Mok X.K X.mg Hi' ι' m' H' ∧ Step Hi ι H Hi' ι' H' ∧ Good X.K X.mg (RepW X.K X.mg) (fun _ _ _ _ => False) [] Hi' ι' H' (ownIn gm (.d (.obj cn ns ds)) (ys.drop i) m') Q) (fun i s' q => ?_) (fun s' q => ?_) ⟨H, Hi, ι, m, I, M, Step.refl, g⟩
  · obtain ⟨H', Hi', ι', m', I', M', st, g'⟩ := q
    have hl' : H' l = some (.lst vs) := M'.sub _ _ (st.imm _ _ h1)
    obtain ⟨z, its, k, r, e⟩ := I'.hok l _ hl'
    refine ⟨its.toArray, k, e, by rw [List.size_toArray, ← r.length], fun hi => ?_⟩
    have hi2 : i < its.length := by simpa using hi
    have hi3 : i < vs.length := by rw [r.length]; exact hi2
    have hi4 : i < ys.length := by rw [← h2.length]; exact hi3
    obtain ⟨ui, hu1, ru⟩ := r.get (List.getElem?_eq_getElem hi3)
    have gi : its[i]? = some its.toArray[i] := by
      rw [List.getElem?_eq_getElem hi2] <;> simp
    rw [gi] at hu1
    have eu := Option.some.inj hu1
    rw [eu]
    have ryi : Rep X.K X.mg Hi vs[i] ys[i] := by
      obtain ⟨v0, g0, r0⟩ := h2.get (List.getElem?_eq_getElem hi4)
      rw [List.getElem?_eq_getElem hi3] at g0
      cases g0
      exact r0
    rw [List.drop_eq_getElem_cons hi4] at g'
    unfold ownIn at g'
    split at g'
    case isFalse => exact g'.elim
    rename_i hd
    have g2 := good_unX (τ := []) g'
    have hb' : H' b1 = some (.ins C dx fs) := M'.sub _ _ (st.imm _ _ hbi)
    refine eq_decl I' hb' (c.room.mono hj).in1.units0 ru (ryi.mono st.imm) M'.sub hd m1 m2 m3 m4 hfi hisf ?_
    refine wpAny_mono (run_noX F (c.room.mono hj).in1 I'.env0.in1 I' (us := [.ref b1, ui]) (vs := [.ref b1, vs[i]]) (Q := fun y H2 => ∃ Hi2 ι2 m2 w2, Step Hi' ι' H' Hi2 ι2 H2 ∧ Mok X.K X.mg Hi2 ι2 m2 H2 ∧ RepW X.K X.mg Hi2 ι2 y w2 ∧ Good X.K X.mg (RepW X.K X.mg) (fun _ _ _ _ => False) [] Hi2 ι2 H2 (match w2 with
      | .d (.bl false) => ownIn gm (.d (.obj cn ns ds)) (ys.drop (i + 1)) m2
      | _ => .bad) Q) (.cons rfl (.cons ru .nil)) ⟨Hi', ι', [.d (.obj cn ns ds), .d ys[i]], m', M', .cons ((show RepW X.K X.mg Hi ι (.ref b1) (.d (.obj cn ns ds)) from ra).step st) (.cons (show RepW X.K X.mg Hi' ι' vs[i] (.d ys[i]) from ryi.mono st.imm) .nil), good_bind g2 fun y m3 Hi3 ι3 v3 H3 st3 M3 rv3 g3 => ⟨Hi3, ι3, m3, y, st3, M3, rv3, g3⟩⟩) (fun y s2 z2 => ?_) fun _ _ z => z
    obtain ⟨v2, H2, I2, rv2, Hi2, ι2, m2', w2, st2, M2, rw2, gg⟩ := z2
    split at gg
    case h_2 => exact gg.elim
    cases rw2
    obtain rfl := rv2
    exact ⟨false, rfl, rfl, H2, Hi2, ι2, m2', I2, M2, st.trans st2, gg⟩
  · obtain ⟨H', Hi', ι', m', I', M', st, g'⟩ := q
    have e : ys.drop vs.length = [] := by rw [h2.length]; exact List.drop_length
    rw [e] at g'
    exact ⟨.bl false, H', I', rfl, g'.here (rep := RepW X.K X.mg) M' (.bl _)⟩
def oInOwnX (tab : List (Str × Fn)) : O2 := fun x y m => noX (oInOwn tab x y m)
theorem op_inOwnX {tab : List (Str × Fn)} (c : Cc X Wx kk) (T : AllT (fun c g => OwnOk X.prog X.w X.K X.mg X.base c "__eq__" j g) tab) (T2 : AllT (fun c _ => NoBase X.K X.mg c) tab) (hj : j + 1 ≤ kk) : OpR X (compareOp .In) (rW2 X.K X.mg (oInOwnX tab)) := by
  intro pins s σ H x y v u Q I rx ry hq
  obtain ⟨Hi, ι, m, wa, wb, M, ra, rb, g⟩ := hq
  exact op_inOwn c T T2 hj pins s σ H x y v u Q I rx ry ⟨Hi, ι, m, wa, wb, M, ra, rb, good_unX g⟩
end
end GD
/-! GDS: how mirrors are reckoned. -/
namespace GD
open PySem PySem.Spec PyProof.Rows L2
section
variable {i j : Int} {x y : Str} {a b : Bool} {xs ys : List D} {k : Nat} {m : Mem} {ρ : Env} {d e : D}
@[simp] theorem oAdd_ii : oAdd (.d (.int i)) (.d (.int j)) m = .ok (.d (.int (i + j))) m := Eq.trans rfl rfl
@[simp] theorem oAdd_tt : oAdd (.d (.tup xs)) (.d (.tup ys)) m = if xs.length + ys.length ≤ 100000 then .ok (.d (.tup (xs ++ ys))) m else .bad := Eq.trans rfl rfl
@[simp] theorem oAdd_ss : oAdd (.d (.str x)) (.d (.str y)) m = if x.length + y.length ≤ 100000 then .ok (.d (.str (x ++ y))) m else .bad := Eq.trans rfl rfl
@[simp] theorem oAdd_ll : oAdd (.d (.lst xs)) (.d (.lst ys)) m = if xs.length + ys.length ≤ 100000 then .ok (.d (.lst (xs ++ ys))) m else .bad := Eq.trans rfl rfl
@[simp] theorem oSub_ii : oSub (.d (.int i)) (.d (.int j)) m = .ok (.d (.int (i - j))) m := Eq.trans rfl rfl
@[simp] theorem oMul_ii : oMul (.d (.int i)) (.d (.int j)) m = if small i && small j then .ok (.d (.int (i * j))) m else .bad := Eq.trans rfl rfl
@[simp] theorem oDiv_ii : oDiv (.d (.int i)) (.d (.int j)) m = if decide (0 < j) && small j then .ok (.d (.int (i / j))) m else .bad := Eq.trans rfl rfl
@[simp] theorem oMod_ii : oMod (.d (.int i)) (.d (.int j)) m = if 0 < j then .ok (.d (.int (i % j))) m else .bad := Eq.trans rfl rfl
theorem oPow_ii : oPow (.d (.int i)) (.d (.int j)) m = if (decide (0 ≤ j) && decide (j ≤ 1000)) && small i then .ok (.d (.int (i ^ j.toNat))) m else .bad := rfl
@[simp] theorem oNeg_i : oNeg (.d (.int i)) m = .ok (.d (.int (-i))) m := Eq.trans rfl rfl
@[simp] theorem oLt_ii : oLt (.d (.int i)) (.d (.int j)) m = .ok (.d (.bl (decide (i < j)))) m := Eq.trans rfl rfl
@[simp] theorem oLe_ii : oLe (.d (.int i)) (.d (.int j)) m = .ok (.d (.bl (decide (i ≤ j)))) m := Eq.trans rfl rfl
@[simp] theorem oGt_ii : oGt (.d (.int i)) (.d (.int j)) m = .ok (.d (.bl (decide (j < i)))) m := Eq.trans rfl rfl
@[simp] theorem oGe_ii : oGe (.d (.int i)) (.d (.int j)) m = .ok (.d (.bl (decide (j ≤ i)))) m := Eq.trans rfl rfl
@[simp] theorem oEq_ii : oEq (.d (.int i)) (.d (.int j)) m = .ok (.d (.bl (decide (i = j)))) m := Eq.trans rfl rfl
@[simp] theorem oEq_ss : oEq (.d (.str x)) (.d (.str y)) m = .ok (.d (.bl (decide (x = y)))) m := Eq.trans rfl rfl
@[simp] theorem oEq_bb : oEq (.d (.bl a)) (.d (.bl b)) m = .ok (.d (.bl (decide (a = b)))) m := Eq.trans rfl rfl
@[simp] theorem oNe_ii : oNe (.d (.int i)) (.d (.int j)) m = .ok (.d (.bl (!decide (i = j)))) m := Eq.trans rfl rfl
@[simp] theorem oNe_ss : oNe (.d (.str x)) (.d (.str y)) m = .ok (.d (.bl (!decide (x = y)))) m := Eq.trans rfl rfl
@[simp] theorem oNe_bb : oNe (.d (.bl a)) (.d (.bl b)) m = .ok (.d (.bl (!decide (a = b)))) m := Eq.trans rfl rfl
@[simp] theorem oIs_nn : oIs (.d .non) (.d .non) m = .ok (.d (.bl true)) m := Eq.trans rfl rfl
@[simp] theorem oIs_in : oIs (.d (.int i)) (.d .non) m = .ok (.d (.bl false)) m := Eq.trans rfl rfl
@[simp] theorem oIs_sn : oIs (.d (.str x)) (.d .non) m = .ok (.d (.bl false)) m := Eq.trans rfl rfl
@[simp] theorem oIs_bn : oIs (.d (.bl a)) (.d .non) m = .ok (.d (.bl false)) m := Eq.trans rfl rfl
@[simp] theorem oIs_tn : oIs (.d (.tup xs)) (.d .non) m = .ok (.d (.bl false)) m := Eq.trans rfl rfl
@[simp] theorem oIs_ln : oIs (.d (.lst xs)) (.d .non) m = .ok (.d (.bl false)) m := Eq.trans rfl rfl
@[simp] theorem oIs_bb : oIs (.d (.bl a)) (.d (.bl b)) m = .ok (.d (.bl (decide (a = b)))) m := Eq.trans rfl rfl
/-- the item at a place -/
def itm (xs : List D) (i : Int) (m : Mem) : R W := match atI xs i with
  | some x => .ok (.d x) m
  | none => .bad
@[simp] theorem oIx_t : oIx (.d (.tup xs)) (.d (.int i)) m = itm xs i m := Eq.trans rfl rfl
@[simp] theorem oIx_l : oIx (.d (.lst xs)) (.d (.int i)) m = itm xs i m := Eq.trans rfl rfl
@[simp] theorem oIx_m : oIx (.m k) (.d (.int i)) m = match m[k]? with
    | some (.lst xs) => itm xs i m
    | _ => .bad := by
  have e : oIx (.m k) (.d (.int i)) m = match lstOf (.m k) m with
    | some xs => itm xs i m
    | none => .bad := Eq.trans rfl rfl
  rw [e]
  cases h : m[k]? with
  | none => simp [lstOf, h]
  | some mo => cases mo <;> simp [lstOf, h]
theorem atI_nat {α : Type} (xs : List α) (n : Nat) : atI xs (n : Int) = xs[n]? := by
  unfold atI ixN
  by_cases h : n < xs.length
  · rw [if_pos (by omega), if_pos (by omega)]
    simp
  · rw [if_pos (by omega), if_neg (by omega)]
    simp; omega
@[simp] theorem itm_nat {n : Nat} : itm xs (n : Int) m = match xs[n]? with
    | some x => .ok (.d x) m
    | none => .bad := by unfold itm; rw [atI_nat]
@[simp] theorem itm_0 : itm (d :: xs) 0 m = .ok (.d d) m := itm_nat (n := 0)
@[simp] theorem itm_1 {d0 : D} : itm (d0 :: d :: xs) 1 m = .ok (.d d) m := itm_nat (n := 1)
@[simp] theorem itm_2 {d0 d1 : D} : itm (d0 :: d1 :: d :: xs) 2 m = .ok (.d d) m := itm_nat (n := 2)
@[simp] theorem itm_3 {d0 d1 d2 : D} : itm (d0 :: d1 :: d2 :: d :: xs) 3 m = .ok (.d d) m := itm_nat (n := 3)
@[simp] theorem oLen_t : oLen [.d (.tup xs)] m = .ok (.d (.int xs.length)) m := Eq.trans rfl rfl
@[simp] theorem oLen_l : oLen [.d (.lst xs)] m = .ok (.d (.int xs.length)) m := Eq.trans rfl rfl
@[simp] theorem oLen_s : oLen [.d (.str x)] m = if x.length ≤ 100000 then .ok (.d (.int x.length)) m else .bad := Eq.trans rfl rfl
@[simp] theorem oInt_i : oInt [.d (.int i)] m = .ok (.d (.int i)) m := Eq.trans rfl rfl
@[simp] theorem oAbs_i : oAbs [.d (.int i)] m = .ok (.d (.int (if i < 0 then -i else i))) m := Eq.trans rfl rfl
@[simp] theorem oMax_ii : oMax [.d (.int i), .d (.int j)] m = .ok (.d (.int (if j > i then j else i))) m := Eq.trans rfl rfl
@[simp] theorem oMin_ii : oMin [.d (.int i), .d (.int j)] m = .ok (.d (.int (if j < i then j else i))) m := Eq.trans rfl rfl
end
/-! ### the rules of reckoning -/
section
variable {ρ ρ1 ρ2 : Env} {m m1 m2 m3 : Mem} {w w1 w2 : W} {ws ws1 : List W} {a b : Ev} {la lb : EvL} {t u : EvT} {r : R W} {rb : R Bool} {q : RS} {p s : Ex} {x y : Bool}
theorem ev_var {n : Nat} (h : ρ[n]? = some (some w)) : fVar n ρ m = .ok w m := by unfold fVar; rw [h]
theorem ev_c {d : D} : fC d ρ m = .ok (.d d) m := rfl
theorem ev_nil : fNil ρ m = .ok [] m := rfl
theorem ev_cons (h1 : a ρ m = .ok w m1) (h2 : la ρ m1 = .ok ws m2) : fCons a la ρ m = .ok (w :: ws) m2 := by unfold fCons; rw [h1, R.bind_ok, h2]; rfl
theorem ev_op {o : O2} (h1 : a ρ m = .ok w1 m1) (h2 : b ρ m1 = .ok w2 m2) (h3 : o w1 w2 m2 = r) : fOp o a b ρ m = r := by unfold fOp; rw [h1, R.bind_ok, h2]; exact h3
theorem ev_un {o : O1} (h1 : a ρ m = .ok w1 m1) (h3 : o w1 m1 = r) : fUn o a ρ m = r := by unfold fUn; rw [h1]; exact h3
theorem ev_tup {xs : List D} (h1 : la ρ m = .ok ws m1) (h2 : dats ws = some xs) (h3 : xs.length ≤ 100000 := by decide) : fTup la ρ m = .ok (.d (.tup xs)) m1 := by unfold fTup; rw [h1, R.bind_ok, h2]; exact if_pos h3
theorem ev_lst {xs : List D} (h1 : la ρ m = .ok ws m1) (h2 : dats ws = some xs) (h3 : xs.length ≤ 100000 := by decide) : fLst la ρ m = .ok (.d (.lst xs)) m1 := by unfold fLst; rw [h1, R.bind_ok, h2]; exact if_pos h3
theorem ev_lstM {xs : List D} (h1 : la ρ m = .ok ws m1) (h2 : dats ws = some xs) (h3 : xs.length ≤ 100000 := by decide) : fLstM la ρ m = .ok (.m m1.length) (m1 ++ [.lst xs]) := by unfold fLstM; rw [h1, R.bind_ok, h2]; exact if_pos h3
theorem ev_cb {o : ON} (h1 : la ρ m = .ok ws m1) (h2 : o ws m1 = r) : fCB o la ρ m = r := by unfold fCB; rw [h1]; exact h2
theorem ev_call {f : Fn} (h1 : la ρ m = .ok ws m1) (h2 : f ws m1 = r) : fCall f la ρ m = r := by unfold fCall; rw [h1]; exact h2
theorem ev_callK {f : Fn} {g : List W → List W → List W} (h1 : la ρ m = .ok ws m1) (h0 : lb ρ m1 = .ok ws1 m2) (h2 : f (g ws ws1) m2 = r) : fCallK f g la lb ρ m = r := by unfold fCallK; rw [h1, R.bind_ok, h0]; exact h2
theorem ev_ifT (h1 : t ρ m = .ok true m1) (h2 : a ρ m1 = r) : fIf t a b ρ m = r := by unfold fIf; rw [h1]; exact h2
theorem ev_ifF (h1 : t ρ m = .ok false m1) (h2 : b ρ m1 = r) : fIf t a b ρ m = r := by unfold fIf; rw [h1]; exact h2
theorem ev_andT (h1 : a ρ m = .ok (.d (.bl true)) m1) (h2 : b ρ m1 = r) : fAnd a b ρ m = r := by unfold fAnd; rw [h1]; exact h2
/-- tests -/
theorem et_bool (h1 : a ρ m = .ok (.d (.bl x)) m1) : gBool a ρ m = .ok x m1 := by unfold gBool; rw [h1]; rfl
theorem et_test (h1 : a ρ m = .ok w m1) (h2 : truth w m1 = some x) : gTest a ρ m = .ok x m1 := by unfold gTest; rw [h1, R.bind_ok, h2]
theorem et_andT (h1 : t ρ m = .ok true m1) (h2 : u ρ m1 = rb) : gAnd t u ρ m = rb := by unfold gAnd; rw [h1, R.bind_ok]; exact h2
theorem et_andF (h1 : t ρ m = .ok false m1) : gAnd t u ρ m = .ok false m1 := by unfold gAnd; rw [h1, R.bind_ok]; rfl
theorem et_orT (h1 : t ρ m = .ok true m1) : gOr t u ρ m = .ok true m1 := by unfold gOr; rw [h1, R.bind_ok]; rfl
theorem et_orF (h1 : t ρ m = .ok false m1) (h2 : u ρ m1 = rb) : gOr t u ρ m = rb := by unfold gOr; rw [h1, R.bind_ok]; exact h2
theorem et_not (h1 : t ρ m = .ok x m1) : gNot t ρ m = .ok (!x) m1 := by unfold gNot; rw [h1]; rfl
/-- statements -/
theorem es_seq (h1 : p ρ m = .nx ρ1 m1) (h2 : s ρ1 m1 = q) : sSeq p s ρ m = q := by unfold sSeq; rw [h1]; exact h2
theorem es_seqR (h1 : p ρ m = .rt w m1) : sSeq p s ρ m = .rt w m1 := by unfold sSeq; rw [h1]
theorem es_ifT (h1 : t ρ m = .ok true m1) (h2 : p ρ m1 = q) : sIf t p s ρ m = q := by unfold sIf; rw [h1]; exact h2
theorem es_ifF (h1 : t ρ m = .ok false m1) (h2 : s ρ m1 = q) : sIf t p s ρ m = q := by unfold sIf; rw [h1]; exact h2
theorem es_frz {i k : Nat} {xs : List D} (h : p ρ m = .nx ρ1 m1) (h1 : ρ1[i]? = some (some (.m k))) (h2 : m1[k]? = some (.lst xs)) : sFrz i p ρ m = .nx (ρ1.set i (some (.d (.lst xs)))) (m1.set k .dead) := by
  unfold sFrz; rw [h]; dsimp only; rw [h1]; dsimp only; rw [h2]
theorem es_next : sNext ρ m = .nx ρ m := rfl
theorem es_drop (h1 : a ρ m = .ok w m1) : sDrop a ρ m = .nx ρ m1 := by unfold sDrop; rw [h1]; rfl
theorem es_ret (h1 : a ρ m = .ok w m1) : sRet a ρ m = .rt w m1 := by unfold sRet; rw [h1]; rfl
theorem es_set {n : Nat} (h1 : a ρ m = .ok w m1) : sAsg a (tgName n) ρ m = .nx (ρ.set n (some w)) m1 := by unfold sAsg; rw [h1]; rfl
theorem es_asg {g : Tg} (h1 : a ρ m = .ok w m1) (h2 : g w ρ m1 = .ok ρ2 m2) : sAsg a g ρ m = .nx ρ2 m2 := by unfold sAsg; rw [h1, R.lift_ok, h2]; rfl
theorem es_par {i j : Nat} (h1 : la ρ m = .ok [w1, w2] m1) : sPar i j la ρ m = .nx ((ρ.set i (some w1)).set j (some w2)) m1 := by unfold sPar; rw [h1]; rfl
theorem es_for {g : Tg} {it : EvL} (h1 : it ρ m = .ok ws m1) (h2 : loop g p ws ρ m1 = q) : sFor it g p ρ m = q := by unfold sFor; rw [h1]; exact h2
theorem loop_nil {g : Tg} : loop g p [] ρ m = .nx ρ m := rfl
theorem loop_cons {g : Tg} (h1 : g w ρ m = .ok ρ1 m1) (h2 : p ρ1 m1 = .nx ρ2 m2) (h3 : loop g p ws ρ2 m2 = q) : loop g p (w :: ws) ρ m = q := by unfold loop; rw [h1]; simp only [noX, R.lift_ok]; rw [h2]; exact h3
theorem fn_ret {mu : Bool} {np N : Nat} (hl : ws.length = np) (h : p (ws.map some ++ List.replicate (N - ws.length) none) m = .rt w m1) : fnOf mu np N p ws m = leave mu m.length w m1 := by unfold fnOf; rw [if_pos hl, h]
theorem leave_d {mu : Bool} {n : Nat} {x : D} : leave mu n (.d x) m = .ok (.d x) (m.take n) := rfl
theorem lc_eq {it : EvL} {g : Tg} {vs : List Nat} {xs : List D} (h1 : it ρ m = .ok ws m1) (h2 : lcs g t a (wipeE ρ vs) ws [] m1 = .ok xs m2) : fLc it g t a vs ρ m = .ok (.d (.lst xs)) m2 := by unfold fLc; rw [h1, R.bind_ok, h2]; rfl
theorem lcs_take {g : Tg} {acc : List D} {d : D} {rr : R (List D)} (h1 : g w ρ m = .ok ρ1 m1) (h2 : t ρ1 m1 = .ok true m2) (h3 : a ρ1 m2 = .ok (.d d) m3) (hl : acc.length < 100000) (h4 : lcs g t a ρ ws (acc ++ [d]) m3 = rr) : lcs g t a ρ (w :: ws) acc m = rr := by
  unfold lcs; rw [h1, R.bind_ok, h2, R.bind_ok, if_pos rfl, h3, R.bind_ok]; dsimp only; rw [if_pos hl]; exact h4
theorem lcs_skip {g : Tg} {acc : List D} {rr : R (List D)} (h1 : g w ρ m = .ok ρ1 m1) (h2 : t ρ1 m1 = .ok false m2) (h4 : lcs g t a ρ ws acc m2 = rr) : lcs g t a ρ (w :: ws) acc m = rr := by
  unfold lcs; rw [h1, R.bind_ok, h2, R.bind_ok, if_neg (by decide)]; exact h4
/-- a comprehension that changes nothing: map and filter -/
theorem lcs_pure {g : Tg} (P : W → Bool) (f : W → D) (hg : ∀ w ∈ ws, ∃ ρ1, g w ρ m = .ok ρ1 m ∧ t ρ1 m = .ok (P w) m ∧ (P w = true → a ρ1 m = .ok (.d (f w)) m)) : ∀ (acc : List D), acc.length + ws.length ≤ 100000 → lcs g t a ρ ws acc m = .ok (acc ++ (ws.filter P).map f) m := by
  induction ws with
  | nil => intro acc _; simp [lcs]
  | cons w ws ih =>
    intro acc hl
    obtain ⟨ρ1, h1, h2, h3⟩ := hg w List.mem_cons_self
    have ih' := ih fun w' hw => hg w' (List.mem_cons_of_mem _ hw)
    rw [List.length_cons] at hl
    cases hp : P w with
    | true =>
      rw [hp] at h2
      rw [lcs_take h1 h2 (h3 hp) (by omega) (ih' _ (by simp; omega)), List.filter_cons_of_pos hp]
      simp
    | false =>
      rw [hp] at h2
      rw [lcs_skip h1 h2 (ih' _ (by omega)), List.filter_cons_of_neg (by simp [hp])]
end
/-! numbers that are not too great -/
theorem small_of {i : Int} (h : i.natAbs < 10 ^ 200) : small i = true := by
  unfold small BIG
  exact decide_eq_true (Nat.lt_trans h (by decide +kernel))
section
variable {i j : Int} {m : Mem}
theorem mul_ok (h1 : small i = true) (h2 : small j = true) : oMul (.d (.int i)) (.d (.int j)) m = .ok (.d (.int (i * j))) m := by rw [oMul_ii, h1, h2]; rfl
theorem div_ok (h1 : 0 < j) (h2 : small j = true) : oDiv (.d (.int i)) (.d (.int j)) m = .ok (.d (.int (i / j))) m := by rw [oDiv_ii, decide_eq_true h1, h2]; rfl
theorem mod_ok (h1 : 0 < j) : oMod (.d (.int i)) (.d (.int j)) m = .ok (.d (.int (i % j))) m := by rw [oMod_ii, if_pos h1]
theorem powW_ok (h1 : 0 ≤ j) (h2 : j ≤ 1000) (h3 : small i = true) : oPow (.d (.int i)) (.d (.int j)) m = .ok (.d (.int (i ^ j.toNat))) m := by
  rw [oPow_ii, if_pos]
  rw [Bool.and_eq_true, Bool.and_eq_true]
  exact ⟨⟨decide_eq_true h1, decide_eq_true h2⟩, h3⟩
theorem pow_ok (h1 : 0 ≤ j ∧ j ≤ 1000 ∧ i.natAbs < 1000) : oPow (.d (.int i)) (.d (.int j)) m = .ok (.d (.int (i ^ j.toNat))) m := powW_ok h1.1 h1.2.1 (small_of (Nat.lt_of_lt_of_le h1.2.2 (by decide)))
theorem ixm_ok {k : Nat} {xs : List D} {x : D} (h1 : m[k]? = some (.lst xs)) (h2 : atI xs i = some x) : oIx (.m k) (.d (.int i)) m = .ok (.d x) m := by rw [oIx_m, h1]; dsimp only; unfold itm; rw [h2]
theorem ixt_ok {xs : List D} {x : D} (h2 : atI xs i = some x) : oIx (.d (.tup xs)) (.d (.int i)) m = .ok (.d x) m := by rw [oIx_t]; unfold itm; rw [h2]
theorem ixl_ok {xs : List D} {x : D} (h2 : atI xs i = some x) : oIx (.d (.lst xs)) (.d (.int i)) m = .ok (.d x) m := by rw [oIx_l]; unfold itm; rw [h2]
theorem tgSub_ok {fo fi : Ev} {ρ : Env} {m1 m2 : Mem} {k n : Nat} {xs : List D} {x : D} (h1 : fo ρ m = .ok (.m k) m1) (h2 : fi ρ m1 = .ok (.d (.int i)) m2) (h3 : m2[k]? = some (.lst xs)) (h4 : ixN xs.length i = some n) : tgSub fo fi (.d x) ρ m = .ok ρ (m2.set k (.lst (xs.set n x))) := by
  unfold tgSub; rw [h1, R.bind_ok, h2, R.bind_ok]; dsimp only; rw [h3]; dsimp only; rw [h4]
end
end GD
/-! GS: rules by which simp reckons mirrors. -/
namespace GD
open PySem PySem.Spec PyProof.Rows L2
section
variable {i j k n np N : Nat} {ρ : Env} {m : Mem} {a b o : Ev} {la lb : EvL} {t u : EvT} {d : D} {w x y : W} {ws : List W} {g : Tg} {gl : TgL} {p q s : Ex} {mu : Bool} {f : Fn}
@[simp] theorem e_var : fVar i ρ m = match ρ[i]? with
  | some (some w) => .ok w m
  | _ => .bad := Eq.trans rfl rfl
@[simp] theorem e_c : fC d ρ m = .ok (.d d) m := Eq.trans rfl rfl
@[simp] theorem e_nil : fNil ρ m = .ok [] m := Eq.trans rfl rfl
@[simp] theorem e_cons : fCons a la ρ m = (a ρ m).bind fun x m => (la ρ m).bind fun xs m => .ok (x :: xs) m := Eq.trans rfl rfl
@[simp] theorem e_tup : fTup la ρ m = (la ρ m).bind fun ws m => match dats ws with
  | some xs => if xs.length ≤ 100000 then .ok (.d (.tup xs)) m else .bad
  | none => .bad := Eq.trans rfl rfl
@[simp] theorem e_lst : fLst la ρ m = (la ρ m).bind fun ws m => match dats ws with
  | some xs => if xs.length ≤ 100000 then .ok (.d (.lst xs)) m else .bad
  | none => .bad := Eq.trans rfl rfl
@[simp] theorem e_lstM : fLstM la ρ m = (la ρ m).bind fun ws m => match dats ws with
  | some xs => if xs.length ≤ 100000 then .ok (.m m.length) (m ++ [.lst xs]) else .bad
  | none => .bad := Eq.trans rfl rfl
@[simp] theorem e_op {oo : O2} : fOp oo a b ρ m = (a ρ m).bind fun x m => (b ρ m).bind fun y m => oo x y m := Eq.trans rfl rfl
@[simp] theorem e_un {oo : O1} : fUn oo a ρ m = (a ρ m).bind fun x m => oo x m := Eq.trans rfl rfl
@[simp] theorem e_cb {oo : ON} : fCB oo la ρ m = (la ρ m).bind fun ws m => oo ws m := Eq.trans rfl rfl
@[simp] theorem e_call : fCall f la ρ m = (la ρ m).bind fun ws m => f ws m := Eq.trans rfl rfl
@[simp] theorem e_callK {g : List W → List W → List W} : fCallK f g la lb ρ m = (la ρ m).bind fun ws m => (lb ρ m).bind fun zs m => f (g ws zs) m := Eq.trans rfl rfl
@[simp] theorem e_if : fIf t a b ρ m = (t ρ m).bind fun x m => if x then a ρ m else b ρ m := Eq.trans rfl rfl
@[simp] theorem e_and : fAnd a b ρ m = (a ρ m).bind fun x m => match x with
  | .d (.bl true) => b ρ m
  | .d (.bl false) => .ok (.d (.bl false)) m
  | _ => .bad := Eq.trans rfl rfl
@[simp] theorem e_or : fOr a b ρ m = (a ρ m).bind fun x m => match x with
  | .d (.bl true) => .ok (.d (.bl true)) m
  | .d (.bl false) => b ρ m
  | _ => .bad := Eq.trans rfl rfl
@[simp] theorem e_not : fNot a ρ m = (a ρ m).bind fun x m => match x with
  | .d (.bl b) => .ok (.d (.bl (!b))) m
  | _ => .bad := Eq.trans rfl rfl
@[simp] theorem e_test : gTest a ρ m = (a ρ m).bind fun x m => match truth x m with
  | some b => .ok b m
  | none => .bad := Eq.trans rfl rfl
@[simp] theorem e_bool : gBool a ρ m = (a ρ m).bind fun x m => match x with
  | .d (.bl b) => .ok b m
  | _ => .bad := Eq.trans rfl rfl
@[simp] theorem e_gand : gAnd t u ρ m = (t ρ m).bind fun x m => if x then u ρ m else .ok false m := Eq.trans rfl rfl
@[simp] theorem e_gor : gOr t u ρ m = (t ρ m).bind fun x m => if x then .ok true m else u ρ m := Eq.trans rfl rfl
@[simp] theorem e_gnot : gNot t ρ m = (t ρ m).bind fun x m => .ok (!x) m := Eq.trans rfl rfl
@[simp] theorem e_yes : gYes ρ m = .ok true m := Eq.trans rfl rfl
def RS.seq (r : RS) (b : Ex) : RS := match r with
  | .nx ρ m => b ρ m
  | r => r
@[simp] theorem e_seq : sSeq p q ρ m = (p ρ m).seq q := Eq.trans rfl rfl
@[simp] theorem seq_nx : (RS.nx ρ m).seq q = q ρ m := Eq.trans rfl rfl
@[simp] theorem seq_rt : (RS.rt w m).seq q = .rt w m := Eq.trans rfl rfl
@[simp] theorem seq_xc {c ns vs} : (RS.xc c ns vs ρ m).seq q = .xc c ns vs ρ m := Eq.trans rfl rfl
@[simp] theorem seq_bad : RS.bad.seq q = .bad := Eq.trans rfl rfl
@[simp] theorem seq_ite {c : Prop} [Decidable c] {r r' : RS} : (if c then r else r').seq q = if c then r.seq q else r'.seq q := by split <;> rfl
@[simp] theorem bind_ite {α β : Type} {c : Prop} [Decidable c] {r r' : R α} {k : α → Mem → R β} : (if c then r else r').bind k = if c then r.bind k else r'.bind k := by split <;> rfl
@[simp] theorem lift_ite {α : Type} {c : Prop} [Decidable c] {r r' : R α} {k : α → Mem → RS} : (if c then r else r').lift ρ k = if c then r.lift ρ k else r'.lift ρ k := by split <;> rfl
@[simp] theorem e_sif : sIf t p q ρ m = (t ρ m).lift ρ fun x m => if x then p ρ m else q ρ m := Eq.trans rfl rfl
@[simp] theorem e_drop : sDrop a ρ m = (a ρ m).lift ρ fun _ m => .nx ρ m := Eq.trans rfl rfl
@[simp] theorem e_ret : sRet a ρ m = (a ρ m).lift ρ fun w m => .rt w m := Eq.trans rfl rfl
@[simp] theorem e_next : sNext ρ m = .nx ρ m := Eq.trans rfl rfl
@[simp] theorem e_asg : sAsg a g ρ m = (a ρ m).lift ρ fun w m => (noX (g w ρ m)).lift ρ fun ρ m => .nx ρ m := Eq.trans rfl rfl
@[simp] theorem e_par : sPar i j la ρ m = (la ρ m).lift ρ fun ws m => match ws with
  | [x, y] => .nx ((ρ.set i (some x)).set j (some y)) m
  | _ => .bad := Eq.trans rfl rfl
@[simp] theorem e_aug {oo : O2} : sAug i oo a ρ m = match ρ[i]? with
  | some (some w) => (a ρ m).lift ρ fun y m => (noX (oo w y m)).lift ρ fun z m => .nx (ρ.set i (some z)) m
  | _ => .bad := Eq.trans rfl rfl
@[simp] theorem e_for {it : EvL} : sFor it g p ρ m = (it ρ m).lift ρ fun ws m => loop g p ws ρ m := Eq.trans rfl rfl
@[simp] theorem e_while {fu : Env → Mem → Nat} : sWhile fu t p ρ m = whl t p (fu ρ m) ρ m := Eq.trans rfl rfl
@[simp] theorem e_tgn : tgName i w ρ m = .ok (ρ.set i (some w)) m := Eq.trans rfl rfl
@[simp] theorem e_tgnil : tgNil [] ρ m = .ok ρ m := Eq.trans rfl rfl
@[simp] theorem e_tgcons : tgCons g gl (w :: ws) ρ m = (g w ρ m).bind fun ρ m => gl ws ρ m := Eq.trans rfl rfl
@[simp] theorem e_tgtup {xs : List D} : tgTup n gl (.d (.tup xs)) ρ m = if xs.length = n then gl (xs.map .d) ρ m else .bad := Eq.trans rfl rfl
@[simp] theorem noX_ok {α : Type} {x : α} : noX (R.ok x m) = .ok x m := Eq.trans rfl rfl
@[simp] theorem noX_bad {α : Type} : noX (R.bad : R α) = .bad := Eq.trans rfl rfl
theorem e_fn : fnOf mu np N p ws m = if ws.length = np then (match p (ws.map some ++ List.replicate (N - ws.length) none) m with
  | .nx _ m' => leave mu m.length (.d .non) m'
  | .rt w m' => leave mu m.length w m'
  | .xc c ns vs _ m' => .exc c ns vs (m'.take m.length)
  | _ => .bad) else .bad := rfl
theorem e_fnr (p : Ex) (h : p (ws.map some ++ List.replicate (N - ws.length) none) m = .rt (.d d) m) (hl : ws.length = np) : fnOf mu np N p ws m = .ok (.d d) m := by
  rw [e_fn, if_pos hl, h]
  show R.ok (W.d d) (m.take m.length) = _
  rw [List.take_length]
@[simp] theorem dats_nil : dats [] = some [] := Eq.trans rfl rfl
@[simp] theorem dats_cons : dats (.d d :: ws) = (dats ws).map (d :: ·) := Eq.trans rfl rfl
@[simp] theorem e_iseq : iSeq a ρ m = (a ρ m).bind fun w m => match w with
  | .d (.lst xs) => .ok (xs.map .d) m
  | .d (.fls xs) => .ok (xs.map .d) m
  | .d (.tup xs) => .ok (xs.map .d) m
  | _ => .bad := Eq.trans rfl rfl
@[simp] theorem e_tgun {xs : List D} : tgUn n gl (.d (.tup xs)) ρ m = if xs.length = n then gl (xs.map .d) ρ m else .bad := Eq.trans rfl rfl
@[simp] theorem e_tgunl {xs : List D} : tgUn n gl (.d (.lst xs)) ρ m = if xs.length = n then gl (xs.map .d) ρ m else .bad := Eq.trans rfl rfl
@[simp] theorem oIsNot_bb {a b : Bool} : oIsNot (.d (.bl a)) (.d (.bl b)) m = .ok (.d (.bl (!decide (a = b)))) m := Eq.trans rfl rfl
@[simp] theorem oIsNot_nn : oIsNot (.d .non) (.d .non) m = .ok (.d (.bl false)) m := Eq.trans rfl rfl
@[simp] theorem e_meth {tab : List (Str × Fn)} {nm : Str} : fMeth tab nm o la ρ m = (o ρ m).bind fun w m => match insOf w m with
  | some (c, ns, _) => (match tab.lookup c with
    | some g => if nm ∈ ns then .bad else (la ρ m).bind fun ws m => g (w :: ws) m
    | none => .bad)
  | none => .bad := Eq.trans rfl rfl
end
end GD
namespace GD
open PySem PySem.Spec PyProof.Rows L2
def b__law_bag : Ex :=
    (sSeq (sAsg (fC (.int 3817)) (tgName 1))
    (sSeq (sFor (iSeq (fSl false (fVar 0) pNone (pSome (fC (.int 63))))) (tgName 2)
    (sAsg (fOp oMod (fCB oInt (fCons (fOp oAdd (fOp oAdd (fOp oMul (fVar 1) (fC (.int 44021))) (fOp oMod (fCB oInt (fCons (fVar 2) fNil)) (fC (.int 2147483579)))) (fC (.int 19))) fNil)) (fC (.int 2147483647))) (tgName 1)))
    (sRet (fLstM (fCons (fCB (oList false) (fCons (fSl false (fVar 0) pNone (pSome (fC (.int 63)))) fNil)) (fCons (fC (.int 0)) (fCons (fC (.int 0)) (fCons (fVar 1) fNil))))))))
def m__law_bag : Fn := fnOf true 1 3 b__law_bag
def b__law_pull : Ex :=
    (sSeq (sIf (gAnd (gBool (fOp oEq (fOp oIx (fVar 0) (fC (.int 2))) (fC (.int 0)))) (gBool (fOp oLt (fOp oIx (fVar 0) (fC (.int 1))) (fCB oLen (fCons (fOp oIx (fVar 0) (fC (.int 0))) fNil)))))
    (sSeq (sAsg (fOp oIx (fOp oIx (fVar 0) (fC (.int 0))) (fOp oIx (fVar 0) (fC (.int 1)))) (tgName 2))
    (sSeq (sAsg (fOp oAdd (fOp oIx (fVar 0) (fC (.int 1))) (fC (.int 1))) (tgSub (fVar 0) (fC (.int 1))))
    (sIf (gBool (fOp oGe (fVar 2) (fOp oPow (fC (.int 10)) (fC (.int 18)))))
    (sAsg (fVar 2) (tgSub (fVar 0) (fC (.int 2))))
    (sAsg (fOp oMod (fCB oInt (fCons (fOp oAdd (fOp oAdd (fOp oMul (fOp oIx (fVar 0) (fC (.int 3))) (fC (.int 40692))) (fOp oMul (fOp oMod (fCB oInt (fCons (fVar 2) fNil)) (fC (.int 2147483579))) (fC (.int 69621)))) (fC (.int 11))) fNil)) (fC (.int 2147483647))) (tgSub (fVar 0) (fC (.int 3)))))))
    sNext)
    (sSeq (sIf (gBool (fOp oGt (fOp oIx (fVar 0) (fC (.int 2))) (fC (.int 0))))
    (sSeq (sAsg (fOp oMod (fCB oInt (fCons (fOp oIx (fVar 0) (fC (.int 2))) fNil)) (fVar 1)) (tgName 3))
    (sSeq (sAsg (fOp oDiv (fOp oIx (fVar 0) (fC (.int 2))) (fVar 1)) (tgSub (fVar 0) (fC (.int 2))))
    (sRet (fVar 3))))
    sNext)
    (sSeq (sAsg (fOp oIx (fVar 0) (fC (.int 3))) (tgName 4))
    (sSeq (sAsg (fOp oMod (fCB oInt (fCons (fOp oAdd (fOp oAdd (fOp oMul (fVar 4) (fVar 4)) (fOp oMul (fVar 4) (fC (.int 48271)))) (fC (.int 1013904223))) fNil)) (fC (.int 2147483647))) (tgSub (fVar 0) (fC (.int 3))))
    (sRet (fOp oMod (fCB oInt (fCons (fOp oAdd (fOp oDiv (fOp oIx (fVar 0) (fC (.int 3))) (fC (.int 97))) (fOp oMul (fOp oMod (fCB oInt (fCons (fOp oIx (fVar 0) (fC (.int 3))) fNil)) (fC (.int 8191))) (fC (.int 67)))) fNil)) (fVar 1)))))))
def m__law_pull : Fn := fnOf false 2 5 b__law_pull
local macro_rules | `(tactic| walk_at "ev") => `(tactic| (repeat (first
  | with_reducible exact ev_c | with_reducible exact ev_nil | with_reducible exact es_next | ((with_reducible apply ev_var); exact rfl)
  | with_reducible apply ev_cons | with_reducible apply ev_op | with_reducible apply ev_un | with_reducible apply ev_cb | with_reducible apply ev_call | with_reducible apply ev_callK
  | with_reducible apply et_bool | with_reducible apply et_not
  | with_reducible apply es_seq | with_reducible apply es_drop | with_reducible apply es_ret | with_reducible apply es_set | with_reducible apply es_par
  | with_reducible exact oAdd_ii | with_reducible exact oSub_ii | with_reducible exact oLt_ii | with_reducible exact oLe_ii | with_reducible exact oGt_ii | with_reducible exact oGe_ii | with_reducible exact oEq_ii | with_reducible exact oNe_ii | with_reducible exact oInt_i | with_reducible exact oLen_l | with_reducible exact oNeg_i | with_reducible exact oAbs_i | with_reducible exact oMax_ii | with_reducible exact oMin_ii
  | ((with_reducible apply mod_ok); first | decide | with_reducible assumption) | ((with_reducible apply mul_ok) <;> with_reducible assumption) | ((with_reducible apply div_ok) <;> with_reducible assumption)
  | ((with_reducible apply ixm_ok); exact rfl; exact rfl) | ((with_reducible apply ixt_ok); exact rfl) | ((with_reducible apply ixl_ok); exact rfl) | ((with_reducible apply pow_ok); decide)
  | ((with_reducible apply ev_tup); rotate_left; exact rfl; decide) | ((with_reducible apply ev_lst); rotate_left; exact rfl; decide))))
/-- the bag -/
structure Bag where
  cells : List Int
  i : Nat
  rest : Nat
  seed : Nat
  hs : seed < 2147483647
def Bag.mo (b : Bag) : MO := .lst [.lst (b.cells.map .int), .int b.i, .int b.rest, .int b.seed]
/-- the first part of a pull: a cell is taken -/
def Bag.take (b : Bag) : Bag := if b.rest = 0 then (match b.cells[b.i]? with
  | some c => if 10 ^ 18 ≤ c then { b with i := b.i + 1, rest := c.toNat } else { b with i := b.i + 1, seed := (b.seed * 40692 + (c % 2147483579).toNat * 69621 + 11) % 2147483647, hs := Nat.mod_lt _ (by decide) }
  | none => b) else b
def Bag.turn (b : Bag) : Bag := { b with seed := (b.seed * b.seed + b.seed * 48271 + 1013904223) % 2147483647, hs := Nat.mod_lt _ (by decide) }
def Bag.val (b : Bag) (k : Nat) : Nat := if 0 < b.take.rest then b.take.rest % k else (b.take.turn.seed / 97 + b.take.turn.seed % 8191 * 67) % k
def Bag.nxt (b : Bag) (k : Nat) : Bag := if 0 < b.take.rest then { b.take with rest := b.take.rest / k } else b.take.turn
theorem Bag.val_lt (b : Bag) {k : Nat} (h : 0 < k) : b.val k < k := by
  unfold Bag.val
  split <;> exact Nat.mod_lt _ h
theorem small_nat {n : Nat} (h : n < 10 ^ 200) : small (n : Int) = true := small_of (by simpa using h)
theorem bag_set1 {ρ : Env} {b : Bag} {rest : Mem} {x : Nat} (h : ρ[0]? = some (some (.m 0))) : tgSub (fVar 0) (fC (.int 1)) (.d (.int (x : Int))) ρ (b.mo :: rest) = .ok ρ (({ b with i := x } : Bag).mo :: rest) :=
  tgSub_ok (xs := [.lst (b.cells.map .int), .int b.i, .int b.rest, .int b.seed]) (n := 1) (ev_var h) ev_c rfl rfl
theorem bag_set2 {ρ : Env} {b : Bag} {rest : Mem} {x : Nat} (h : ρ[0]? = some (some (.m 0))) : tgSub (fVar 0) (fC (.int 2)) (.d (.int (x : Int))) ρ (b.mo :: rest) = .ok ρ (({ b with rest := x } : Bag).mo :: rest) :=
  tgSub_ok (xs := [.lst (b.cells.map .int), .int b.i, .int b.rest, .int b.seed]) (n := 2) (ev_var h) ev_c rfl rfl
theorem bag_set3 {ρ : Env} {b : Bag} {rest : Mem} {x : Nat} (hx : x < 2147483647) (h : ρ[0]? = some (some (.m 0))) : tgSub (fVar 0) (fC (.int 3)) (.d (.int (x : Int))) ρ (b.mo :: rest) = .ok ρ (({ b with seed := x, hs := hx } : Bag).mo :: rest) :=
  tgSub_ok (xs := [.lst (b.cells.map .int), .int b.i, .int b.rest, .int b.seed]) (n := 3) (ev_var h) ev_c rfl rfl
/-- the second part -/
theorem pull2 (b : Bag) (rest : Mem) (k : Nat) (hk : 0 < k) (hs : k < 10 ^ 200) (o : Option W) {p : Ex}
    (hp : p = (sSeq (sIf (gBool (fOp oGt (fOp oIx (fVar 0) (fC (.int 2))) (fC (.int 0))))
    (sSeq (sAsg (fOp oMod (fCB oInt (fCons (fOp oIx (fVar 0) (fC (.int 2))) fNil)) (fVar 1)) (tgName 3))
    (sSeq (sAsg (fOp oDiv (fOp oIx (fVar 0) (fC (.int 2))) (fVar 1)) (tgSub (fVar 0) (fC (.int 2))))
    (sRet (fVar 3))))
    sNext)
    (sSeq (sAsg (fOp oIx (fVar 0) (fC (.int 3))) (tgName 4))
    (sSeq (sAsg (fOp oMod (fCB oInt (fCons (fOp oAdd (fOp oAdd (fOp oMul (fVar 4) (fVar 4)) (fOp oMul (fVar 4) (fC (.int 48271)))) (fC (.int 1013904223))) fNil)) (fC (.int 2147483647))) (tgSub (fVar 0) (fC (.int 3))))
    (sRet (fOp oMod (fCB oInt (fCons (fOp oAdd (fOp oDiv (fOp oIx (fVar 0) (fC (.int 3))) (fC (.int 97))) (fOp oMul (fOp oMod (fCB oInt (fCons (fOp oIx (fVar 0) (fC (.int 3))) fNil)) (fC (.int 8191))) (fC (.int 67)))) fNil)) (fVar 1))))))) :
    p [some (.m 0), some (.d (.int k)), o, none, none] (b.mo :: rest) = .rt (.d (.int ((if 0 < b.rest then b.rest % k else (b.turn.seed / 97 + b.turn.seed % 8191 * 67) % k : Nat) : Int))) ((if 0 < b.rest then { b with rest := b.rest / k } else b.turn : Bag).mo :: rest) := by
  subst hp
  have s3 : small 48271 = true := small_of (by decide)
  have s4 : small 97 = true := small_of (by decide)
  have s5 : small 67 = true := small_of (by decide)
  have sk : small (k : Int) = true := small_nat hs
  have hk' : (0 : Int) < (k : Int) := by omega
  by_cases h0 : 0 < b.rest
  · rw [if_pos h0, if_pos h0]
    refine' es_seqR (es_ifT (m1 := b.mo :: rest) ?_ ?_)
    · refine et_bool ?_
      refine ev_op (w1 := .d (.int b.rest)) (m1 := b.mo :: rest) ?_ ev_c (by rw [oGt_ii, decide_eq_true (by omega)])
      walk_at "ev"
    · walk_at "ev"
      · refine' es_asg (w := .d (.int ((b.rest / k : Nat) : Int))) (ev_op (w1 := .d (.int b.rest)) (m1 := b.mo :: rest) ?_ (ev_var rfl) (div_ok hk' sk)) (bag_set2 rfl)
        walk_at "ev"
      · exact es_ret (ev_var (w := .d (.int ((b.rest % k : Nat) : Int))) rfl)
  · rw [if_neg h0, if_neg h0]
    have h00 : b.rest = 0 := by omega
    have ss : small (b.seed : Int) = true := small_nat (Nat.lt_trans b.hs (by decide))
    have ss2 : small ((b.turn.seed % 8191 : Nat) : Int) = true := small_nat (Nat.lt_of_lt_of_le (Nat.mod_lt _ (by decide)) (by decide))
    refine' es_seq (es_ifF (m1 := b.mo :: rest) ?_ es_next) ?_
    · refine et_bool ?_
      refine ev_op (w1 := .d (.int b.rest)) (m1 := b.mo :: rest) ?_ ev_c (by rw [oGt_ii, decide_eq_false (by omega)])
      walk_at "ev"
    · refine es_seq (es_set (w := .d (.int b.seed)) (m1 := b.mo :: rest) ?_) ?_
      · walk_at "ev"
      refine es_seq (ρ1 := [some (.m 0), some (.d (.int k)), o, none, some (.d (.int b.seed))]) (m1 := b.turn.mo :: rest) (es_asg (w := .d (.int (b.turn.seed : Int))) (m1 := b.mo :: rest) ?_ (bag_set3 b.turn.hs rfl)) ?_
      · have e : (b.turn.seed : Int) = ((b.seed : Int) * b.seed + b.seed * 48271 + 1013904223) % 2147483647 := by
          show (((b.seed * b.seed + b.seed * 48271 + 1013904223) % 2147483647 : Nat) : Int) = _
          simp only [Int.natCast_emod, Int.natCast_add, Int.natCast_mul, Int.cast_ofNat_Int]
        rw [e]
        walk_at "ev"
      · refine es_ret ?_
        refine ev_op (w1 := .d (.int ((b.turn.seed / 97 + b.turn.seed % 8191 * 67 : Nat) : Int))) (m1 := b.turn.mo :: rest) ?_ (ev_var rfl) ?_
        · refine ev_cb (ev_cons (w := .d (.int ((b.turn.seed / 97 + b.turn.seed % 8191 * 67 : Nat) : Int))) (m1 := b.turn.mo :: rest) ?_ ev_nil) oInt_i
          refine ev_op (w1 := .d (.int ((b.turn.seed / 97 : Nat) : Int))) (m1 := b.turn.mo :: rest) ?_ (ev_op (w1 := .d (.int ((b.turn.seed % 8191 : Nat) : Int))) (m1 := b.turn.mo :: rest) ?_ ev_c (mul_ok ss2 s5)) ?_
          · refine ev_op (w1 := .d (.int b.turn.seed)) (m1 := b.turn.mo :: rest) ?_ ev_c (div_ok (by decide) s4)
            walk_at "ev"
          · refine ev_op (w1 := .d (.int b.turn.seed)) (m1 := b.turn.mo :: rest) ?_ ev_c (mod_ok (by decide))
            walk_at "ev"
          · rw [oAdd_ii]
            simp only [Int.natCast_add, Int.natCast_mul, Int.cast_ofNat_Int]
        · rw [mod_ok hk', ← Int.natCast_emod]
theorem pull_eq (b : Bag) (rest : Mem) (k : Nat) (hk : 0 < k) (hs : k < 10 ^ 200) : m__law_pull [.m 0, .d (.int k)] (b.mo :: rest) = .ok (.d (.int (b.val k))) ((b.nxt k).mo :: rest) := by
  have fin : ∀ (b' : Bag), b.take = b' → b__law_pull [some (.m 0), some (.d (.int k)), none, none, none] (b.mo :: rest) = .rt (.d (.int ((if 0 < b'.rest then b'.rest % k else (b'.turn.seed / 97 + b'.turn.seed % 8191 * 67) % k : Nat) : Int))) ((if 0 < b'.rest then { b' with rest := b'.rest / k } else b'.turn : Bag).mo :: rest) →
      m__law_pull [.m 0, .d (.int k)] (b.mo :: rest) = .ok (.d (.int (b.val k))) ((b.nxt k).mo :: rest) := by
    intro b' h3 h2
    have z := fn_ret (mu := false) (np := 2) (N := 5) (ws := [.m 0, .d (.int k)]) rfl h2
    show fnOf false 2 5 b__law_pull _ _ = _
    rw [z]
    unfold Bag.val Bag.nxt
    rw [h3]
    show R.ok _ (((if 0 < b'.rest then { b' with rest := b'.rest / k } else b'.turn : Bag).mo :: rest).take (rest.length + 1)) = _
    simp
  have hk' : (0 : Int) < (k : Int) := by omega
  obtain ⟨cells, i, r, seed, hseed⟩ := b
  by_cases h0 : r = 0
  · subst h0
    cases hc : cells[i]? with
    | none =>
      have hi : ¬ (i : Int) < (cells.length : Int) := by
        have := List.getElem?_eq_none_iff.mp hc
        omega
      have ht : (Bag.mk cells i 0 seed hseed).take = Bag.mk cells i 0 seed hseed := by simp [Bag.take, hc]
      refine fin ⟨cells, i, 0, seed, hseed⟩ ht ?_
      unfold b__law_pull
      refine es_seq (ρ1 := [some (.m 0), some (.d (.int k)), none, none, none]) (m1 := (Bag.mk cells i 0 seed hseed).mo :: rest) (es_ifF (m1 := (Bag.mk cells i 0 seed hseed).mo :: rest) (et_andT (m1 := (Bag.mk cells i 0 seed hseed).mo :: rest) ?_ ?_) es_next) ?_
      · refine et_bool (ev_op (w1 := .d (.int (0 : Nat))) (m1 := (Bag.mk cells i 0 seed hseed).mo :: rest) ?_ ev_c (by rw [oEq_ii]; rfl))
        walk_at "ev"
      · refine et_bool ?_
        refine ev_op (w1 := .d (.int i)) (m1 := (Bag.mk cells i 0 seed hseed).mo :: rest) ?_ (ev_cb (ev_cons (w := .d (.lst (cells.map .int))) (m1 := (Bag.mk cells i 0 seed hseed).mo :: rest) ?_ ev_nil) oLen_l) ?_
        · walk_at "ev"
        · walk_at "ev"
        · rw [oLt_ii, List.length_map, decide_eq_false hi]
      · exact pull2 ⟨cells, i, 0, seed, hseed⟩ rest k hk hs none rfl
    | some c =>
      have hl : i < cells.length := (List.getElem?_eq_some_iff.mp hc).1
      have hi : (i : Int) < (cells.length : Int) := by omega
      have hat : atI (cells.map D.int) (i : Int) = some (.int c) := by rw [GD.atI_nat, List.getElem?_map, hc]; rfl
      have hd : (Bag.mk cells (i + 1) 0 seed hseed).mo = (Bag.mk cells (i + 1) 0 seed hseed).mo := rfl
      have test : gAnd (gBool (fOp oEq (fOp oIx (fVar 0) (fC (.int 2))) (fC (.int 0)))) (gBool (fOp oLt (fOp oIx (fVar 0) (fC (.int 1))) (fCB oLen (fCons (fOp oIx (fVar 0) (fC (.int 0))) fNil)))) [some (.m 0), some (.d (.int k)), none, none, none] ((Bag.mk cells i 0 seed hseed).mo :: rest) = .ok true ((Bag.mk cells i 0 seed hseed).mo :: rest) := by
        refine et_andT (m1 := (Bag.mk cells i 0 seed hseed).mo :: rest) ?_ ?_
        · refine et_bool (ev_op (w1 := .d (.int (0 : Nat))) (m1 := (Bag.mk cells i 0 seed hseed).mo :: rest) ?_ ev_c (by rw [oEq_ii]; rfl))
          walk_at "ev"
        · refine et_bool ?_
          refine ev_op (w1 := .d (.int i)) (m1 := (Bag.mk cells i 0 seed hseed).mo :: rest) ?_ (ev_cb (ev_cons (w := .d (.lst (cells.map .int))) (m1 := (Bag.mk cells i 0 seed hseed).mo :: rest) ?_ ev_nil) oLen_l) ?_
          · walk_at "ev"
          · walk_at "ev"
          · rw [oLt_ii, List.length_map, decide_eq_true hi]
      -- the cell is taken, the place goes on
      have first : ∀ {q : Ex} {res : RS}, q [some (.m 0), some (.d (.int k)), some (.d (.int c)), none, none] ((Bag.mk cells (i + 1) 0 seed hseed).mo :: rest) = res →
          sSeq (sAsg (fOp oIx (fOp oIx (fVar 0) (fC (.int 0))) (fOp oIx (fVar 0) (fC (.int 1)))) (tgName 2)) (sSeq (sAsg (fOp oAdd (fOp oIx (fVar 0) (fC (.int 1))) (fC (.int 1))) (tgSub (fVar 0) (fC (.int 1)))) q) [some (.m 0), some (.d (.int k)), none, none, none] ((Bag.mk cells i 0 seed hseed).mo :: rest) = res := by
        intro q res h
        refine es_seq (es_set (w := .d (.int c)) (m1 := (Bag.mk cells i 0 seed hseed).mo :: rest) ?_) ?_
        · refine ev_op (w1 := .d (.lst (cells.map .int))) (m1 := (Bag.mk cells i 0 seed hseed).mo :: rest) (w2 := .d (.int i)) (m2 := (Bag.mk cells i 0 seed hseed).mo :: rest) ?_ ?_ (ixl_ok hat)
          · walk_at "ev"
          · walk_at "ev"
        · refine es_seq (es_asg (w := .d (.int ((i + 1 : Nat) : Int))) (m1 := (Bag.mk cells i 0 seed hseed).mo :: rest) ?_ (bag_set1 rfl)) h
          refine ev_op (w1 := .d (.int i)) (m1 := (Bag.mk cells i 0 seed hseed).mo :: rest) ?_ ev_c ?_
          · walk_at "ev"
          · rw [oAdd_ii]; rfl
      have big : ∀ (b' : Bag), b'.cells = cells → fOp oGe (fVar 2) (fOp oPow (fC (.int 10)) (fC (.int 18))) [some (.m 0), some (.d (.int k)), some (.d (.int c)), none, none] (b'.mo :: rest) = .ok (.d (.bl (decide ((10 : Int) ^ 18 ≤ c)))) (b'.mo :: rest) := by
        intro b' _
        refine ev_op (w1 := .d (.int c)) (m1 := b'.mo :: rest) (ev_var rfl) (w2 := .d (.int (10 ^ 18))) (m2 := b'.mo :: rest) ?_ ?_
        · exact ev_op ev_c ev_c (pow_ok (by decide))
        · rw [oGe_ii]
      by_cases hb : (10 : Int) ^ 18 ≤ c
      · have hc0 : ((c.toNat : Nat) : Int) = c := Int.toNat_of_nonneg (Int.le_trans (by decide) hb)
        have hcp : c.toNat ≠ 0 := by
          intro z
          rw [z] at hc0
          rw [← hc0] at hb
          exact absurd hb (by decide)
        have ht : (Bag.mk cells i 0 seed hseed).take = Bag.mk cells (i + 1) c.toNat seed hseed := by
          unfold Bag.take
          rw [if_pos rfl]
          show (match cells[i]? with | some c => _ | none => _) = _
          rw [hc]
          exact if_pos hb
        refine fin ⟨cells, i + 1, c.toNat, seed, hseed⟩ ht ?_
        unfold b__law_pull
        refine es_seq (ρ1 := [some (.m 0), some (.d (.int k)), some (.d (.int c)), none, none]) (m1 := (Bag.mk cells (i + 1) c.toNat seed hseed).mo :: rest) (es_ifT test (first ?_)) ?_
        · refine es_ifT (m1 := (Bag.mk cells (i + 1) 0 seed hseed).mo :: rest) (et_bool (by rw [big ⟨cells, i + 1, 0, seed, hseed⟩ rfl, decide_eq_true hb])) ?_
          refine es_asg (w := .d (.int ((c.toNat : Nat) : Int))) (m1 := (Bag.mk cells (i + 1) 0 seed hseed).mo :: rest) ?_ (bag_set2 rfl)
          rw [hc0]
          exact ev_var rfl
        · exact pull2 ⟨cells, i + 1, c.toNat, seed, hseed⟩ rest k hk hs (some (.d (.int c))) rfl
      · have hm : (((c % 2147483579).toNat : Nat) : Int) = c % 2147483579 := Int.toNat_of_nonneg (Int.emod_nonneg _ (by decide))
        have hml : (c % 2147483579).toNat < 2147483579 := by
          have := Int.emod_lt_of_pos c (show (0 : Int) < 2147483579 by decide)
          omega
        have hs' : (seed * 40692 + (c % 2147483579).toNat * 69621 + 11) % 2147483647 < 2147483647 := Nat.mod_lt _ (by decide)
        have ht : (Bag.mk cells i 0 seed hseed).take = Bag.mk cells (i + 1) 0 ((seed * 40692 + (c % 2147483579).toNat * 69621 + 11) % 2147483647) hs' := by
          unfold Bag.take
          rw [if_pos rfl]
          show (match cells[i]? with | some c => _ | none => _) = _
          rw [hc]
          exact if_neg hb
        refine fin ⟨cells, i + 1, 0, (seed * 40692 + (c % 2147483579).toNat * 69621 + 11) % 2147483647, hs'⟩ ht ?_
        unfold b__law_pull
        refine es_seq (ρ1 := [some (.m 0), some (.d (.int k)), some (.d (.int c)), none, none]) (m1 := (Bag.mk cells (i + 1) 0 ((seed * 40692 + (c % 2147483579).toNat * 69621 + 11) % 2147483647) hs').mo :: rest) (es_ifT test (first ?_)) ?_
        · refine es_ifF (m1 := (Bag.mk cells (i + 1) 0 seed hseed).mo :: rest) (et_bool (by rw [big ⟨cells, i + 1, 0, seed, hseed⟩ rfl, decide_eq_false hb])) ?_
          refine es_asg (w := .d (.int (((seed * 40692 + (c % 2147483579).toNat * 69621 + 11) % 2147483647 : Nat) : Int))) (m1 := (Bag.mk cells (i + 1) 0 seed hseed).mo :: rest) ?_ (bag_set3 hs' rfl)
          have e : (((seed * 40692 + (c % 2147483579).toNat * 69621 + 11) % 2147483647 : Nat) : Int) = ((seed : Int) * 40692 + (c % 2147483579) * 69621 + 11) % 2147483647 := by
            simp only [Int.natCast_emod, Int.natCast_add, Int.natCast_mul, Int.cast_ofNat_Int, hm]
          rw [e]
          have s1 : small 40692 = true := small_of (by decide)
          have s2 : small 69621 = true := small_of (by decide)
          have ss : small ((Bag.mk cells (i + 1) 0 seed hseed).seed : Int) = true := small_nat (Nat.lt_trans hseed (by decide))
          have sc : small (c % 2147483579) = true := by rw [← hm]; exact small_nat (Nat.lt_trans hml (by decide))
          walk_at "ev"
        · exact pull2 ⟨cells, i + 1, 0, (seed * 40692 + (c % 2147483579).toNat * 69621 + 11) % 2147483647, hs'⟩ rest k hk hs (some (.d (.int c))) rfl
  · have ht : (Bag.mk cells i r seed hseed).take = Bag.mk cells i r seed hseed := if_neg h0
    refine fin ⟨cells, i, r, seed, hseed⟩ ht ?_
    unfold b__law_pull
    refine es_seq (ρ1 := [some (.m 0), some (.d (.int k)), none, none, none]) (m1 := (Bag.mk cells i r seed hseed).mo :: rest) (es_ifF (m1 := (Bag.mk cells i r seed hseed).mo :: rest) (et_andF ?_) es_next) ?_
    · refine et_bool (ev_op (w1 := .d (.int r)) (m1 := (Bag.mk cells i r seed hseed).mo :: rest) ?_ ev_c (by rw [oEq_ii, decide_eq_false (by omega)]))
      walk_at "ev"
    · exact pull2 ⟨cells, i, r, seed, hseed⟩ rest k hk hs none rfl
/-! ### the bag is made -/
def saltStep (s : Nat) (c : Int) : Nat := (s * 44021 + (c % 2147483579).toNat + 19) % 2147483647
theorem salt_lt : ∀ (ns : List Int) (s : Nat), s < 2147483647 → ns.foldl saltStep s < 2147483647
  | [], _, h => h
  | _ :: ns, _, _ => salt_lt ns _ (Nat.mod_lt _ (by decide))
def Bag.new (ns : List Int) : Bag := ⟨ns.take 63, 0, 0, (ns.take 63).foldl saltStep 3817, salt_lt _ _ (by decide)⟩
theorem cut63 (xs : List D) : cutD xs none (some 63) = xs.take 63 := by
  unfold cutD
  rw [HT.sIx_none]
  have e : HT.sIx xs.length xs.length (some 63) = min 63 xs.length := HT.sIx_nat xs.length xs.length 63
  rw [e, Nat.sub_zero, List.drop_zero]
  by_cases h : 63 ≤ xs.length
  · rw [Nat.min_eq_left h]
  · rw [Nat.min_eq_right (by omega), List.take_length, List.take_of_length_le (by omega)]
theorem salt_loop : ∀ (ns : List Int) (s : Nat) (o : Option W) (w : W), s < 2147483647 → ∃ o', loop (tgName 2) (sAsg (fOp oMod (fCB oInt (fCons (fOp oAdd (fOp oAdd (fOp oMul (fVar 1) (fC (.int 44021))) (fOp oMod (fCB oInt (fCons (fVar 2) fNil)) (fC (.int 2147483579)))) (fC (.int 19))) fNil)) (fC (.int 2147483647))) (tgName 1))
    ((ns.map D.int).map W.d) [some w, some (.d (.int s)), o] [] = .nx [some w, some (.d (.int ((ns.foldl saltStep s : Nat) : Int))), o'] []
  | [], s, o, w, _ => ⟨o, rfl⟩
  | n :: ns, s, o, w, h => by
    obtain ⟨o', e⟩ := salt_loop ns (saltStep s n) (some (.d (.int n))) w (Nat.mod_lt _ (by decide))
    refine ⟨o', ?_⟩
    rw [List.map_cons, List.map_cons]
    refine loop_cons (ρ1 := [some w, some (.d (.int s)), some (.d (.int n))]) (m1 := []) rfl (es_set (w := .d (.int (saltStep s n))) (m1 := []) ?_) e
    have hm : (((n % 2147483579).toNat : Nat) : Int) = n % 2147483579 := Int.toNat_of_nonneg (Int.emod_nonneg _ (by decide))
    have e2 : ((saltStep s n : Nat) : Int) = ((s : Int) * 44021 + n % 2147483579 + 19) % 2147483647 := by
      show (((s * 44021 + (n % 2147483579).toNat + 19) % 2147483647 : Nat) : Int) = _
      simp only [Int.natCast_emod, Int.natCast_add, Int.natCast_mul, Int.cast_ofNat_Int, hm]
    rw [e2]
    have s1 : small 44021 = true := small_of (by decide)
    have ss : small (s : Int) = true := small_nat (Nat.lt_trans h (by decide))
    walk_at "ev"
theorem bag_eq (ns : List Int) : m__law_bag [.d (.fls (ns.map .int))] [] = .ok (.m 0) [(Bag.new ns).mo] := by
  obtain ⟨o', e⟩ := salt_loop (ns.take 63) 3817 none (.d (.fls (ns.map .int))) (by decide)
  have es : fSl false (fVar 0) pNone (pSome (fC (.int 63))) [some (.d (.fls (ns.map .int))), some (.d (.int 3817)), none] [] = .ok (.d (.lst ((ns.take 63).map .int))) [] := by
    show R.ok (W.d (.lst (cutD (ns.map .int) none (some 63)))) [] = _
    rw [cut63, List.map_take]
  have es2 : ∀ s o, fSl false (fVar 0) pNone (pSome (fC (.int 63))) [some (.d (.fls (ns.map .int))), some (.d (.int s)), o] [] = .ok (.d (.lst ((ns.take 63).map .int))) [] := by
    intro s o
    show R.ok (W.d (.lst (cutD (ns.map .int) none (some 63)))) [] = _
    rw [cut63, List.map_take]
  have hb : b__law_bag [some (.d (.fls (ns.map .int))), none, none] [] = .rt (.m 0) [(Bag.new ns).mo] := by
    unfold b__law_bag
    refine es_seq (es_set ev_c) ?_
    refine es_seq (ρ1 := [some (.d (.fls (ns.map .int))), some (.d (.int ((ns.take 63).foldl saltStep 3817 : Nat))), o']) (m1 := []) (es_for (ws := ((ns.take 63).map D.int).map W.d) (m1 := []) ?_ e) ?_
    · unfold iSeq
      show (fSl false (fVar 0) pNone (pSome (fC (.int 63))) [some (.d (.fls (ns.map .int))), some (.d (.int 3817)), none] []).bind _ = _
      rw [es]
      rfl
    · refine es_ret ?_
      have z := ev_lstM (ρ := [some (.d (.fls (ns.map .int))), some (.d (.int ((ns.take 63).foldl saltStep 3817 : Nat))), o']) (m := []) (m1 := []) (la := fCons (fCB (oList false) (fCons (fSl false (fVar 0) pNone (pSome (fC (.int 63)))) fNil)) (fCons (fC (.int 0)) (fCons (fC (.int 0)) (fCons (fVar 1) fNil))))
        (ws := [.d (.lst ((ns.take 63).map .int)), .d (.int 0), .d (.int 0), .d (.int ((ns.take 63).foldl saltStep 3817 : Nat))]) (ev_cons (ev_cb (ev_cons (es2 _ _) ev_nil) rfl) (ev_cons ev_c (ev_cons ev_c (ev_cons (ev_var rfl) ev_nil)))) rfl (show 4 ≤ 100000 by decide)
      refine Eq.trans z ?_
      rfl
  have z := fn_ret (mu := true) (np := 1) (N := 3) (ws := [.d (.fls (ns.map .int))]) rfl hb
  show fnOf true 1 3 b__law_bag _ _ = _
  rw [z]
  rfl
end GD
namespace GD
open PySem PySem.Spec PyProof.Rows L2
noncomputable def bR__law_same (m_rec : Fn) : Ex :=
    (sSeq (sIf (gOr (gTest (fCB oIsi (fCons (fVar 1) (fCons (fC (.ty "list")) fNil)))) (gTest (fCB oIsi (fCons (fVar 1) (fCons (fC (.ty "tuple")) fNil)))))
    (sSeq (sIf (gOr (gBool (fOp oNe (fCB oIsi (fCons (fVar 0) (fCons (fC (.ty "list")) fNil))) (fCB oIsi (fCons (fVar 1) (fCons (fC (.ty "list")) fNil))))) (gBool (fOp oNe (fCB oIsi (fCons (fVar 0) (fCons (fC (.ty "tuple")) fNil))) (fCB oIsi (fCons (fVar 1) (fCons (fC (.ty "tuple")) fNil))))))
    (sRet (fC (.bl false)))
    sNext)
    (sRet (fAnd (fOp oEq (fCB oLen (fCons (fVar 0) fNil)) (fCB oLen (fCons (fVar 1) fNil))) (fCB oAll (fCons (fLc (iZip2 (fCons (fVar 0) (fCons (fVar 1) fNil))) (tgTup 2 (tgCons (tgName 2) (tgCons (tgName 3) tgNil))) gYes (fCall m_rec (fCons (fVar 2) (fCons (fVar 3) fNil))) [2, 3]) fNil)))))
    sNext)
    (sSeq (sIf (gTest (fCB oIsi (fCons (fVar 1) (fCons (fC (.ty "dict")) fNil))))
    (sRet (fAnd (fCB oIsi (fCons (fVar 0) (fCons (fC (.ty "dict")) fNil))) (fAnd (fCall m_rec (fCons (fCB oSorted (fCons (fCB (oList false) (fCons (fVar 0) fNil)) fNil)) (fCons (fCB oSorted (fCons (fCB (oList false) (fCons (fVar 1) fNil)) fNil)) fNil))) (fCB oAll (fCons (fLc (iSeq (fCB (oList false) (fCons (fVar 1) fNil))) (tgName 4) gYes (fCall m_rec (fCons (fOp oIx (fVar 0) (fVar 4)) (fCons (fOp oIx (fVar 1) (fVar 4)) fNil))) [4]) fNil)))))
    sNext)
    (sSeq (sIf (gOr (gBool (fOp oIs (fVar 1) (fC .non))) (gBool (fOp oIs (fVar 0) (fC .non))))
    (sRet (fAnd (fOp oIs (fVar 1) (fC .non)) (fOp oIs (fVar 0) (fC .non))))
    sNext)
    (sSeq (sIf (gOr (gBool (fOp oNe (fCB oIsi (fCons (fVar 0) (fCons (fC (.ty "bool")) fNil))) (fCB oIsi (fCons (fVar 1) (fCons (fC (.ty "bool")) fNil))))) (gBool (fOp oNe (fCB oIsi (fCons (fVar 0) (fCons (fC (.ty "int")) fNil))) (fCB oIsi (fCons (fVar 1) (fCons (fC (.ty "int")) fNil))))))
    (sRet (fC (.bl false)))
    sNext)
    (sRet (fAnd (fOp oEq (fCB oIsi (fCons (fVar 0) (fCons (fC (.ty "str")) fNil))) (fCB oIsi (fCons (fVar 1) (fCons (fC (.ty "str")) fNil)))) (fOp oEq (fVar 0) (fVar 1))))))))
noncomputable def m__law_same : Nat → Fn
  | 0 => fun _ _ => .bad
  | n + 1 => fnOf false 2 5 (bR__law_same (m__law_same n))
/-! ### a value is the same as itself -/
/-- plain data of at most n levels -/
def plainD : Nat → D → Bool
  | 0, _ => false
  | _ + 1, .non => true
  | _ + 1, .bl _ => true
  | _ + 1, .int _ => true
  | _ + 1, .str _ => true
  | n + 1, .tup xs => decide (xs.length ≤ 100000) && xs.all (plainD n)
  | n + 1, .lst xs => decide (xs.length ≤ 100000) && xs.all (plainD n)
  | _ + 1, _ => false
theorem isi_of {x : D} {t n : String} {m : Mem} {b : Bool} (h1 : tyName (.d x) m = some t) (h : subTy t n = some b) : oIsi [.d x, .d (.ty n)] m = .ok (.d (.bl b)) m := by
  unfold oIsi
  dsimp only
  rw [h1]
  dsimp only
  rw [h]
theorem zip_self {xs : List D} : zipD xs xs = xs.map fun x => W.d (.tup [x, x]) := by
  unfold zipD
  induction xs with
  | nil => rfl
  | cons a l ih => simp at ih ⊢; exact ih
theorem same_refl : ∀ (n : Nat) (x : D) (m : Mem), plainD n x = true → m__law_same n [.d x, .d x] m = .ok (.d (.bl true)) m
  | 0, _, _, h => by simp [plainD] at h
  | n + 1, x, m, hp => by
    have fin : bR__law_same (m__law_same n) [some (.d x), some (.d x), none, none, none] m = .rt (.d (.bl true)) m → m__law_same (n + 1) [.d x, .d x] m = .ok (.d (.bl true)) m := by
      intro h
      have z := fn_ret (mu := false) (np := 2) (N := 5) (ws := [.d x, .d x]) rfl h
      show fnOf false 2 5 (bR__law_same (m__law_same n)) _ _ = _
      rw [z, leave_d, List.take_length]
    have ck : ∀ (k : Nat) (t n : String) (b : Bool), [some (W.d x), some (.d x), none, none, none][k]? = some (some (.d x)) → tyName (.d x) m = some t → subTy t n = some b → fCB oIsi (fCons (fVar k) (fCons (fC (.ty n)) fNil)) [some (.d x), some (.d x), none, none, none] m = .ok (.d (.bl b)) m :=
      fun k t n b h1 h0 h2 => ev_cb (ev_cons (ev_var h1) (ev_cons ev_c ev_nil)) (isi_of h0 h2)
    have sc : ∀ (t : String) (bb bi bs : Bool), tyName (.d x) m = some t → subTy t "list" = some false → subTy t "tuple" = some false → subTy t "dict" = some false → subTy t "bool" = some bb → subTy t "int" = some bi → subTy t "str" = some bs →
        (∀ m, oIs (.d x) (.d .non) m = .ok (.d (.bl false)) m) → (∀ m, oEq (.d x) (.d x) m = .ok (.d (.bl true)) m) → m__law_same (n + 1) [.d x, .d x] m = .ok (.d (.bl true)) m := by
      intro t bb bi bs h0 h1 h2 h3 h4 h5 h6 h7 h8
      refine fin ?_
      unfold bR__law_same
      refine es_seq (es_ifF (et_orF (et_test (ck 1 t _ false rfl h0 h1) rfl) (et_test (ck 1 t _ false rfl h0 h2) rfl)) es_next) ?_
      refine es_seq (es_ifF (et_test (ck 1 t _ false rfl h0 h3) rfl) es_next) ?_
      refine es_seq (es_ifF (et_orF (et_bool (ev_op (ev_var rfl) ev_c (h7 _))) (et_bool (ev_op (ev_var rfl) ev_c (h7 _)))) es_next) ?_
      refine es_seq (es_ifF (et_orF (et_bool (ev_op (ck 0 t _ bb rfl h0 h4) (ck 1 t _ bb rfl h0 h4) (by rw [oNe_bb, decide_eq_true rfl]; rfl))) (et_bool (ev_op (ck 0 t _ bi rfl h0 h5) (ck 1 t _ bi rfl h0 h5) (by rw [oNe_bb, decide_eq_true rfl]; rfl)))) es_next) ?_
      exact es_ret (ev_andT (ev_op (ck 0 t _ bs rfl h0 h6) (ck 1 t _ bs rfl h0 h6) (by rw [oEq_bb, decide_eq_true rfl])) (ev_op (ev_var rfl) (ev_var rfl) (h8 _)))
    have sq : ∀ (t : String) (xs : List D) (bl bt : Bool), tyName (.d x) m = some t → subTy t "list" = some bl → subTy t "tuple" = some bt → (bl || bt) = true → (∀ m, oLen [.d x] m = .ok (.d (.int xs.length)) m) → (∀ m : Mem, iZip2 (fCons (fVar 0) (fCons (fVar 1) fNil)) [some (.d x), some (.d x), none, none, none] m = .ok (zipD xs xs) m) →
        xs.length ≤ 100000 → (∀ y ∈ xs, plainD n y = true) → m__law_same (n + 1) [.d x, .d x] m = .ok (.d (.bl true)) m := by
      intro t xs bl bt h0 h1 h2 h3 h4 h5 hl hx
      refine fin ?_
      unfold bR__law_same
      have test : gOr (gTest (fCB oIsi (fCons (fVar 1) (fCons (fC (.ty "list")) fNil)))) (gTest (fCB oIsi (fCons (fVar 1) (fCons (fC (.ty "tuple")) fNil)))) [some (.d x), some (.d x), none, none, none] m = .ok true m := by
        cases bl with
        | true => exact et_orT (et_test (ck 1 t _ true rfl h0 h1) rfl)
        | false =>
          cases bt with
          | true => exact et_orF (et_test (ck 1 t _ false rfl h0 h1) rfl) (et_test (ck 1 t _ true rfl h0 h2) rfl)
          | false => cases h3
      refine es_seqR (es_ifT test ?_)
      refine es_seq (es_ifF (et_orF (et_bool (ev_op (ck 0 t _ bl rfl h0 h1) (ck 1 t _ bl rfl h0 h1) (by rw [oNe_bb, decide_eq_true rfl]; rfl))) (et_bool (ev_op (ck 0 t _ bt rfl h0 h2) (ck 1 t _ bt rfl h0 h2) (by rw [oNe_bb, decide_eq_true rfl]; rfl)))) es_next) ?_
      have hc := lcs_pure (ws := zipD xs xs) (g := tgTup 2 (tgCons (tgName 2) (tgCons (tgName 3) tgNil))) (t := gYes) (a := fCall (m__law_same n) (fCons (fVar 2) (fCons (fVar 3) fNil))) (ρ := [some (.d x), some (.d x), none, none, none]) (m := m) (fun _ => true) (fun _ => .bl true) (fun w hw => by
        rw [zip_self] at hw
        obtain ⟨y, hy, rfl⟩ := List.mem_map.mp hw
        refine ⟨[some (.d x), some (.d x), some (.d y), some (.d y), none], rfl, rfl, fun _ => ?_⟩
        exact ev_call (ev_cons (ev_var rfl) (ev_cons (ev_var rfl) ev_nil)) (same_refl n y m (hx y hy))) [] (by rw [zipD_len]; simp; omega)
      have hall : oAll [.d (.lst ([] ++ ((zipD xs xs).filter fun _ => true).map fun _ => D.bl true))] m = .ok (.d (.bl true)) m := by
        have hb : ∀ l : List W, boolsD (l.map fun _ => D.bl true) = some (l.map fun _ => true) := by
          intro l
          induction l with
          | nil => rfl
          | cons a l ih => simp [boolsD, ih]
        unfold oAll lstOf
        dsimp only
        rw [List.nil_append, hb]
        simp
      have eqL : ∀ i : Int, oEq (.d (.int i)) (.d (.int i)) m = .ok (.d (.bl true)) m := fun i => by rw [oEq_ii, decide_eq_true rfl]
      exact es_ret (ev_andT (ev_op (ev_cb (ev_cons (ev_var rfl) ev_nil) (h4 _)) (ev_cb (ev_cons (ev_var rfl) ev_nil) (h4 _)) (eqL _)) (ev_cb (ev_cons (lc_eq (h5 m) hc) ev_nil) hall))
    cases x with
    | non =>
      refine fin ?_
      unfold bR__law_same
      refine es_seq (es_ifF (et_orF (et_test (ck 1 "NoneType" _ false rfl rfl (by decide)) rfl) (et_test (ck 1 "NoneType" _ false rfl rfl (by decide)) rfl)) es_next) ?_
      refine es_seq (es_ifF (et_test (ck 1 "NoneType" _ false rfl rfl (by decide)) rfl) es_next) ?_
      exact es_seqR (es_ifT (et_orT (et_bool (ev_op (ev_var rfl) ev_c oIs_nn))) (es_ret (ev_andT (ev_op (ev_var rfl) ev_c oIs_nn) (ev_op (ev_var rfl) ev_c oIs_nn))))
    | bl b => exact sc "bool" true true false rfl (by decide) (by decide) (by decide) (by decide) (by decide) (by decide) (fun _ => rfl) (fun _ => by rw [oEq_bb, decide_eq_true rfl])
    | int b => exact sc "int" false true false rfl (by decide) (by decide) (by decide) (by decide) (by decide) (by decide) (fun _ => rfl) (fun _ => by rw [oEq_ii, decide_eq_true rfl])
    | str b => exact sc "str" false false true rfl (by decide) (by decide) (by decide) (by decide) (by decide) (by decide) (fun _ => rfl) (fun _ => by rw [oEq_ss, decide_eq_true rfl])
    | tup xs =>
      unfold plainD at hp
      rw [Bool.and_eq_true] at hp
      exact sq "tuple" xs false true rfl (by decide) (by decide) rfl (fun _ => rfl) (fun _ => rfl) (of_decide_eq_true hp.1) (List.all_eq_true.mp hp.2)
    | lst xs =>
      unfold plainD at hp
      rw [Bool.and_eq_true] at hp
      exact sq "list" xs true false rfl (by decide) (by decide) rfl (fun _ => rfl) (fun _ => rfl) (of_decide_eq_true hp.1) (List.all_eq_true.mp hp.2)
    | fls xs => simp [plainD] at hp
    | obj c ns vs => simp [plainD] at hp
    | gl x => simp [plainD] at hp
    | ty x => simp [plainD] at hp
    | lam i z => simp [plainD] at hp
    | xin z ns vs => simp [plainD] at hp
end GD
/-! LE: equality of plain data. -/
namespace GD
open PySem PySem.Spec PyProof.Rows L2
/-- plain data of a depth less than n -/
def eqP : Nat → D → Bool
  | 0, _ => false
  | _ + 1, .non => true
  | _ + 1, .bl _ => true
  | _ + 1, .int _ => true
  | _ + 1, .str x => PyData.strOk x
  | n + 1, .tup xs => xs.all (eqP n)
  | n + 1, .lst xs => xs.all (eqP n)
  | _ + 1, _ => false
def eqvW (x y : D) : Bool := match x.py, y.py with
  | some p, some q => PyData.eqv p q
  | _, _ => false
theorem py_L {f : D → Prop} {n : Nat} (ih : ∀ x, eqP n x = true → ∃ p, D.py x = some p ∧ p.canLay0 = true ∧ p.depth ≤ n) : ∀ xs : List D, xs.all (eqP n) = true → ∃ ps, D.pyL xs = some ps ∧ PyData.canLayAll0 ps = true ∧ PyData.depthAll ps ≤ n
  | [], _ => ⟨[], rfl, rfl, by rw [PyData.depthAll]; omega⟩
  | x :: xs, h => by
    rw [List.all_cons, Bool.and_eq_true] at h
    obtain ⟨p, h1, h2, h3⟩ := ih x h.1
    obtain ⟨ps, g1, g2, g3⟩ := py_L (f := f) ih xs h.2
    refine ⟨p :: ps, by rw [D.pyL, h1, g1], by rw [PyData.canLayAll0, h2, g2]; rfl, by rw [PyData.depthAll]; omega⟩
theorem py_P : ∀ (n : Nat) (x : D), eqP n x = true → ∃ p, D.py x = some p ∧ p.canLay0 = true ∧ p.depth ≤ n
  | 0, _, h => by simp [eqP] at h
  | n + 1, .non, _ => ⟨.none, rfl, rfl, by rw [PyData.depth]; omega⟩
  | n + 1, .bl b, _ => ⟨.bool b, rfl, rfl, by rw [PyData.depth]; omega⟩
  | n + 1, .int b, _ => ⟨.int b, rfl, rfl, by rw [PyData.depth]; omega⟩
  | n + 1, .str b, h => ⟨.str b, rfl, h, by rw [PyData.depth]; omega⟩
  | n + 1, .tup xs, h => by
    obtain ⟨ps, g1, g2, g3⟩ := py_L (f := fun _ => True) (py_P n) xs h
    exact ⟨.tuple ps, by rw [D.py, g1]; rfl, g2, by rw [PyData.depth]; omega⟩
  | n + 1, .lst xs, h => by
    obtain ⟨ps, g1, g2, g3⟩ := py_L (f := fun _ => True) (py_P n) xs h
    exact ⟨.list ps, by rw [D.py, g1]; rfl, g2, by rw [PyData.depth]; omega⟩
  | n + 1, .fls _, h | n + 1, .obj _ _ _, h | n + 1, .gl _, h | n + 1, .ty _, h => by simp [eqP] at h
theorem eqD_P {n : Nat} {x y : D} (hx : eqP n x = true) (hy : eqP n y = true) (hn : n ≤ 64) : eqD x y = some (eqvW x y) := by
  obtain ⟨p, h1, h2, h3⟩ := py_P n x hx
  obtain ⟨q, g1, g2, g3⟩ := py_P n y hy
  have s1 : SeqAt.shaped p = true := by unfold SeqAt.shaped; rw [h2, decide_eq_true (by omega)]; rfl
  have s2 : SeqAt.shaped q = true := by unfold SeqAt.shaped; rw [g2, decide_eq_true (by omega)]; rfl
  unfold eqD eqvW
  split
  · simp [D.py, PyData.eqv]; first | rfl | (rw [Bool.eq_iff_iff]; simp)
  · simp [D.py, PyData.eqv]; first | rfl | (rw [Bool.eq_iff_iff]; simp)
  · simp [D.py, PyData.eqv]; first | rfl | (rw [Bool.eq_iff_iff]; simp)
  · rfl
  · rfl
  · rfl
  · rfl
  · rfl
  · rfl
  · rfl
  · rw [h1, g1]
    dsimp only
    rw [s1, s2]
    rfl
theorem oEq_P {n : Nat} {x y : D} {m : Mem} (hx : eqP n x = true) (hy : eqP n y = true) (hn : n ≤ 64) : oEq (.d x) (.d y) m = .ok (.d (.bl (eqvW x y))) m := by
  unfold oEq
  dsimp only [datOf]
  rw [eqD_P hx hy hn]
theorem oNe_P {n : Nat} {x y : D} {m : Mem} (hx : eqP n x = true) (hy : eqP n y = true) (hn : n ≤ 64) : oNe (.d x) (.d y) m = .ok (.d (.bl (!eqvW x y))) m := by
  unfold oNe
  dsimp only [datOf]
  rw [eqD_P hx hy hn]
theorem eqvAll_refl {n : Nat} (ih : ∀ x p, eqP n x = true → D.py x = some p → PyData.eqv p p = true) : ∀ (xs : List D) (ps : List PyData), xs.all (eqP n) = true → D.pyL xs = some ps → PyData.eqvAll ps ps = true
  | [], _, _, e => by cases e; rfl
  | x :: xs, ps, h, e => by
    rw [List.all_cons, Bool.and_eq_true] at h
    rw [D.pyL] at e
    split at e
    · rename_i a b e1 e2
      cases e
      rw [PyData.eqvAll, ih x a h.1 e1, eqvAll_refl ih xs b h.2 e2]
      rfl
    · cases e
theorem eqv_refl : ∀ (n : Nat) (x : D) (p : PyData), eqP n x = true → D.py x = some p → PyData.eqv p p = true
  | 0, _, _, h, _ => by simp [eqP] at h
  | n + 1, .non, _, _, e => by cases e; rfl
  | n + 1, .bl b, _, _, e => by cases e; simp [PyData.eqv]
  | n + 1, .int b, _, _, e => by cases e; simp [PyData.eqv]
  | n + 1, .str b, _, _, e => by cases e; simp [PyData.eqv]
  | n + 1, .tup xs, _, h, e => by
    rw [D.py, Option.map_eq_some_iff] at e
    obtain ⟨ps, e1, rfl⟩ := e
    rw [PyData.eqv]
    exact eqvAll_refl (eqv_refl n) xs ps h e1
  | n + 1, .lst xs, _, h, e => by
    rw [D.py, Option.map_eq_some_iff] at e
    obtain ⟨ps, e1, rfl⟩ := e
    rw [PyData.eqv]
    exact eqvAll_refl (eqv_refl n) xs ps h e1
  | n + 1, .fls _, _, h, _ | n + 1, .obj _ _ _, _, h, _ | n + 1, .gl _, _, h, _ | n + 1, .ty _, _, h, _ => by simp [eqP] at h
theorem eqvW_refl {n : Nat} {x : D} (h : eqP n x = true) : eqvW x x = true := by
  obtain ⟨p, h1, _, _⟩ := py_P n x h
  unfold eqvW
  rw [h1]
  exact eqv_refl n x p h h1
@[simp] theorem eqvW_ii {i j : Int} : eqvW (.int i) (.int j) = (i == j) := by simp [eqvW, D.py, PyData.eqv]
@[simp] theorem eqvW_ss {i j : Str} : eqvW (.str i) (.str j) = (i == j) := by simp [eqvW, D.py, PyData.eqv]
@[simp] theorem eqvW_bb {i j : Bool} : eqvW (.bl i) (.bl j) = (i == j) := by simp [eqvW, D.py, PyData.eqv]
@[simp] theorem eqvW_nn : eqvW .non .non = true := rfl
@[simp] theorem eqvW_is {i : Int} {j : Str} : eqvW (.int i) (.str j) = false := rfl
@[simp] theorem eqvW_si {i : Int} {j : Str} : eqvW (.str j) (.int i) = false := rfl
@[simp] theorem eqvW_tn : eqvW (.tup []) (.tup []) = true := rfl
@[simp] theorem eqvW_ln : eqvW (.lst []) (.lst []) = true := rfl
theorem eqvW_tc {x y : D} {xs ys : List D} : eqvW (.tup (x :: xs)) (.tup (y :: ys)) = (eqvW x y && eqvW (.tup xs) (.tup ys)) := by
  unfold eqvW
  simp only [D.py, D.pyL]
  cases h1 : D.py x <;> cases h2 : D.py y <;> cases h3 : D.pyL xs <;> cases h4 : D.pyL ys <;> simp [PyData.eqv, PyData.eqvAll]
theorem eqvW_lcn {x : D} {xs : List D} : eqvW (.lst (x :: xs)) (.lst []) = false := by
  unfold eqvW
  simp only [D.py, D.pyL]
  cases h1 : D.py x <;> cases h3 : D.pyL xs <;> simp [PyData.eqv, PyData.eqvAll]
theorem eqvW_tcn {x : D} {xs : List D} : eqvW (.tup (x :: xs)) (.tup []) = false := by
  unfold eqvW
  simp only [D.py, D.pyL]
  cases h1 : D.py x <;> cases h3 : D.pyL xs <;> simp [PyData.eqv, PyData.eqvAll]
end GD
namespace GD
open PySem PySem.Spec PyProof.Rows L2
def b_is_item : Ex :=
    (sSeq (sIf (gBool (fOp oEq (fVar 0) (fC (.str "p"))))
    (sRet (fAnd (fCB oIsi (fCons (fVar 1) (fCons (fC (.ty "tuple")) fNil))) (fAnd (fOp oEq (fCB oLen (fCons (fVar 1) fNil)) (fC (.int 2))) (fAnd (fOp (oInT false "ENDS" [("top", "t"), ("bottom", "b")]) (fOp oIx (fVar 1) (fC (.int 0))) (fC (.gl "ENDS"))) (fChain oLe oLe (fC (.int 0)) (fOp oIx (fVar 1) (fC (.int 1))) (fC (.int (399))))))))
    sNext)
    (sSeq (sIf (gBool (fOp oEq (fVar 0) (fC (.str "e"))))
    (sRet (fOp (oInT false "ENDS" [("top", "t"), ("bottom", "b")]) (fVar 1) (fC (.gl "ENDS"))))
    sNext)
    (sRet (fAnd (fCB oIsi (fCons (fVar 1) (fCons (fC (.ty "int")) fNil))) (fChain oLe oLe (fIf (gBool (fOp oEq (fVar 0) (fC (.str "k")))) (fUn oNeg (fC (.int (400)))) (fC (.int 0))) (fVar 1) (fC (.int (400))))))))
def m_is_item : Fn := fnOf false 2 2 b_is_item
def b_is_move : Ex :=
    (sSeq (sIf (gOr (gBool (fOp oEq (fVar 0) (fTup fNil))) (gOr (gBool (fOp (oInT true "SHAPES" [("swap", "pp"), ("carry", "pp"), ("cut", "k"), ("turn", "eb"), ("over", ""), ("face", "p")]) (fOp oIx (fVar 0) (fC (.int 0))) (fC (.gl "SHAPES")))) (gBool (fOp oNe (fCB oLen (fCons (fVar 0) fNil)) (fOp oAdd (fCB oLen (fCons (fOp (oIxT "SHAPES" [("swap", "pp"), ("carry", "pp"), ("cut", "k"), ("turn", "eb"), ("over", ""), ("face", "p")]) (fC (.gl "SHAPES")) (fOp oIx (fVar 0) (fC (.int 0)))) fNil)) (fC (.int 1)))))))
    (sRet (fC (.bl false)))
    sNext)
    (sRet (fCB oAll (fCons (fLc (iZipA (fCons (fOp (oIxT "SHAPES" [("swap", "pp"), ("carry", "pp"), ("cut", "k"), ("turn", "eb"), ("over", ""), ("face", "p")]) (fC (.gl "SHAPES")) (fOp oIx (fVar 0) (fC (.int 0)))) (fCons (fSl false (fVar 0) (pSome (fC (.int 1))) pNone) fNil))) (tgTup 2 (tgCons (tgName 1) (tgCons (tgName 2) tgNil))) gYes (fCall m_is_item (fCons (fVar 1) (fCons (fVar 2) fNil))) [1, 2]) fNil))))
def m_is_move : Fn := fnOf false 1 3 b_is_move
def b_depth_of : Ex :=
    (sSeq (sMatch (fOp oIx (fVar 0) (fC (.int 0))) [(["swap", "carry"], (sRet (fOp oAdd (fCB oMax (fCons (fOp oIx (fOp oIx (fVar 0) (fC (.int 1))) (fC (.int 1))) (fCons (fOp oIx (fOp oIx (fVar 0) (fC (.int 2))) (fC (.int 1))) fNil))) (fC (.int 1))))),
    (["face"], (sRet (fOp oAdd (fOp oIx (fOp oIx (fVar 0) (fC (.int 1))) (fC (.int 1))) (fC (.int 1))))),
    (["cut"], (sRet (fCB oAbs (fCons (fOp oIx (fVar 0) (fC (.int 1))) fNil)))),
    (["turn"], (sRet (fOp oIx (fVar 0) (fC (.int 2)))))])
    (sRet (fC (.int 0))))
def m_depth_of : Fn := fnOf false 1 1 b_depth_of
def b__law_of : Ex :=
    (sRet (fOp oIx (fVar 1) (fCall m__law_pull (fCons (fVar 0) (fCons (fCB oLen (fCons (fVar 1) fNil)) fNil)))))
def m__law_of : Fn := fnOf false 2 2 b__law_of
def b__law_end : Ex :=
    (sRet (fTup (fCons (fCall m__law_of (fCons (fVar 0) (fCons (fLst (fCons (fC (.str "top")) (fCons (fC (.str "bottom")) fNil))) fNil))) (fCons (fCall m__law_pull (fCons (fVar 0) (fCons (fOp oAdd (fVar 1) (fC (.int 1))) fNil))) fNil))))
def m__law_end : Fn := fnOf false 2 2 b__law_end
def b__law_move : Ex :=
    (sSeq (sAsg (fCall m__law_pull (fCons (fVar 0) (fCons (fC (.int 9)) fNil))) (tgName 2))
    (sSeq (sIf (gBool (fOp oLt (fVar 2) (fC (.int 3))))
    (sRet (fTup (fCons (fOp oIx (fLst (fCons (fC (.str "swap")) (fCons (fC (.str "carry")) (fCons (fC (.str "carry")) fNil)))) (fVar 2)) (fCons (fCall m__law_end (fCons (fVar 0) (fCons (fVar 1) fNil))) (fCons (fCall m__law_end (fCons (fVar 0) (fCons (fVar 1) fNil))) fNil)))))
    sNext)
    (sSeq (sIf (gBool (fOp oLt (fVar 2) (fC (.int 6))))
    (sRet (fTup (fCons (fC (.str "cut")) (fCons (fOp oSub (fOp oSub (fCall m__law_pull (fCons (fVar 0) (fCons (fOp oAdd (fOp oMul (fC (.int 2)) (fVar 1)) (fC (.int 3))) fNil))) (fVar 1)) (fC (.int 1))) fNil))))
    sNext)
    (sSeq (sIf (gBool (fOp oEq (fVar 2) (fC (.int 6))))
    (sRet (fTup (fCons (fC (.str "turn")) (fCons (fCall m__law_of (fCons (fVar 0) (fCons (fLst (fCons (fC (.str "top")) (fCons (fC (.str "bottom")) fNil))) fNil))) (fCons (fCall m__law_pull (fCons (fVar 0) (fCons (fOp oAdd (fVar 1) (fC (.int 2))) fNil))) fNil)))))
    sNext)
    (sRet (fIf (gBool (fOp oEq (fVar 2) (fC (.int 7)))) (fTup (fCons (fC (.str "over")) fNil)) (fTup (fCons (fC (.str "face")) (fCons (fCall m__law_end (fCons (fVar 0) (fCons (fVar 1) fNil))) fNil)))))))))
def m__law_move : Fn := fnOf false 2 3 b__law_move
def b__law_depth : Ex :=
    (sSeq (sIf (gBool (fOp oEq (fOp oIx (fVar 0) (fC (.int 0))) (fC (.str "over"))))
    (sRet (fC (.int 0)))
    sNext)
    (sSeq (sIf (gBool (fOp oEq (fOp oIx (fVar 0) (fC (.int 0))) (fC (.str "cut"))))
    (sRet (fCB oAbs (fCons (fOp oIx (fVar 0) (fC (.int 1))) fNil)))
    sNext)
    (sSeq (sIf (gBool (fOp oEq (fOp oIx (fVar 0) (fC (.int 0))) (fC (.str "turn"))))
    (sRet (fOp oIx (fVar 0) (fC (.int 2))))
    sNext)
    (sRet (fOp oAdd (fCB oMax (fCons (fLc (iSeq (fSl false (fVar 0) (pSome (fC (.int 1))) pNone)) (tgName 1) gYes (fOp oIx (fVar 1) (fC (.int 1))) [1]) fNil)) (fC (.int 1)))))))
def m__law_depth : Fn := fnOf false 1 2 b__law_depth
/-! ### moves -/
def endS (t : Bool) : Str := if t then "top" else "bottom"
def eD (t : Bool) (d : Nat) : D := .tup [.str (endS t), .int d]
inductive Mv where
  | swap (t1 : Bool) (d1 : Nat) (t2 : Bool) (d2 : Nat)
  | carry (t1 : Bool) (d1 : Nat) (t2 : Bool) (d2 : Nat)
  | cut (k : Int)
  | turn (t : Bool) (n : Nat)
  | over
  | face (t : Bool) (d : Nat)
def Mv.D : Mv → D
  | .swap t1 d1 t2 d2 => .tup [.str "swap", eD t1 d1, eD t2 d2]
  | .carry t1 d1 t2 d2 => .tup [.str "carry", eD t1 d1, eD t2 d2]
  | .cut k => .tup [.str "cut", .int k]
  | .turn t n => .tup [.str "turn", .str (endS t), .int n]
  | .over => .tup [.str "over"]
  | .face t d => .tup [.str "face", eD t d]
def Mv.reach : Mv → Nat
  | .swap _ d1 _ d2 => max d1 d2 + 1
  | .carry _ d1 _ d2 => max d1 d2 + 1
  | .cut k => k.natAbs
  | .turn _ n => n
  | .over => 0
  | .face _ d => d + 1
def Mv.ok : Mv → Prop
  | .swap _ d1 _ d2 => d1 ≤ 399 ∧ d2 ≤ 399
  | .carry _ d1 _ d2 => d1 ≤ 399 ∧ d2 ≤ 399
  | .cut k => k.natAbs ≤ 400
  | .turn _ n => n ≤ 400
  | .over => True
  | .face _ d => d ≤ 399
def pl (t : Bool) (d n : Int) : Int := if t then d else n - 1 - d
def carr (s g p : Int) : Int := if p = s then g else if s < p ∧ p ≤ g then p - 1 else if g ≤ p ∧ p < s then p + 1 else p
def Mv.go (mv : Mv) (n p : Int) : Int × Bool := match mv with
  | .swap t1 d1 t2 d2 => if p = pl t1 d1 n then (pl t2 d2 n, false) else if p = pl t2 d2 n then (pl t1 d1 n, false) else (p, false)
  | .carry t1 d1 t2 d2 => (carr (pl t1 d1 n) (pl t2 d2 n) p, false)
  | .cut k => ((p - k) % n, false)
  | .turn t m => if pl t p n < m then (pl t (m - 1 - pl t p n) n, true) else (p, false)
  | .face t d => (p, decide (p = pl t d n))
  | .over => (n - 1 - p, true)
def Mv.img (mv : Mv) (n p : Int) : Int × Bool := if n < (mv.reach : Int) then (p, false) else mv.go n p
theorem fn_m {mu : Bool} {np N : Nat} {b : Ex} {ws : List W} {m : Mem} {x : D} (hl : ws.length = np) (h : b (ws.map some ++ List.replicate (N - ws.length) none) m = .rt (.d x) m) : fnOf mu np N b ws m = .ok (.d x) m := by
  rw [fn_ret hl h, leave_d, List.take_length]
theorem ev_chain {o o' : O2} {a b c : Ev} {ρ : Env} {m m1 m2 m3 m4 : Mem} {x y w : W} {r : R W} (h1 : a ρ m = .ok x m1) (h2 : b ρ m1 = .ok y m2) (h3 : o x y m2 = .ok (.d (.bl true)) m3) (h4 : c ρ m3 = .ok w m4) (h5 : o' y w m4 = r) : fChain o o' a b c ρ m = r := by
  unfold fChain
  rw [h1, R.bind_ok, h2, R.bind_ok, h3, R.bind_ok]
  dsimp only
  rw [h4]
  exact h5
theorem ev_chainF {o o' : O2} {a b c : Ev} {ρ : Env} {m m1 m2 m3 : Mem} {x y : W} (h1 : a ρ m = .ok x m1) (h2 : b ρ m1 = .ok y m2) (h3 : o x y m2 = .ok (.d (.bl false)) m3) : fChain o o' a b c ρ m = .ok (.d (.bl false)) m3 := by
  unfold fChain
  rw [h1, R.bind_ok, h2, R.bind_ok, h3, R.bind_ok]
/-- a chain of numbers -/
theorem ev_ch {o o' : O2} {a b c : Ev} {ρ : Env} {m : Mem} {i j k : Int} {p q : Bool} (h1 : a ρ m = .ok (.d (.int i)) m) (h2 : b ρ m = .ok (.d (.int j)) m) (h4 : c ρ m = .ok (.d (.int k)) m) (h3 : o (.d (.int i)) (.d (.int j)) m = .ok (.d (.bl p)) m) (h5 : o' (.d (.int j)) (.d (.int k)) m = .ok (.d (.bl q)) m) : fChain o o' a b c ρ m = .ok (.d (.bl (p && q))) m := by
  cases p with
  | true => exact ev_chain h1 h2 h3 h4 h5
  | false => exact ev_chainF h1 h2 h3
theorem item_p (t : Bool) (d : Nat) (m : Mem) (hd : d ≤ 399) : m_is_item [.d (.str "p"), .d (eD t d)] m = .ok (.d (.bl true)) m := by
  refine fn_m rfl ?_
  show b_is_item [some (.d (.str "p")), some (.d (eD t d))] m = _
  have h : ∀ (ρ : Env), ρ[1]? = some (some (.d (eD t d))) → fChain oLe oLe (fC (.int 0)) (fOp oIx (fVar 1) (fC (.int 1))) (fC (.int (399))) ρ m = .ok (.d (.bl true)) m := fun ρ hρ => by
    rw [ev_ch ev_c (ev_op (ev_var hρ) ev_c (ixt_ok (x := .int d) rfl)) ev_c oLe_ii oLe_ii, decide_eq_true (by omega), decide_eq_true (by omega)]
    rfl
  unfold b_is_item
  cases t with
  | true => exact es_seqR (es_ifT (et_bool rfl) (es_ret (ev_andT rfl (ev_andT rfl (ev_andT rfl (h _ rfl))))))
  | false => exact es_seqR (es_ifT (et_bool rfl) (es_ret (ev_andT rfl (ev_andT rfl (ev_andT rfl (h _ rfl))))))
theorem item_e (t : Bool) (m : Mem) : m_is_item [.d (.str "e"), .d (.str (endS t))] m = .ok (.d (.bl true)) m := by
  refine fn_m rfl ?_
  cases t <;> rfl
theorem item_b (n : Nat) (m : Mem) (hn : n ≤ 400) : m_is_item [.d (.str "b"), .d (.int n)] m = .ok (.d (.bl true)) m := by
  refine fn_m rfl ?_
  show b_is_item [some (.d (.str "b")), some (.d (.int n))] m = _
  unfold b_is_item
  refine es_seq (es_ifF (et_bool rfl) es_next) (es_seq (es_ifF (et_bool rfl) es_next) (es_ret (ev_andT rfl ?_)))
  rw [ev_ch (i := 0) (ev_ifF (et_bool rfl) ev_c) (ev_var rfl) ev_c oLe_ii oLe_ii, decide_eq_true (by omega), decide_eq_true (by omega)]
  rfl
theorem item_k (k : Int) (m : Mem) (hk : k.natAbs ≤ 400) : m_is_item [.d (.str "k"), .d (.int k)] m = .ok (.d (.bl true)) m := by
  refine fn_m rfl ?_
  show b_is_item [some (.d (.str "k")), some (.d (.int k))] m = _
  unfold b_is_item
  refine es_seq (es_ifF (et_bool rfl) es_next) (es_seq (es_ifF (et_bool rfl) es_next) (es_ret (ev_andT rfl ?_)))
  rw [ev_ch (i := -400) (ev_ifT (et_bool rfl) rfl) (ev_var rfl) ev_c oLe_ii oLe_ii, decide_eq_true (by omega), decide_eq_true (by omega)]
  rfl
def SHP : Dtab := [("swap", "pp"), ("carry", "pp"), ("cut", "k"), ("turn", "eb"), ("over", ""), ("face", "p")]
theorem oAll_1 (l : List Bool) (m : Mem) : oAll [.d (.lst (l.map .bl))] m = .ok (.d (.bl (l.all id))) m := by
  have e : boolsD (l.map .bl) = some l := by
    induction l with
    | nil => rfl
    | cons a l ih => simp [boolsD, ih]
  unfold oAll lstOf
  dsimp only
  rw [e]
theorem so_swap : PyData.strOk "swap" = true := by decide +kernel
theorem so_carry : PyData.strOk "carry" = true := by decide +kernel
theorem so_cut : PyData.strOk "cut" = true := by decide +kernel
theorem so_turn : PyData.strOk "turn" = true := by decide +kernel
theorem so_over : PyData.strOk "over" = true := by decide +kernel
theorem so_face : PyData.strOk "face" = true := by decide +kernel
theorem so_end (t : Bool) : PyData.strOk (endS t) = true := by cases t <;> decide +kernel
theorem Mv.eqP (mv : Mv) : GD.eqP 5 mv.D = true := by
  cases mv <;> simp [Mv.D, eD, GD.eqP, so_swap, so_carry, so_cut, so_turn, so_over, so_face, so_end]
theorem Mv.cons (mv : Mv) : ∃ y ys, mv.D = .tup (y :: ys) := by cases mv <;> exact ⟨_, _, rfl⟩
/-- the items of a move, all good -/
theorem move_ok {ps : List (D × D)} {m : Mem} (mv : Mv) (hz : ∀ ρ : Env, ρ[0]? = some (some (.d mv.D)) → iZipA (fCons (fOp (oIxT "SHAPES" SHP) (fC (.gl "SHAPES")) (fOp oIx (fVar 0) (fC (.int 0)))) (fCons (fSl false (fVar 0) (pSome (fC (.int 1))) pNone) fNil)) ρ m = .ok (ps.map fun p => W.d (.tup [p.1, p.2])) m)
    (hl : ps.length ≤ 2) (hi : ∀ p ∈ ps, m_is_item [.d p.1, .d p.2] m = .ok (.d (.bl true)) m) (ht : gOr (gBool (fOp (oInT true "SHAPES" SHP) (fOp oIx (fVar 0) (fC (.int 0))) (fC (.gl "SHAPES")))) (gBool (fOp oNe (fCB oLen (fCons (fVar 0) fNil)) (fOp oAdd (fCB oLen (fCons (fOp (oIxT "SHAPES" SHP) (fC (.gl "SHAPES")) (fOp oIx (fVar 0) (fC (.int 0)))) fNil)) (fC (.int 1))))) [some (.d mv.D), none, none] m = .ok false m) : m_is_move [.d mv.D] m = .ok (.d (.bl true)) m := by
  refine fn_m rfl ?_
  show b_is_move [some (.d mv.D), none, none] m = _
  unfold b_is_move
  have h0 : gBool (fOp oEq (fVar 0) (fTup fNil)) [some (.d mv.D), none, none] m = .ok false m := by
    refine et_bool (ev_op (ev_var rfl) (ev_tup ev_nil rfl (by decide)) ?_)
    rw [oEq_P (n := 5) mv.eqP rfl (by decide)]
    obtain ⟨y, ys, e⟩ := mv.cons
    rw [e, eqvW_tcn]
  refine es_seq (es_ifF (et_orF h0 ht) es_next) (es_ret (ev_cb (ev_cons (lc_eq (hz _ rfl) (lcs_pure (fun _ => true) (fun _ => .bl true) (fun w hw => ?_) [] (by rw [List.length_map]; show 0 + _ ≤ _; omega))) ev_nil) ?_))
  · obtain ⟨p, hp, rfl⟩ := List.mem_map.mp hw
    exact ⟨_, rfl, rfl, fun _ => ev_call (ev_cons (ev_var rfl) (ev_cons (ev_var rfl) ev_nil)) (hi p hp)⟩
  · have e : ((List.filter (fun _ => true) (ps.map fun p => W.d (.tup [p.1, p.2]))).map fun _ => D.bl true) = (ps.map fun _ => true).map .bl := by
      rw [List.filter_eq_self.mpr fun _ _ => rfl, List.map_map, List.map_map]
      rfl
    rw [List.nil_append, e, oAll_1]
    congr 3
    rw [List.all_map, List.all_eq_true]
    intro p _
    rfl
theorem is_move_eq (mv : Mv) (m : Mem) (h : mv.ok) : m_is_move [.d mv.D] m = .ok (.d (.bl true)) m := by
  cases mv with
  | swap t1 d1 t2 d2 =>
    refine move_ok (ps := [(.str "p", eD t1 d1), (.str "p", eD t2 d2)]) _ (fun ρ hρ => ?_) (by simp) (fun p hp => ?_) rfl
    · unfold iZipA
      rw [ev_cons (ev_op ev_c (ev_op (ev_var hρ) ev_c (ixt_ok rfl)) rfl) (ev_cons (w := .d (.tup [eD t1 d1, eD t2 d2])) (by unfold fSl; rw [ev_var hρ, R.bind_ok]; rfl) ev_nil)]
      rfl
    · simp only [List.mem_cons, List.not_mem_nil, or_false] at hp
      rcases hp with rfl | rfl
      · exact item_p t1 d1 m h.1
      · exact item_p t2 d2 m h.2
  | carry t1 d1 t2 d2 =>
    refine move_ok (ps := [(.str "p", eD t1 d1), (.str "p", eD t2 d2)]) _ (fun ρ hρ => ?_) (by simp) (fun p hp => ?_) rfl
    · unfold iZipA
      rw [ev_cons (ev_op ev_c (ev_op (ev_var hρ) ev_c (ixt_ok rfl)) rfl) (ev_cons (w := .d (.tup [eD t1 d1, eD t2 d2])) (by unfold fSl; rw [ev_var hρ, R.bind_ok]; rfl) ev_nil)]
      rfl
    · simp only [List.mem_cons, List.not_mem_nil, or_false] at hp
      rcases hp with rfl | rfl
      · exact item_p t1 d1 m h.1
      · exact item_p t2 d2 m h.2
  | cut k =>
    refine move_ok (ps := [(.str "k", .int k)]) _ (fun ρ hρ => ?_) (by simp) (fun p hp => ?_) rfl
    · unfold iZipA
      rw [ev_cons (ev_op ev_c (ev_op (ev_var hρ) ev_c (ixt_ok rfl)) rfl) (ev_cons (w := .d (.tup [.int k])) (by unfold fSl; rw [ev_var hρ, R.bind_ok]; rfl) ev_nil)]
      rfl
    · simp only [List.mem_cons, List.not_mem_nil, or_false] at hp
      subst hp
      exact item_k k m h
  | turn t n =>
    refine move_ok (ps := [(.str "e", .str (endS t)), (.str "b", .int n)]) _ (fun ρ hρ => ?_) (by simp) (fun p hp => ?_) rfl
    · unfold iZipA
      rw [ev_cons (ev_op ev_c (ev_op (ev_var hρ) ev_c (ixt_ok rfl)) rfl) (ev_cons (w := .d (.tup [.str (endS t), .int n])) (by unfold fSl; rw [ev_var hρ, R.bind_ok]; rfl) ev_nil)]
      rfl
    · simp only [List.mem_cons, List.not_mem_nil, or_false] at hp
      rcases hp with rfl | rfl
      · exact item_e t m
      · exact item_b n m h
  | over =>
    refine move_ok (ps := []) _ (fun ρ hρ => ?_) (by simp) (fun p hp => by cases hp) rfl
    · unfold iZipA
      rw [ev_cons (ev_op ev_c (ev_op (ev_var hρ) ev_c (ixt_ok rfl)) rfl) (ev_cons (w := .d (.tup [])) (by unfold fSl; rw [ev_var hρ, R.bind_ok]; rfl) ev_nil)]
      rfl
  | face t d =>
    refine move_ok (ps := [(.str "p", eD t d)]) _ (fun ρ hρ => ?_) (by simp) (fun p hp => ?_) rfl
    · unfold iZipA
      rw [ev_cons (ev_op ev_c (ev_op (ev_var hρ) ev_c (ixt_ok rfl)) rfl) (ev_cons (w := .d (.tup [eD t d])) (by unfold fSl; rw [ev_var hρ, R.bind_ok]; rfl) ev_nil)]
      rfl
    · simp only [List.mem_cons, List.not_mem_nil, or_false] at hp
      subst hp
      exact item_p t d m h
theorem max_eq (a b : Nat) : (if (b : Int) > (a : Int) then (b : Int) else (a : Int)) = ((max a b : Nat) : Int) := by
  split <;> omega
theorem depth_of_eq (mv : Mv) (m : Mem) : m_depth_of [.d mv.D] m = .ok (.d (.int (mv.reach : Int))) m := by
  refine fn_m rfl ?_
  show b_depth_of [some (.d mv.D)] m = _
  cases mv with
  | swap t1 d1 t2 d2 =>
    have e : b_depth_of [some (.d (Mv.swap t1 d1 t2 d2).D)] m = .rt (.d (.int ((if (d2 : Int) > (d1 : Int) then (d2 : Int) else (d1 : Int)) + 1))) m := rfl
    rw [e, max_eq]
    rfl
  | carry t1 d1 t2 d2 =>
    have e : b_depth_of [some (.d (Mv.carry t1 d1 t2 d2).D)] m = .rt (.d (.int ((if (d2 : Int) > (d1 : Int) then (d2 : Int) else (d1 : Int)) + 1))) m := rfl
    rw [e, max_eq]
    rfl
  | cut k =>
    have e : b_depth_of [some (.d (Mv.cut k).D)] m = .rt (.d (.int (if k < 0 then -k else k))) m := rfl
    have e2 : (if k < 0 then -k else k) = (k.natAbs : Int) := by split <;> omega
    rw [e, e2]
    rfl
  | turn t n => rfl
  | over => rfl
  | face t d => rfl
/-! ### the law's words -/
theorem ldepth_eq (mv : Mv) (m : Mem) : m__law_depth [.d mv.D] m = .ok (.d (.int (mv.reach : Int))) m := by
  refine fn_m rfl ?_
  show b__law_depth [some (.d mv.D), none] m = _
  have mx : ∀ a c : Nat, oMax [.d (.lst [.int a, .int c])] m = .ok (.d (.int ((max a c : Nat) : Int))) m := fun a c => by
    have e : oMax [.d (.lst [.int (a : Int), .int (c : Int)])] m = .ok (.d (.int (max (a : Int) (c : Int)))) m := rfl
    rw [e]
    congr 3
    omega
  cases mv with
  | swap t1 d1 t2 d2 =>
    unfold b__law_depth
    refine es_seq (es_ifF (et_bool (ev_op (ev_op (ev_var rfl) ev_c (ixt_ok rfl)) ev_c rfl)) es_next) (es_seq (es_ifF (et_bool (ev_op (ev_op (ev_var rfl) ev_c (ixt_ok rfl)) ev_c rfl)) es_next) (es_seq (es_ifF (et_bool (ev_op (ev_op (ev_var rfl) ev_c (ixt_ok rfl)) ev_c rfl)) es_next) (es_ret (ev_op (ev_cb (ev_cons (w := .d (.lst [.int d1, .int d2])) rfl ev_nil) (mx d1 d2)) ev_c rfl))))
  | carry t1 d1 t2 d2 =>
    unfold b__law_depth
    refine es_seq (es_ifF (et_bool (ev_op (ev_op (ev_var rfl) ev_c (ixt_ok rfl)) ev_c rfl)) es_next) (es_seq (es_ifF (et_bool (ev_op (ev_op (ev_var rfl) ev_c (ixt_ok rfl)) ev_c rfl)) es_next) (es_seq (es_ifF (et_bool (ev_op (ev_op (ev_var rfl) ev_c (ixt_ok rfl)) ev_c rfl)) es_next) (es_ret (ev_op (ev_cb (ev_cons (w := .d (.lst [.int d1, .int d2])) rfl ev_nil) (mx d1 d2)) ev_c rfl))))
  | cut k =>
    have e : b__law_depth [some (.d (Mv.cut k).D), none] m = .rt (.d (.int (if k < 0 then -k else k))) m := rfl
    have e2 : (if k < 0 then -k else k) = (k.natAbs : Int) := by split <;> omega
    rw [e, e2]
    rfl
  | turn t n => rfl
  | over => rfl
  | face t d => rfl
theorem of_eqS (b : Bag) (rest : Mem) (xs : List D) (x : D) (h0 : 0 < xs.length) (hl : xs.length ≤ 100000) (hx : xs[b.val xs.length]? = some x) : m__law_of [.m 0, .d (.lst xs)] (b.mo :: rest) = .ok (.d x) ((b.nxt xs.length).mo :: rest) := by
  have h : b__law_of [some (.m 0), some (.d (.lst xs))] (b.mo :: rest) = .rt (.d x) ((b.nxt xs.length).mo :: rest) := by
    unfold b__law_of
    refine es_ret (ev_op (ev_var rfl) (ev_call (ev_cons (ev_var rfl) (ev_cons (ev_cb (ev_cons (ev_var rfl) ev_nil) oLen_l) ev_nil)) (pull_eq b rest xs.length h0 (Nat.lt_of_le_of_lt hl (by decide)))) (ixl_ok ?_))
    rw [atI_nat]
    exact hx
  have z := fn_ret (mu := false) (np := 2) (N := 2) (ws := [.m 0, .d (.lst xs)]) rfl h
  show fnOf false 2 2 b__law_of _ _ = _
  rw [z, leave_d]
  show R.ok _ (List.take (rest.length + 1) _) = _
  rw [List.take_succ_cons, List.take_length]
theorem end_eq (b : Bag) (rest : Mem) (deep : Nat) (hd : deep < 10 ^ 100) : ∃ (b' : Bag) (t : Bool) (d : Nat), m__law_end [.m 0, .d (.int deep)] (b.mo :: rest) = .ok (.d (eD t d)) (b'.mo :: rest) ∧ d ≤ deep := by
  obtain ⟨t, et⟩ : ∃ t : Bool, t = decide (b.val 2 = 0) := ⟨_, rfl⟩
  obtain ⟨b1, e1⟩ : ∃ b1, b1 = b.nxt 2 := ⟨_, rfl⟩
  have hv := b.val_lt (k := 2) (by decide)
  have ho := of_eqS b rest [.str "top", .str "bottom"] (.str (endS t)) (by decide) (by decide) (by
    rw [et]
    show ([D.str "top", D.str "bottom"] : List D)[b.val 2]? = _
    have hv' : b.val 2 = 0 ∨ b.val 2 = 1 := by omega
    rcases hv' with h | h <;> rw [h] <;> rfl)
  have hl : ([D.str "top", D.str "bottom"] : List D).length = 2 := rfl
  rw [hl, ← e1] at ho
  have hp := pull_eq b1 rest (deep + 1) (by omega) (by omega)
  have hv2 := b1.val_lt (k := deep + 1) (by omega)
  refine ⟨b1.nxt (deep + 1), t, b1.val (deep + 1), ?_, by omega⟩
  have h : b__law_end [some (.m 0), some (.d (.int deep))] (b.mo :: rest) = .rt (.d (eD t (b1.val (deep + 1)))) ((b1.nxt (deep + 1)).mo :: rest) := by
    unfold b__law_end
    exact es_ret (ev_tup (ev_cons (ev_call (ev_cons (ev_var rfl) (ev_cons (ev_lst (ev_cons ev_c (ev_cons ev_c ev_nil)) rfl (by decide)) ev_nil)) ho) (ev_cons (ev_call (ev_cons (ev_var rfl) (ev_cons (ev_op (ev_var rfl) ev_c oAdd_ii) ev_nil)) hp) ev_nil)) rfl (show 2 ≤ 100000 by decide))
  have z := fn_ret (mu := false) (np := 2) (N := 2) (ws := [.m 0, .d (.int deep)]) rfl h
  show fnOf false 2 2 b__law_end _ _ = _
  rw [z, leave_d]
  show R.ok _ (List.take (rest.length + 1) _) = _
  rw [List.take_succ_cons, List.take_length]
/-- a move that the law draws -/
def Mv.bnd (k : Nat) : Mv → Prop
  | .swap _ d1 _ d2 => d1 ≤ k ∧ d2 ≤ k
  | .carry _ d1 _ d2 => d1 ≤ k ∧ d2 ≤ k
  | .cut c => c.natAbs ≤ k + 1
  | .turn _ n => n ≤ k + 1
  | .over => True
  | .face _ d => d ≤ k
theorem Mv.bnd_ok {mv : Mv} {k : Nat} (h : mv.bnd k) (hk : k ≤ 399) : mv.ok := by
  cases mv with
  | swap t1 d1 t2 d2 => exact ⟨Nat.le_trans h.1 hk, Nat.le_trans h.2 hk⟩
  | carry t1 d1 t2 d2 => exact ⟨Nat.le_trans h.1 hk, Nat.le_trans h.2 hk⟩
  | cut c => exact Nat.le_trans h (by omega)
  | turn t n => exact Nat.le_trans h (by omega)
  | over => trivial
  | face t d => exact Nat.le_trans h hk
theorem Mv.bnd_reach {mv : Mv} {k : Nat} (h : mv.bnd k) : mv.reach ≤ k + 1 := by
  cases mv with
  | swap t1 d1 t2 d2 => have := h.1; have := h.2; show max d1 d2 + 1 ≤ _; omega
  | carry t1 d1 t2 d2 => have := h.1; have := h.2; show max d1 d2 + 1 ≤ _; omega
  | cut c => exact h
  | turn t n => exact h
  | over => exact Nat.zero_le _
  | face t d => have : d ≤ k := h; show d + 1 ≤ _; omega
theorem move_eq (b : Bag) (rest : Mem) (deep : Nat) (hd : deep < 10 ^ 99) : ∃ (b' : Bag) (mv : Mv), m__law_move [.m 0, .d (.int deep)] (b.mo :: rest) = .ok (.d mv.D) (b'.mo :: rest) ∧ mv.bnd deep := by
  obtain ⟨b1, e1⟩ : ∃ b1, b1 = b.nxt 9 := ⟨_, rfl⟩
  obtain ⟨k, ek⟩ : ∃ k, k = b.val 9 := ⟨_, rfl⟩
  have hk : k < 9 := by rw [ek]; exact b.val_lt (by decide)
  have hpick : fCall m__law_pull (fCons (fVar 0) (fCons (fC (.int 9)) fNil)) [some (.m 0), some (.d (.int deep)), none] (b.mo :: rest) = .ok (.d (.int k)) (b1.mo :: rest) := by
    rw [ek, e1]
    exact ev_call (ev_cons (ev_var rfl) (ev_cons ev_c ev_nil)) (pull_eq b rest 9 (by decide) (by decide))
  have fin : ∀ (b' : Bag) (mv : Mv), b__law_move [some (.m 0), some (.d (.int deep)), none] (b.mo :: rest) = .rt (.d mv.D) (b'.mo :: rest) → m__law_move [.m 0, .d (.int deep)] (b.mo :: rest) = .ok (.d mv.D) (b'.mo :: rest) := fun b' mv h => by
    have z := fn_ret (mu := false) (np := 2) (N := 3) (ws := [.m 0, .d (.int deep)]) rfl h
    show fnOf false 2 3 b__law_move _ _ = _
    rw [z, leave_d]
    show R.ok _ (List.take (rest.length + 1) _) = _
    rw [List.take_succ_cons, List.take_length]
  have lt : ∀ (j : Nat) (m : Mem), gBool (fOp oLt (fVar 2) (fC (.int j))) [some (.m 0), some (.d (.int deep)), some (.d (.int k))] m = .ok (decide ((k : Int) < (j : Int))) m := fun j m => et_bool (ev_op (ev_var rfl) ev_c oLt_ii)
  have eq : ∀ (j : Nat) (m : Mem), gBool (fOp oEq (fVar 2) (fC (.int j))) [some (.m 0), some (.d (.int deep)), some (.d (.int k))] m = .ok (decide ((k : Int) = (j : Int))) m := fun j m => et_bool (ev_op (ev_var rfl) ev_c oEq_ii)
  have callE : ∀ (b : Bag), ∃ (b' : Bag) (t : Bool) (d : Nat), fCall m__law_end (fCons (fVar 0) (fCons (fVar 1) fNil)) [some (.m 0), some (.d (.int deep)), some (.d (.int k))] (b.mo :: rest) = .ok (.d (eD t d)) (b'.mo :: rest) ∧ d ≤ deep := fun b => by
    obtain ⟨b', t, d, h1, h2⟩ := end_eq b rest deep (by omega)
    exact ⟨b', t, d, ev_call (ev_cons (ev_var rfl) (ev_cons (ev_var rfl) ev_nil)) h1, h2⟩
  by_cases h3 : k < 3
  · obtain ⟨b2, t1, d1, c1, l1⟩ := callE b1
    obtain ⟨b3, t2, d2, c2, l2⟩ := callE b2
    have go : ∀ (x : Str) (mv : Mv), mv.D = .tup [.str x, eD t1 d1, eD t2 d2] → fOp oIx (fLst (fCons (fC (.str "swap")) (fCons (fC (.str "carry")) (fCons (fC (.str "carry")) fNil)))) (fVar 2) [some (.m 0), some (.d (.int deep)), some (.d (.int k))] (b1.mo :: rest) = .ok (.d (.str x)) (b1.mo :: rest) → b__law_move [some (.m 0), some (.d (.int deep)), none] (b.mo :: rest) = .rt (.d mv.D) (b3.mo :: rest) := by
      intro x mv hD hx
      rw [hD]
      unfold b__law_move
      refine es_seq (es_set hpick) (es_seqR (es_ifT ((lt 3 _).trans (by rw [decide_eq_true (by omega)])) (es_ret (ev_tup (ev_cons hx (ev_cons c1 (ev_cons c2 ev_nil))) rfl (show 3 ≤ 100000 by decide)))))
    by_cases h0 : k = 0
    · refine ⟨b3, .swap t1 d1 t2 d2, fin b3 _ (go "swap" _ rfl ?_), l1, l2⟩
      rw [h0]; rfl
    · refine ⟨b3, .carry t1 d1 t2 d2, fin b3 _ (go "carry" _ rfl ?_), l1, l2⟩
      have hk' : k = 1 ∨ k = 2 := by omega
      rcases hk' with h | h <;> rw [h] <;> rfl
  · have n3 : gBool (fOp oLt (fVar 2) (fC (.int 3))) [some (.m 0), some (.d (.int deep)), some (.d (.int k))] (b1.mo :: rest) = .ok false (b1.mo :: rest) := by
      have := lt 3 (b1.mo :: rest)
      rw [decide_eq_false (by omega)] at this
      exact this
    by_cases h6 : k < 6
    · obtain ⟨v, ev⟩ : ∃ v, v = b1.val (2 * deep + 3) := ⟨_, rfl⟩
      have hv := b1.val_lt (k := 2 * deep + 3) (by omega)
      have hp := pull_eq b1 rest (2 * deep + 3) (by omega) (by omega)
      refine ⟨b1.nxt (2 * deep + 3), .cut ((v : Int) - deep - 1), fin _ _ ?_, by show Int.natAbs _ ≤ _; omega⟩
      unfold b__law_move
      refine es_seq (es_set hpick) (es_seq (es_ifF n3 es_next) (es_seqR (es_ifT ((lt 6 _).trans (by rw [decide_eq_true (by omega)])) (es_ret (ev_tup (ws := [.d (.str "cut"), .d (.int ((v : Int) - deep - 1))]) (ev_cons ev_c (ev_cons (ev_op (ev_op (ev_call (ev_cons (ev_var rfl) (ev_cons (w := .d (.int ((2 * deep + 3 : Nat) : Int))) (ev_op (ev_op ev_c (ev_var rfl) (mul_ok (small_of (by decide)) (small_nat (by omega)))) ev_c oAdd_ii) ev_nil)) hp) (ev_var rfl) oSub_ii) ev_c (by rw [oSub_ii, ev])) ev_nil)) rfl (show 2 ≤ 100000 by decide))))))
    · have n6 : gBool (fOp oLt (fVar 2) (fC (.int 6))) [some (.m 0), some (.d (.int deep)), some (.d (.int k))] (b1.mo :: rest) = .ok false (b1.mo :: rest) := by
        have := lt 6 (b1.mo :: rest)
        rw [decide_eq_false (by omega)] at this
        exact this
      by_cases e6 : k = 6
      · obtain ⟨t, et⟩ : ∃ t : Bool, t = decide (b1.val 2 = 0) := ⟨_, rfl⟩
        obtain ⟨b2, eb2⟩ : ∃ b2, b2 = b1.nxt 2 := ⟨_, rfl⟩
        have hv := b1.val_lt (k := 2) (by decide)
        have ho := of_eqS b1 rest [.str "top", .str "bottom"] (.str (endS t)) (by decide) (by decide) (by
          rw [et]
          show ([D.str "top", D.str "bottom"] : List D)[b1.val 2]? = _
          have hv' : b1.val 2 = 0 ∨ b1.val 2 = 1 := by omega
          rcases hv' with h | h <;> rw [h] <;> rfl)
        rw [show ([D.str "top", D.str "bottom"] : List D).length = 2 from rfl, ← eb2] at ho
        have hp := pull_eq b2 rest (deep + 2) (by omega) (by omega)
        have hv2 := b2.val_lt (k := deep + 2) (by omega)
        refine ⟨b2.nxt (deep + 2), .turn t (b2.val (deep + 2)), fin _ _ ?_, by show _ ≤ _; omega⟩
        unfold b__law_move
        refine es_seq (es_set hpick) (es_seq (es_ifF n3 es_next) (es_seq (es_ifF n6 es_next) (es_seqR (es_ifT ((eq 6 _).trans (by rw [decide_eq_true (by omega)])) (es_ret (ev_tup (ev_cons ev_c (ev_cons (ev_call (ev_cons (ev_var rfl) (ev_cons (ev_lst (ev_cons ev_c (ev_cons ev_c ev_nil)) rfl (by decide)) ev_nil)) ho) (ev_cons (ev_call (ev_cons (ev_var rfl) (ev_cons (ev_op (ev_var rfl) ev_c oAdd_ii) ev_nil)) hp) ev_nil))) rfl (show 3 ≤ 100000 by decide)))))))
      · have n7 : gBool (fOp oEq (fVar 2) (fC (.int 6))) [some (.m 0), some (.d (.int deep)), some (.d (.int k))] (b1.mo :: rest) = .ok false (b1.mo :: rest) := by
          have := eq 6 (b1.mo :: rest)
          rw [decide_eq_false (by omega)] at this
          exact this
        by_cases e7 : k = 7
        · refine ⟨b1, .over, fin _ _ ?_, trivial⟩
          unfold b__law_move
          exact es_seq (es_set hpick) (es_seq (es_ifF n3 es_next) (es_seq (es_ifF n6 es_next) (es_seq (es_ifF n7 es_next) (es_ret (ev_ifT ((eq 7 _).trans (by rw [decide_eq_true (by omega)])) (ev_tup (ev_cons ev_c ev_nil) rfl (show 1 ≤ 100000 by decide)))))))
        · obtain ⟨b2, t, d, c1, l1⟩ := callE b1
          refine ⟨b2, .face t d, fin _ _ ?_, l1⟩
          unfold b__law_move
          exact es_seq (es_set hpick) (es_seq (es_ifF n3 es_next) (es_seq (es_ifF n6 es_next) (es_seq (es_ifF n7 es_next) (es_ret (ev_ifF ((eq 7 _).trans (by rw [decide_eq_false (by omega)])) (ev_tup (ev_cons ev_c (ev_cons c1 ev_nil)) rfl (show 2 ≤ 100000 by decide)))))))
end GD
namespace GD
open PySem PySem.Spec PyProof.Rows L2
noncomputable section
def L1_Word___init__ : Ex :=
    (sIf (gNot (gTest (fCall m_is_move (fCons (fVar 3) fNil))))
    (sRaise "BadMove" "at" (fVar 2))
    sNext)
def b_Word___init__ : Ex :=
    (sSeq (sFor (iEnumA (fCons (fVar 1) fNil)) (tgUn 2 (tgCons (tgName 2) (tgCons (tgName 3) tgNil)))
    L1_Word___init__)
    (sSeq (sIf (gBool (fOp oGt (fCB oLen (fCons (fVar 1) fNil)) (fUn (oCon [("Word", .int 40)] "MOST_MOVES") (fVar 0))))
    (sRaise "TooLong" "limit" (fUn (oCon [("Word", .int 40)] "MOST_MOVES") (fVar 0)))
    sNext)
    (sSeq (sIf (gBool (fOp oGt (fCB oSum (fCons (fLc (iSeq (fVar 1)) (tgName 3) gYes (fCall m_depth_of (fCons (fVar 3) fNil)) [3]) fNil)) (fUn (oCon [("Word", .int 60)] "MOST_REACH") (fVar 0))))
    (sRaise "TooLong" "limit" (fUn (oCon [("Word", .int 60)] "MOST_REACH") (fVar 0)))
    sNext)
    (sFldSet ["Word"] "steps" (fCB oTuple (fCons (fVar 1) fNil)) (fVar 0)))))
def m_Word___init__ : Fn := fnStar 1 (fnOf false 2 4 b_Word___init__)
def m_Word : Fn := newO true "Word" m_Word___init__
def b_Word___eq__ : Ex :=
    (sRet (fAnd (fCB (oIsiC "Word") (fCons (fVar 1) (fCons (fC (.gl "Word")) fNil))) (fOp oEq (fUn (oFld ["Word"] "steps") (fVar 0)) (fUn (oFld ["Word"] "steps") (fVar 1)))))
def m_Word___eq__ : Fn := fnOf false 2 2 b_Word___eq__
end
/-! ### loops and comprehensions, by lists of anything -/
theorem lc_map {α : Type} {it : EvL} {g : Tg} {a : Ev} {vs : List Nat} {ρ : Env} {m m0 : Mem} {l : List α} (e : α → W) (f : α → D) (hi : it ρ m0 = .ok (l.map e) m) (h : ∀ x ∈ l, ∃ ρ1, g (e x) (wipeE ρ vs) m = .ok ρ1 m ∧ a ρ1 m = .ok (.d (f x)) m) (hl : l.length ≤ 100000) :
    fLc it g gYes a vs ρ m0 = .ok (.d (.lst (l.map f))) m := by
  have key : ∀ (l : List α) (acc : List D), (∀ x ∈ l, ∃ ρ1, g (e x) (wipeE ρ vs) m = .ok ρ1 m ∧ a ρ1 m = .ok (.d (f x)) m) → acc.length + l.length ≤ 100000 → lcs g gYes a (wipeE ρ vs) (l.map e) acc m = .ok (acc ++ l.map f) m := by
    intro l
    induction l with
    | nil => intro acc _ _; simp [lcs]
    | cons x l ih =>
      intro acc h hl
      obtain ⟨ρ1, h1, h2⟩ := h x (List.mem_cons_self ..)
      have hl' : acc.length < 100000 := by simp at hl; omega
      simp only [List.map_cons, lcs, h1, R.bind_ok, gYes, if_true, h2, if_pos hl']
      rw [ih (acc ++ [f x]) (fun y hy => h y (List.mem_cons_of_mem _ hy)) (by simp at hl ⊢; omega)]
      simp
  unfold fLc
  rw [hi, R.bind_ok, key l [] h (by simpa using hl)]
  simp
theorem loop_rel {α S : Type} {g : Tg} {b : Ex} (e : α → W) (st : S → α → S) (I : S → Env → Mem → Prop) : ∀ (l : List α) (s : S) (ρ : Env) (m : Mem),
    (∀ s x ρ m, x ∈ l → I s ρ m → ∃ ρ1 m1 ρ2 m2, g (e x) ρ m = .ok ρ1 m1 ∧ b ρ1 m1 = .nx ρ2 m2 ∧ I (st s x) ρ2 m2) → I s ρ m → ∃ ρ' m', loop g b (l.map e) ρ m = .nx ρ' m' ∧ I (l.foldl st s) ρ' m'
  | [], s, ρ, m, _, hI => ⟨ρ, m, rfl, hI⟩
  | x :: l, s, ρ, m, h, hI => by
    obtain ⟨ρ1, m1, ρ2, m2, h1, h2, h3⟩ := h s x ρ m (List.mem_cons_self ..) hI
    obtain ⟨ρ', m', e1, e2⟩ := loop_rel e st I l (st s x) ρ2 m2 (fun s y ρ m hy => h s y ρ m (List.mem_cons_of_mem _ hy)) h3
    exact ⟨ρ', m', loop_cons h1 h2 e1, e2⟩
theorem enumD_map {α : Type} (f : α → D) : ∀ (l : List α) (i : Nat), enumD i (l.map f) = (l.zipIdx i).map fun p => W.d (.tup [.int (p.2 : Int), f p.1])
  | [], i => rfl
  | x :: l, i => by simp [enumD, enumD_map f l (i + 1)]
/-! ### words -/
def wD (mvs : List Mv) : D := .obj "Word" ["steps"] [.tup (mvs.map Mv.D)]
def reaches (mvs : List Mv) : Nat := (mvs.map Mv.reach).sum
/-- a word -/
structure Wok (mvs : List Mv) : Prop where
  ok : ∀ mv ∈ mvs, mv.ok
  len : mvs.length ≤ 40
  rch : reaches mvs ≤ 60
def sentF (n : Int) (mvs : List Mv) (r : Int × Bool) : Int × Bool := mvs.foldl (fun r mv => ((mv.img n r.1).1, !decide (r.2 = (mv.img n r.1).2))) r
@[simp] theorem fld_w (mvs : List Mv) (m : Mem) : oFld ["Word"] "steps" (.d (wD mvs)) m = .ok (.d (.tup (mvs.map Mv.D))) m := Eq.trans rfl rfl
@[simp] theorem ins_w (mvs : List Mv) (m : Mem) : insOf (.d (wD mvs)) m = some (("Word" : Str), [("steps" : Str)], [D.tup (mvs.map Mv.D)]) := Eq.trans rfl rfl
@[simp] theorem look_w {α : Type} (a : α) : List.lookup ("Word" : Str) [("Word", a)] = some a := Eq.trans rfl rfl
theorem Wok.nil : Wok [] := ⟨fun _ h => by simp at h, by simp, by simp [reaches]⟩
theorem rngL_map (n : Nat) : rngL 0 (n : Int) = (List.range n).map fun k : Nat => W.d (.int (k : Int)) := by
  unfold rngL
  simp
theorem rng_eq {la : EvL} {ρ : Env} {m m1 : Mem} (n : Nat) (hn : n < 2 ^ 60) (h : la ρ m = .ok [.d (.int (n : Int))] m1) : iRange1 la ρ m = .ok ((List.range n).map fun k : Nat => W.d (.int (k : Int))) m1 := by
  unfold iRange1
  rw [h, R.bind_ok]
  dsimp only
  rw [if_pos (by omega), rngL_map]
/-! ### a word made -/
theorem init_step (k : Nat) (ds : D) (i : Int) (mv : Mv) (hm : mv.ok) (m : Mem) : L1_Word___init__ [some (.m k), some (.d ds), some (.d (.int i)), some (.d mv.D)] m = .nx [some (.m k), some (.d ds), some (.d (.int i)), some (.d mv.D)] m := by
  simp [L1_Word___init__, is_move_eq mv m hm, truth]
theorem intsD_map {α : Type} (f : α → Int) : ∀ l : List α, intsD (l.map fun x => D.int (f x)) = some (l.map f)
  | [] => rfl
  | x :: l => by simp [intsD, intsD_map f l]
theorem depth_lc (mvs : List Mv) (ρ : Env) (m : Mem) (hl : mvs.length ≤ 100000) (it : EvL) (h : it ρ m = .ok (mvs.map (W.d ∘ Mv.D)) m) (h3 : 3 < ρ.length) : fLc it (tgName 3) gYes (fCall m_depth_of (fCons (fVar 3) fNil)) [3] ρ m = .ok (.d (.lst (mvs.map fun mv => D.int (mv.reach : Int)))) m :=
  lc_map (l := mvs) (W.d ∘ Mv.D) (fun mv => D.int (mv.reach : Int)) h (fun mv _ => ⟨_, rfl, by simp [wipeE, depth_of_eq, h3]⟩) hl
theorem sum_nat (l : List Nat) : (l.map fun x : Nat => (x : Int)).sum = ((l.sum : Nat) : Int) := by
  induction l with
  | nil => rfl
  | cons x l ih => simp [ih]
theorem dats_map {α : Type} (f : α → D) : ∀ l : List α, dats (l.map (W.d ∘ f)) = some (l.map f)
  | [] => rfl
  | x :: l => by simp [dats_map f l]
theorem init_body (mvs : List Mv) (hw : Wok mvs) (m : Mem) : ∃ ρ, b_Word___init__ [some (.m m.length), some (.d (.tup (mvs.map Mv.D))), none, none] (m ++ [.ins "Word" [] []]) = .nx ρ (m ++ [.ins "Word" ["steps"] [.tup (mvs.map Mv.D)]]) := by
  obtain ⟨M, eM⟩ : ∃ M, M = m ++ [MO.ins "Word" [] []] := ⟨_, rfl⟩
  obtain ⟨ρ', m', e1, o2, o3, e2, e3⟩ := loop_rel (g := tgUn 2 (tgCons (tgName 2) (tgCons (tgName 3) tgNil))) (b := L1_Word___init__) (fun p : Mv × Nat => W.d (.tup [.int (p.2 : Int), p.1.D])) (fun (s : Unit) _ => s)
    (fun _ ρ m' => ∃ o2 o3, ρ = [some (.m m.length), some (.d (.tup (mvs.map Mv.D))), o2, o3] ∧ m' = M) (mvs.zipIdx 0) () [some (.m m.length), some (.d (.tup (mvs.map Mv.D))), none, none] M
    (fun r p ρ m1 hp ⟨o2, o3, e2, e3⟩ => by
      subst e2 e3
      refine ⟨_, _, _, _, by simp, init_step m.length _ (p.2 : Int) p.1 (hw.ok _ ?_) _, _, _, rfl, rfl⟩
      exact (List.mem_zipIdx hp).2.2 ▸ List.getElem_mem _) ⟨none, none, rfl, rfl⟩
  rw [← enumD_map] at e1
  subst e2 e3
  have hd := depth_lc mvs [some (.m m.length), some (.d (.tup (mvs.map Mv.D))), o2, o3] m' (by have := hw.len; omega) (iSeq (fVar 1)) (by simp) (by simp)
  have hs : ((mvs.map fun mv => (mv.reach : Int))).sum = ((reaches mvs : Nat) : Int) := by
    unfold reaches
    rw [← sum_nat, List.map_map]
    rfl
  have h1 := hw.len
  have h2 := hw.rch
  refine ⟨[some (.m m.length), some (.d (.tup (mvs.map Mv.D))), o2, o3], ?_⟩
  rw [← eM]
  have hc : ∀ (f : Str) (v : Int), oCon [("Word", D.int v)] f (.m m.length) m' = .ok (.d (.int v)) m' := fun f v => by
    rw [eM]
    unfold oCon insOf
    simp
  have g1 : ¬ (40 : Int) < (mvs.length : Int) := by omega
  have g2 : ¬ (60 : Int) < ((reaches mvs : Nat) : Int) := by omega
  have hk : m'[m.length]? = some (MO.ins "Word" [] []) := by rw [eM]; simp
  have hset : m'.set m.length (.ins "Word" ["steps"] [.tup (mvs.map Mv.D)]) = m ++ [.ins "Word" ["steps"] [.tup (mvs.map Mv.D)]] := by rw [eM]; simp
  simp [b_Word___init__, iEnumA, itemsD, e1, hc, hd, oSum, lstOf, intsD_map, hs, g1, g2, sFldSet, oTuple, hk, putNs, putVs, hset]
theorem new_eq (mvs : List Mv) (hw : Wok mvs) (m : Mem) : m_Word (mvs.map (W.d ∘ Mv.D)) m = .ok (.d (wD mvs)) m := by
  obtain ⟨ρ, e⟩ := init_body mvs hw m
  have h1 := hw.len
  have e2 : m_Word___init__ (.m m.length :: mvs.map (W.d ∘ Mv.D)) (m ++ [.ins "Word" [] []]) = .ok (.d .non) (m ++ [.ins "Word" ["steps"] [.tup (mvs.map Mv.D)]]) := by
    unfold m_Word___init__ fnStar
    have hl : (mvs.map Mv.D).length ≤ 100000 := by rw [List.length_map]; omega
    have hd := dats_map Mv.D mvs
    simp only [List.length_cons, List.drop_succ_cons, List.drop_zero, List.take_succ_cons, List.take_zero]
    rw [if_pos (by omega), hd]
    dsimp only
    rw [if_pos hl, e_fn]
    simp [e, leave_d, List.take_of_length_le]
  unfold m_Word newO
  rw [e2]
  simp [wD]
theorem weq_eq (a b : List Mv) (m : Mem) (r : Bool) (h : oEq (.d (.tup (a.map Mv.D))) (.d (.tup (b.map Mv.D))) m = .ok (.d (.bl r)) m) : m_Word___eq__ [.d (wD a), .d (wD b)] m = .ok (.d (.bl r)) m := by
  refine e_fnr (ws := [.d (wD a), .d (wD b)]) _ ?_ rfl
  simp [b_Word___eq__, oIsiC, h]
end GD
/-! LD: where a card comes from. -/
namespace GD
open PySem PySem.Spec PyProof.Rows L2
def Mv.back (mv : Mv) (n q : Int) : Int × Bool := match mv with
  | .swap t1 d1 t2 d2 => if q = pl t2 d2 n then (pl t1 d1 n, false) else if q = pl t1 d1 n then (pl t2 d2 n, false) else (q, false)
  | .carry t1 d1 t2 d2 => (carr (pl t2 d2 n) (pl t1 d1 n) q, false)
  | .cut k => ((q + k) % n, false)
  | .turn t m => if pl t q n < m then (pl t (m - 1 - pl t q n) n, true) else (q, false)
  | .face t d => (q, decide (q = pl t d n))
  | .over => (n - 1 - q, true)
/-- the place from which the card at q comes, and whether it was turned -/
def Mv.inv (mv : Mv) (n q : Int) : Int × Bool := if n < (mv.reach : Int) then (q, false) else mv.back n q
theorem pl_rng {t : Bool} {d n : Int} (h0 : 0 ≤ d) (h1 : d < n) : 0 ≤ pl t d n ∧ pl t d n < n := by
  unfold pl
  cases t with
  | true => rw [if_pos rfl]; omega
  | false => rw [if_neg (by decide)]; omega
theorem pl_pl {t : Bool} {d n : Int} : pl t (pl t d n) n = d := by
  unfold pl
  cases t with
  | true => rw [if_pos rfl, if_pos rfl]
  | false => rw [if_neg (by decide), if_neg (by decide)]; omega
theorem carr_rng {s g p n : Int} (hs : 0 ≤ s ∧ s < n) (hg : 0 ≤ g ∧ g < n) (hp : 0 ≤ p ∧ p < n) : 0 ≤ carr s g p ∧ carr s g p < n := by
  unfold carr
  split
  · exact hg
  · split
    · omega
    · split <;> omega
theorem carr_carr {s g p : Int} : carr s g (carr g s p) = p := by
  unfold carr
  by_cases h1 : p = g
  · rw [if_pos h1, if_pos rfl, h1]
  · rw [if_neg h1]
    by_cases h2 : g < p ∧ p ≤ s
    · rw [if_pos h2]
      by_cases h3 : p - 1 = s
      · omega
      · rw [if_neg h3, if_neg (by omega), if_pos (by omega)]
        omega
    · rw [if_neg h2]
      by_cases h3 : s ≤ p ∧ p < g
      · rw [if_pos h3, if_neg (by omega), if_pos (by omega)]
        omega
      · rw [if_neg h3, if_neg (by omega), if_neg (by omega), if_neg (by omega)]
theorem mod_back {q k n : Int} (h0 : 0 ≤ q) (h1 : q < n) : ((q + k) % n - k) % n = q := by
  rw [Int.emod_sub_emod, Int.add_sub_cancel, Int.emod_eq_of_lt h0 h1]
theorem mod_forth {p k n : Int} (h0 : 0 ≤ p) (h1 : p < n) : ((p - k) % n + k) % n = p := by
  rw [Int.emod_add_emod, Int.sub_add_cancel, Int.emod_eq_of_lt h0 h1]
/-- the card at q came from there -/
theorem Mv.inv_ok (mv : Mv) {n q : Int} (h0 : 0 ≤ q) (h1 : q < n) : (0 ≤ (mv.inv n q).1 ∧ (mv.inv n q).1 < n) ∧ mv.img n (mv.inv n q).1 = (q, (mv.inv n q).2) := by
  unfold Mv.inv Mv.img
  by_cases hr : n < (mv.reach : Int)
  · rw [if_pos hr, if_pos hr]
    exact ⟨⟨h0, h1⟩, rfl⟩
  rw [if_neg hr, if_neg hr]
  generalize hb : mv.back n q = r
  cases mv with
  | swap t1 d1 t2 d2 =>
    have hm : ((max d1 d2 + 1 : Nat) : Int) ≤ n := by have : ¬ n < ((max d1 d2 + 1 : Nat) : Int) := hr; omega
    have r1 := pl_rng (t := t1) (d := d1) (n := n) (by omega) (by omega)
    have r2 := pl_rng (t := t2) (d := d2) (n := n) (by omega) (by omega)
    unfold Mv.back at hb
    unfold Mv.go
    dsimp only at hb ⊢
    by_cases e2 : q = pl t2 d2 n
    · rw [if_pos e2] at hb
      subst hb
      dsimp only
      rw [if_pos rfl, e2]
      exact ⟨r1, rfl⟩
    · rw [if_neg e2] at hb
      by_cases e1 : q = pl t1 d1 n
      · rw [if_pos e1] at hb
        subst hb
        dsimp only
        refine ⟨r2, ?_⟩
        by_cases e3 : pl t2 d2 n = pl t1 d1 n
        · exact absurd (e1.trans e3.symm) e2
        · rw [if_neg e3, if_pos rfl, e1]
      · rw [if_neg e1] at hb
        subst hb
        dsimp only
        rw [if_neg e1, if_neg e2]
        exact ⟨⟨h0, h1⟩, rfl⟩
  | carry t1 d1 t2 d2 =>
    have hm : ((max d1 d2 + 1 : Nat) : Int) ≤ n := by have : ¬ n < ((max d1 d2 + 1 : Nat) : Int) := hr; omega
    have r1 := pl_rng (t := t1) (d := d1) (n := n) (by omega) (by omega)
    have r2 := pl_rng (t := t2) (d := d2) (n := n) (by omega) (by omega)
    subst hb
    unfold Mv.back Mv.go
    dsimp only
    rw [carr_carr]
    exact ⟨carr_rng r2 r1 ⟨h0, h1⟩, rfl⟩
  | cut k =>
    subst hb
    unfold Mv.back Mv.go
    dsimp only
    rw [mod_back h0 h1]
    exact ⟨⟨Int.emod_nonneg _ (by omega), Int.emod_lt_of_pos _ (by omega)⟩, rfl⟩
  | turn t m =>
    have hm : (m : Int) ≤ n := by have : ¬ n < (m : Int) := hr; omega
    have rq := pl_rng (t := t) h0 h1
    unfold Mv.back at hb
    unfold Mv.go
    dsimp only at hb ⊢
    by_cases h : pl t q n < (m : Int)
    · rw [if_pos h] at hb
      subst hb
      dsimp only
      rw [pl_pl, if_pos (by omega)]
      refine ⟨pl_rng (by omega) (by omega), ?_⟩
      have e : (m : Int) - 1 - ((m : Int) - 1 - pl t q n) = pl t q n := by omega
      rw [e, pl_pl]
    · rw [if_neg h] at hb
      subst hb
      dsimp only
      rw [if_neg h]
      exact ⟨⟨h0, h1⟩, rfl⟩
  | over =>
    subst hb
    unfold Mv.back Mv.go
    dsimp only
    refine ⟨by omega, ?_⟩
    congr 1
    omega
  | face t d =>
    subst hb
    unfold Mv.back Mv.go
    exact ⟨⟨h0, h1⟩, rfl⟩
/-- the card at p goes there, and the card there came from p -/
theorem Mv.img_ok (mv : Mv) {n p : Int} (h0 : 0 ≤ p) (h1 : p < n) : (0 ≤ (mv.img n p).1 ∧ (mv.img n p).1 < n) ∧ mv.inv n (mv.img n p).1 = (p, (mv.img n p).2) := by
  unfold Mv.inv Mv.img
  by_cases hr : n < (mv.reach : Int)
  · rw [if_pos hr, if_pos hr]
    exact ⟨⟨h0, h1⟩, rfl⟩
  rw [if_neg hr, if_neg hr]
  generalize hb : mv.go n p = r
  cases mv with
  | swap t1 d1 t2 d2 =>
    have hm : ((max d1 d2 + 1 : Nat) : Int) ≤ n := by have : ¬ n < ((max d1 d2 + 1 : Nat) : Int) := hr; omega
    have r1 := pl_rng (t := t1) (d := d1) (n := n) (by omega) (by omega)
    have r2 := pl_rng (t := t2) (d := d2) (n := n) (by omega) (by omega)
    unfold Mv.go at hb
    unfold Mv.back
    dsimp only at hb ⊢
    by_cases e2 : p = pl t1 d1 n
    · rw [if_pos e2] at hb
      subst hb
      dsimp only
      rw [if_pos rfl, e2]
      exact ⟨r2, rfl⟩
    · rw [if_neg e2] at hb
      by_cases e1 : p = pl t2 d2 n
      · rw [if_pos e1] at hb
        subst hb
        dsimp only
        refine ⟨r1, ?_⟩
        by_cases e3 : pl t1 d1 n = pl t2 d2 n
        · exact absurd (e1.trans e3.symm) e2
        · rw [if_neg e3, if_pos rfl, e1]
      · rw [if_neg e1] at hb
        subst hb
        dsimp only
        rw [if_neg e1, if_neg e2]
        exact ⟨⟨h0, h1⟩, rfl⟩
  | carry t1 d1 t2 d2 =>
    have hm : ((max d1 d2 + 1 : Nat) : Int) ≤ n := by have : ¬ n < ((max d1 d2 + 1 : Nat) : Int) := hr; omega
    have r1 := pl_rng (t := t1) (d := d1) (n := n) (by omega) (by omega)
    have r2 := pl_rng (t := t2) (d := d2) (n := n) (by omega) (by omega)
    subst hb
    unfold Mv.back Mv.go
    dsimp only
    rw [carr_carr]
    exact ⟨carr_rng r1 r2 ⟨h0, h1⟩, rfl⟩
  | cut k =>
    subst hb
    unfold Mv.back Mv.go
    dsimp only
    rw [mod_forth h0 h1]
    exact ⟨⟨Int.emod_nonneg _ (by omega), Int.emod_lt_of_pos _ (by omega)⟩, rfl⟩
  | turn t m =>
    have hm : (m : Int) ≤ n := by have : ¬ n < (m : Int) := hr; omega
    have rq := pl_rng (t := t) h0 h1
    unfold Mv.go at hb
    unfold Mv.back
    dsimp only at hb ⊢
    by_cases h : pl t p n < (m : Int)
    · rw [if_pos h] at hb
      subst hb
      dsimp only
      rw [pl_pl, if_pos (by omega)]
      refine ⟨pl_rng (by omega) (by omega), ?_⟩
      have e : (m : Int) - 1 - ((m : Int) - 1 - pl t p n) = pl t p n := by omega
      rw [e, pl_pl]
    · rw [if_neg h] at hb
      subst hb
      dsimp only
      rw [if_neg h]
      exact ⟨⟨h0, h1⟩, rfl⟩
  | over =>
    subst hb
    unfold Mv.back Mv.go
    dsimp only
    refine ⟨by omega, ?_⟩
    congr 1
    omega
  | face t d =>
    subst hb
    unfold Mv.back Mv.go
    exact ⟨⟨h0, h1⟩, rfl⟩
end GD
namespace GD
open PySem PySem.Spec PyProof.Rows L2
noncomputable section
def b__law_moves : Ex :=
    (sRet (fLc (iRange1 (fCons (fCall m__law_pull (fCons (fVar 0) (fCons (fOp oAdd (fVar 1) (fC (.int 1))) fNil))) fNil)) (tgName 3) gYes (fCall m__law_move (fCons (fVar 0) (fCons (fVar 2) fNil))) [3]))
def m__law_moves : Fn := fnOf false 3 4 b__law_moves
end
/-! ### comprehensions that draw -/
theorem lcs_draw {α B Y : Type} {g : Tg} {a : Ev} {ρ : Env} (mm : B → Mem) (e : α → W) (f : Y → D) (P : Y → Prop) : ∀ (l : List α) (b : B) (acc : List D),
    (∀ x ∈ l, ∀ b, ∃ ρ1 b' y, g (e x) ρ (mm b) = .ok ρ1 (mm b) ∧ a ρ1 (mm b) = .ok (.d (f y)) (mm b') ∧ P y) → acc.length + l.length ≤ 100000 → ∃ (b' : B) (ys : List Y), lcs g gYes a ρ (l.map e) acc (mm b) = .ok (acc ++ ys.map f) (mm b') ∧ ys.length = l.length ∧ ∀ y ∈ ys, P y
  | [], b, acc, _, _ => ⟨b, [], by simp [lcs], rfl, fun _ h => by simp at h⟩
  | x :: l, b, acc, h, hl => by
    obtain ⟨ρ1, b1, y, h1, h2, h3⟩ := h x (List.mem_cons_self ..) b
    obtain ⟨b2, ys, e1, e2, e3⟩ := lcs_draw mm e f P l b1 (acc ++ [f y]) (fun z hz => h z (List.mem_cons_of_mem _ hz)) (by simp at hl ⊢; omega)
    have hl' : acc.length < 100000 := by simp at hl; omega
    refine ⟨b2, y :: ys, ?_, by simp [e2], fun z hz => ?_⟩
    · simp only [List.map_cons, lcs, h1, R.bind_ok, gYes, if_true, h2, if_pos hl', e1]
      simp
    · rcases List.mem_cons.mp hz with q | q
      · subst q; exact h3
      · exact e3 z q
theorem lc_draw {α B Y : Type} {it : EvL} {g : Tg} {a : Ev} {vs : List Nat} {ρ : Env} {m0 : Mem} {b : B} (mm : B → Mem) (l : List α) (e : α → W) (f : Y → D) (P : Y → Prop) (hi : it ρ m0 = .ok (l.map e) (mm b))
    (h : ∀ x ∈ l, ∀ b, ∃ ρ1 b' y, g (e x) (wipeE ρ vs) (mm b) = .ok ρ1 (mm b) ∧ a ρ1 (mm b) = .ok (.d (f y)) (mm b') ∧ P y) (hl : l.length ≤ 100000) :
    ∃ (b' : B) (ys : List Y), fLc it g gYes a vs ρ m0 = .ok (.d (.lst (ys.map f))) (mm b') ∧ ys.length = l.length ∧ ∀ y ∈ ys, P y := by
  obtain ⟨b', ys, e1, e2, e3⟩ := lcs_draw mm e f P l b [] h (by simpa using hl)
  refine ⟨b', ys, ?_, e2, e3⟩
  unfold fLc
  rw [hi, R.bind_ok, e1]
  simp
theorem e_fnb {mu : Bool} {np N : Nat} {ws : List W} {x x' : MO} {rest : Mem} {d : D} (p : Ex) (h : p (ws.map some ++ List.replicate (N - ws.length) none) (x :: rest) = .rt (.d d) (x' :: rest)) (hl : ws.length = np) : fnOf mu np N p ws (x :: rest) = .ok (.d d) (x' :: rest) := by
  rw [e_fn, if_pos hl, h]
  show R.ok (W.d d) ((x' :: rest).take (x :: rest).length) = _
  rw [List.take_of_length_le (by simp)]
/-- moves that the law draws -/
theorem moves_drawn (b : Bag) (rest : Mem) (most deep : Nat) (hm : most ≤ 1000) (hd : deep ≤ 1000) : ∃ (b' : Bag) (mvs : List Mv), m__law_moves [.m 0, .d (.int (most : Int)), .d (.int (deep : Int))] (b.mo :: rest) = .ok (.d (.lst (mvs.map Mv.D))) (b'.mo :: rest) ∧ mvs.length ≤ most ∧ ∀ mv ∈ mvs, mv.bnd deep := by
  have hp := pull_eq b rest (most + 1) (by omega) (by have : (1002 : Nat) < 10 ^ 200 := by decide +kernel
                                                      omega)
  have hv := b.val_lt (k := most + 1) (by omega)
  obtain ⟨b', mvs, e1, e2, e3⟩ := lc_draw (g := tgName 3) (a := fCall m__law_move (fCons (fVar 0) (fCons (fVar 2) fNil))) (vs := [3]) (it := iRange1 (fCons (fCall m__law_pull (fCons (fVar 0) (fCons (fOp oAdd (fVar 1) (fC (.int 1))) fNil))) fNil))
    (ρ := [some (.m 0), some (.d (.int (most : Int))), some (.d (.int (deep : Int))), none]) (m0 := b.mo :: rest) (b := b.nxt (most + 1)) (fun b : Bag => b.mo :: rest) (List.range (b.val (most + 1))) (fun k : Nat => W.d (.int (k : Int))) Mv.D (Mv.bnd deep)
    (rng_eq _ (by omega) (by
      have e : ((most : Int) + 1) = ((most + 1 : Nat) : Int) := by omega
      simp only [e_cons, e_call, e_var, e_op, e_c, e_nil, R.bind_ok, List.getElem?_cons_succ, List.getElem?_cons_zero, oAdd_ii, e, hp]))
    (fun k _ b => by
      obtain ⟨b', mv, q1, q2⟩ := move_eq b rest deep (by have : (1001 : Nat) < 10 ^ 99 := by decide +kernel
                                                         omega)
      exact ⟨_, b', mv, rfl, by simp [wipeE, q1], q2⟩) (by rw [List.length_range]; omega)
  refine ⟨b', mvs, e_fnb (ws := [.m 0, .d (.int (most : Int)), .d (.int (deep : Int))]) _ ?_ rfl, by rw [e2, List.length_range]; omega, e3⟩
  simp [b__law_moves, e1]
/-! ### the words' plays -/
theorem Wok.sub {a b : List Mv} (h : Wok (a ++ b)) : Wok a ∧ Wok b := by
  have h1 := h.len
  have h2 := h.rch
  unfold reaches at h2
  simp at h1 h2
  exact ⟨⟨fun mv hm => h.ok mv (List.mem_append_left _ hm), by omega, by unfold reaches; omega⟩, ⟨fun mv hm => h.ok mv (List.mem_append_right _ hm), by omega, by unfold reaches; omega⟩⟩
/-- few small moves are a word -/
theorem Wok.of {mvs : List Mv} {k d : Nat} (hl : mvs.length ≤ k) (hb : ∀ mv ∈ mvs, mv.bnd d) (hk : k ≤ 40) (hd : d ≤ 399) (hr : k * (d + 1) ≤ 60) : Wok mvs := by
  refine ⟨fun mv hm => Mv.bnd_ok (hb mv hm) hd, by omega, ?_⟩
  have key : ∀ l : List Mv, (∀ mv ∈ l, mv.bnd d) → reaches l ≤ l.length * (d + 1) := by
    intro l
    induction l with
    | nil => intro _; simp [reaches]
    | cons mv l ih =>
      intro h
      have h1 := Mv.bnd_reach (h mv (List.mem_cons_self ..))
      have h2 := ih fun x hx => h x (List.mem_cons_of_mem _ hx)
      unfold reaches at h2 ⊢
      simp [Nat.add_mul] at h2 ⊢
      omega
  have h1 := key mvs hb
  have h2 : mvs.length * (d + 1) ≤ k * (d + 1) := Nat.mul_le_mul_right _ hl
  omega
end GD
namespace GD
open PySem PySem.Spec PyProof.Rows L2
theorem plain_mv (mv : Mv) (k : Nat) : plainD (k + 3) mv.D = true := by
  cases mv <;> simp [Mv.D, plainD, eD]
theorem oOwnEq_refl (a : List Mv) (m : Mem) (ha : a.length ≤ 1000) : oOwnEq [("Word", m_Word___eq__)] (.d (wD a)) (.d (wD a)) m = .ok (.d (.bl true)) m := by
  have h : eqP 5 (.tup (a.map Mv.D)) = true := by
    simp only [eqP, List.all_map, List.all_eq_true]
    intro mv _
    cases mv <;> simp [Mv.D, eqP, eD, so_swap, so_carry, so_cut, so_turn, so_over, so_face, so_end]
  have e := oEq_P (n := 5) (x := .tup (a.map Mv.D)) (y := .tup (a.map Mv.D)) (m := m) h h (by decide)
  rw [eqvW_refl h] at e
  have z := weq_eq a a m true e
  unfold oOwnEq oOwn
  simp [z]
end GD
namespace GD
open PySem PySem.Spec PyProof.Rows L2
noncomputable section
def b_Word___len__ : Ex :=
    (sRet (fCB oLen (fCons (fUn (oFld ["Word"] "steps") (fVar 0)) fNil)))
def m_Word___len__ : Fn := fnOf false 1 1 b_Word___len__
end
theorem wlen_eq (mvs : List Mv) (m : Mem) : m_Word___len__ [.d (wD mvs)] m = .ok (.d (.int (mvs.length : Int))) m := by
  refine e_fnr (ws := [.d (wD mvs)]) _ ?_ rfl
  simp [b_Word___len__]
end GD
/-! LD2: cards of a list, moved. -/
namespace GD
open PySem PySem.Spec PyProof.Rows L2
abbrev Cd := Int × Bool
/-- cs' is cs with the cards moved -/
def Deals (mv : Mv) (cs cs' : List Cd) : Prop := cs'.length = cs.length ∧ ∀ q : Nat, q < cs.length → ∃ c, cs[((mv.inv cs.length q).1).toNat]? = some c ∧ cs'[q]? = some (c.1, xor c.2 (mv.inv cs.length q).2)
def flip (cs : List Cd) : List Cd := cs.reverse.map fun c => (c.1, !c.2)
theorem flip_len (cs : List Cd) : (flip cs).length = cs.length := by unfold flip; simp
theorem flip_get {cs : List Cd} {q : Nat} (h : q < cs.length) : (flip cs)[q]? = (cs[cs.length - 1 - q]?).map fun c => (c.1, !c.2) := by
  unfold flip
  rw [List.getElem?_map, List.getElem?_reverse h]
def Mv.deal (mv : Mv) (cs : List Cd) : List Cd := if (cs.length : Int) < mv.reach then cs else match mv with
  | .over => flip cs
  | .cut k => cs.drop (k % cs.length).toNat ++ cs.take (k % cs.length).toNat
  | .turn true m => flip (cs.take m) ++ cs.drop m
  | .turn false m => cs.take (cs.length - m) ++ flip (cs.drop (cs.length - m))
  | .face t d => cs.modify (pl t d cs.length).toNat fun c => (c.1, !c.2)
  | .swap t1 d1 t2 d2 => match cs[(pl t1 d1 cs.length).toNat]?, cs[(pl t2 d2 cs.length).toNat]? with
    | some a, some b => (cs.set (pl t1 d1 cs.length).toNat b).set (pl t2 d2 cs.length).toNat a
    | _, _ => cs
  | .carry t1 d1 t2 d2 => match cs[(pl t1 d1 cs.length).toNat]? with
    | some a => (cs.eraseIdx (pl t1 d1 cs.length).toNat).take (pl t2 d2 cs.length).toNat ++ [a] ++ (cs.eraseIdx (pl t1 d1 cs.length).toNat).drop (pl t2 d2 cs.length).toNat
    | none => cs
theorem get_some {cs : List Cd} {q : Nat} (h : q < cs.length) : ∃ c, cs[q]? = some c := ⟨cs[q], List.getElem?_eq_getElem h⟩
theorem deal_ok (mv : Mv) (cs : List Cd) : Deals mv cs (mv.deal cs) := by
  unfold Deals Mv.deal
  by_cases hr : (cs.length : Int) < mv.reach
  · rw [if_pos hr]
    refine ⟨rfl, fun q hq => ?_⟩
    obtain ⟨c, hc⟩ := get_some hq
    have e : mv.inv cs.length q = ((q : Int), false) := by unfold Mv.inv; rw [if_pos hr]
    rw [e]
    refine ⟨c, by simpa using hc, ?_⟩
    rw [hc]
    simp
  rw [if_neg hr]
  have ei : ∀ q : Nat, mv.inv cs.length q = mv.back cs.length q := fun q => by unfold Mv.inv; rw [if_neg hr]
  cases mv with
  | over =>
    dsimp only
    refine ⟨flip_len cs, fun q hq => ?_⟩
    obtain ⟨c, hc⟩ := get_some (cs := cs) (q := cs.length - 1 - q) (by omega)
    have e : ((Mv.over.inv cs.length q).1).toNat = cs.length - 1 - q := by rw [ei]; show ((cs.length : Int) - 1 - q).toNat = _; omega
    refine ⟨c, by rw [e]; exact hc, ?_⟩
    rw [flip_get hq, hc, ei]
    show some (c.1, !c.2) = some (c.1, xor c.2 true)
    simp
  | cut k =>
    dsimp only
    obtain ⟨a, ea⟩ : ∃ a, a = (k % cs.length).toNat := ⟨_, rfl⟩
    rw [← ea]
    refine ⟨by simp; omega, fun q hq => ?_⟩
    have hn : (0 : Int) < cs.length := by omega
    have ha0 : 0 ≤ k % (cs.length : Int) := Int.emod_nonneg _ (by omega)
    have ha1 : k % (cs.length : Int) < cs.length := Int.emod_lt_of_pos _ hn
    have ea' : (a : Int) = k % (cs.length : Int) := by omega
    have e1 : (((Mv.cut k).inv cs.length q).1) = ((q : Int) + a) % cs.length := by
      rw [ei, ea']
      show ((q : Int) + k) % cs.length = _
      rw [Int.add_emod_emod]
    have e2 : (((Mv.cut k).inv cs.length q).2) = false := by rw [ei]; rfl
    rw [e1, e2]
    by_cases h : q + a < cs.length
    · have e3 : (((q : Int) + a) % cs.length).toNat = q + a := by rw [Int.emod_eq_of_lt (by omega) (by omega)]; omega
      obtain ⟨c, hc⟩ := get_some h
      refine ⟨c, by rw [e3]; exact hc, ?_⟩
      rw [List.getElem?_append_left (by simp; omega), List.getElem?_drop, Nat.add_comm a q, hc]
      simp
    · have e3 : (((q : Int) + a) % cs.length).toNat = q + a - cs.length := by
        have : ((q : Int) + a) % cs.length = (q : Int) + a - cs.length := by
          rw [← Int.sub_emod_right, Int.emod_eq_of_lt (by omega) (by omega)]
        rw [this]; omega
      obtain ⟨c, hc⟩ := get_some (cs := cs) (q := q + a - cs.length) (by omega)
      refine ⟨c, by rw [e3]; exact hc, ?_⟩
      rw [List.getElem?_append_right (by simp; omega), List.length_drop, List.getElem?_take_of_lt (by omega)]
      have e4 : q - (cs.length - a) = q + a - cs.length := by omega
      rw [e4, hc]
      simp
  | turn t m =>
    have hm : m ≤ cs.length := by have : ¬ (cs.length : Int) < (m : Int) := hr; omega
    cases t with
    | true =>
      dsimp only
      refine ⟨by rw [List.length_append, flip_len]; simp; omega, fun q hq => ?_⟩
      by_cases h : q < m
      · have e : (Mv.turn true m).inv cs.length q = ((m : Int) - 1 - q, true) := by
          rw [ei]; show (if (q : Int) < (m : Int) then ((m : Int) - 1 - q, true) else ((q : Int), false)) = _; rw [if_pos (by omega)]
        rw [e]
        obtain ⟨c, hc⟩ := get_some (cs := cs) (q := m - 1 - q) (by omega)
        refine ⟨c, by dsimp only; rw [show ((m : Int) - 1 - q).toNat = m - 1 - q by omega]; exact hc, ?_⟩
        have lt : (cs.take m).length = m := by simp; omega
        rw [List.getElem?_append_left (by rw [flip_len, lt]; exact h), flip_get (by rw [lt]; exact h), lt, List.getElem?_take_of_lt (by omega), hc]
        simp
      · have e : (Mv.turn true m).inv cs.length q = ((q : Int), false) := by
          rw [ei]; show (if (q : Int) < (m : Int) then ((m : Int) - 1 - q, true) else ((q : Int), false)) = _; rw [if_neg (by omega)]
        rw [e]
        obtain ⟨c, hc⟩ := get_some hq
        refine ⟨c, by simpa using hc, ?_⟩
        have lt : (cs.take m).length = m := by simp; omega
        rw [List.getElem?_append_right (by rw [flip_len, lt]; omega), flip_len, lt, List.getElem?_drop, show m + (q - m) = q by omega, hc]
        simp
    | false =>
      dsimp only
      refine ⟨by rw [List.length_append, flip_len]; simp <;> omega, fun q hq => ?_⟩
      have lt : (cs.take (cs.length - m)).length = cs.length - m := by simp <;> omega
      have ld : (cs.drop (cs.length - m)).length = m := by simp; omega
      by_cases h : q < cs.length - m
      · have e : (Mv.turn false m).inv cs.length q = ((q : Int), false) := by
          rw [ei]; show (if (cs.length : Int) - 1 - q < (m : Int) then _ else ((q : Int), false)) = _; rw [if_neg (by omega)]
        rw [e]
        obtain ⟨c, hc⟩ := get_some hq
        refine ⟨c, by simpa using hc, ?_⟩
        rw [List.getElem?_append_left (by rw [lt]; exact h), List.getElem?_take_of_lt h, hc]
        simp
      · have e : (Mv.turn false m).inv cs.length q = ((cs.length : Int) - 1 - ((m : Int) - 1 - ((cs.length : Int) - 1 - q)), true) := by
          rw [ei]; show (if (cs.length : Int) - 1 - q < (m : Int) then _ else ((q : Int), false)) = _; rw [if_pos (by omega)]; rfl
        rw [e]
        obtain ⟨c, hc⟩ := get_some (cs := cs) (q := 2 * cs.length - m - 1 - q) (by omega)
        refine ⟨c, by dsimp only; rw [show ((cs.length : Int) - 1 - ((m : Int) - 1 - ((cs.length : Int) - 1 - q))).toNat = 2 * cs.length - m - 1 - q by omega]; exact hc, ?_⟩
        rw [List.getElem?_append_right (by rw [lt]; omega), lt, flip_get (by rw [ld]; omega), ld, List.getElem?_drop, show cs.length - m + (m - 1 - (q - (cs.length - m))) = 2 * cs.length - m - 1 - q by omega, hc]
        simp
  | face t d =>
    have hd : (d : Int) < cs.length := by have : ¬ (cs.length : Int) < ((d + 1 : Nat) : Int) := hr; omega
    have rp := pl_rng (t := t) (d := d) (n := cs.length) (by omega) hd
    dsimp only
    obtain ⟨a, ea⟩ : ∃ a, a = (pl t d cs.length).toNat := ⟨_, rfl⟩
    rw [← ea]
    refine ⟨by simp, fun q hq => ?_⟩
    obtain ⟨c, hc⟩ := get_some hq
    have e : (Mv.face t d).inv cs.length q = ((q : Int), decide ((q : Int) = pl t d cs.length)) := by rw [ei]; rfl
    rw [e]
    refine ⟨c, by simpa using hc, ?_⟩
    rw [List.getElem?_modify, hc]
    by_cases h : a = q
    · rw [decide_eq_true (by omega)]
      simp [h]
    · rw [decide_eq_false (by omega)]
      simp [h]
  | swap t1 d1 t2 d2 =>
    have hm : ((max d1 d2 + 1 : Nat) : Int) ≤ cs.length := by have : ¬ (cs.length : Int) < ((max d1 d2 + 1 : Nat) : Int) := hr; omega
    have r1 := pl_rng (t := t1) (d := d1) (n := cs.length) (by omega) (by omega)
    have r2 := pl_rng (t := t2) (d := d2) (n := cs.length) (by omega) (by omega)
    have eb : ∀ q : Nat, (Mv.swap t1 d1 t2 d2).inv cs.length q = if (q : Int) = pl t2 d2 cs.length then (pl t1 d1 cs.length, false) else if (q : Int) = pl t1 d1 cs.length then (pl t2 d2 cs.length, false) else ((q : Int), false) := fun q => by rw [ei]; rfl
    dsimp only
    generalize hx : pl t1 d1 cs.length = x at *
    generalize hy : pl t2 d2 cs.length = y at *
    obtain ⟨a, ha⟩ := get_some (cs := cs) (q := x.toNat) (by omega)
    obtain ⟨b, hb⟩ := get_some (cs := cs) (q := y.toNat) (by omega)
    rw [ha, hb]
    dsimp only
    refine ⟨by simp, fun q hq => ?_⟩
    rw [eb q]
    by_cases h2 : (q : Int) = y
    · rw [if_pos h2]
      refine ⟨a, ha, ?_⟩
      have e : y.toNat = q := by omega
      rw [e, List.getElem?_set_self (by simp; exact hq)]
      simp
    · rw [if_neg h2]
      by_cases h1 : (q : Int) = x
      · rw [if_pos h1]
        refine ⟨b, hb, ?_⟩
        have e : x.toNat = q := by omega
        rw [List.getElem?_set_ne (by omega), e, List.getElem?_set_self hq]
        simp
      · rw [if_neg h1]
        obtain ⟨c, hc⟩ := get_some hq
        refine ⟨c, by simpa using hc, ?_⟩
        rw [List.getElem?_set_ne (by omega), List.getElem?_set_ne (by omega), hc]
        simp
  | carry t1 d1 t2 d2 =>
    have hm : ((max d1 d2 + 1 : Nat) : Int) ≤ cs.length := by have : ¬ (cs.length : Int) < ((max d1 d2 + 1 : Nat) : Int) := hr; omega
    have r1 := pl_rng (t := t1) (d := d1) (n := cs.length) (by omega) (by omega)
    have r2 := pl_rng (t := t2) (d := d2) (n := cs.length) (by omega) (by omega)
    have eb : ∀ q : Nat, (Mv.carry t1 d1 t2 d2).inv cs.length q = (carr (pl t2 d2 cs.length) (pl t1 d1 cs.length) q, false) := fun q => by rw [ei]; rfl
    dsimp only
    generalize hx : pl t1 d1 cs.length = x at *
    generalize hy : pl t2 d2 cs.length = y at *
    obtain ⟨i, rfl⟩ : ∃ i : Nat, x = (i : Int) := ⟨x.toNat, by omega⟩
    obtain ⟨j, rfl⟩ : ∃ j : Nat, y = (j : Int) := ⟨y.toNat, by omega⟩
    simp only [Int.toNat_natCast]
    obtain ⟨a, ha⟩ := get_some (cs := cs) (q := i) (by omega)
    rw [ha]
    dsimp only
    have le : (cs.eraseIdx i).length = cs.length - 1 := by rw [List.length_eraseIdx, if_pos (by omega)]
    have lt : ((cs.eraseIdx i).take j).length = j := by rw [List.length_take, le]; omega
    refine ⟨by rw [List.length_append, List.length_append, lt, List.length_drop, le]; simp; omega, fun q hq => ?_⟩
    rw [eb q]
    dsimp only
    have ge : ∀ k : Nat, (cs.eraseIdx i)[k]? = if k < i then cs[k]? else cs[k + 1]? := fun k => List.getElem?_eraseIdx ..
    have fin : ∀ k : Nat, k < cs.length → carr (j : Int) (i : Int) (q : Int) = (k : Int) → ((cs.eraseIdx i).take j ++ [a] ++ (cs.eraseIdx i).drop j)[q]? = cs[k]? → ∃ c, cs[(carr (j : Int) (i : Int) (q : Int)).toNat]? = some c ∧ ((cs.eraseIdx i).take j ++ [a] ++ (cs.eraseIdx i).drop j)[q]? = some (c.1, xor c.2 false) := fun k hk e1 e2 => by
      obtain ⟨c, hc⟩ := get_some hk
      exact ⟨c, by rw [e1, Int.toNat_natCast]; exact hc, by rw [e2, hc]; simp⟩
    by_cases h1 : q = j
    · refine fin i (by omega) (by unfold carr; rw [if_pos (by omega)]) ?_
      rw [List.append_assoc, List.getElem?_append_right (by rw [lt]; omega), lt, h1, Nat.sub_self, ha]
      rfl
    · by_cases h2 : q < j
      · have el : ((cs.eraseIdx i).take j ++ [a] ++ (cs.eraseIdx i).drop j)[q]? = (cs.eraseIdx i)[q]? := by
          rw [List.append_assoc, List.getElem?_append_left (by rw [lt]; exact h2), List.getElem?_take_of_lt h2]
        by_cases h3 : q < i
        · refine fin q hq (by unfold carr; rw [if_neg (by omega), if_neg (by omega), if_neg (by omega)]) ?_
          rw [el, ge, if_pos h3]
        · refine fin (q + 1) (by omega) (by unfold carr; rw [if_neg (by omega), if_neg (by omega), if_pos (by omega)]; omega) ?_
          rw [el, ge, if_neg h3]
      · have el : ((cs.eraseIdx i).take j ++ [a] ++ (cs.eraseIdx i).drop j)[q]? = (cs.eraseIdx i)[q - 1]? := by
          rw [List.append_assoc, List.getElem?_append_right (by rw [lt]; omega), lt, List.getElem?_append_right (by simp; omega)]
          rw [List.getElem?_drop]
          congr 1
          simp
          omega
        by_cases h3 : q ≤ i
        · refine fin (q - 1) (by omega) (by unfold carr; rw [if_neg (by omega), if_pos (by omega)]; omega) ?_
          rw [el, ge, if_pos (by omega)]
        · refine fin q hq (by unfold carr; rw [if_neg (by omega), if_neg (by omega), if_neg (by omega)]) ?_
          rw [el, ge, if_neg (by omega), show q - 1 + 1 = q by omega]
end GD
/-! LD3: the law's dealing. -/
/-! LD4: the images by moving all cards. -/
namespace GD
open PySem PySem.Spec PyProof.Rows L2
/-- cs: the pile after a play that sends the place p to f p -/
structure Piled (n : Nat) (f : Nat → Cd) (cs : List Cd) : Prop where
  len : cs.length = n
  rng : ∀ p, p < n → 0 ≤ (f p).1 ∧ (f p).1 < n
  at_ : ∀ p, p < n → cs[((f p).1).toNat]? = some ((p : Int), (f p).2)
  sur : ∀ q, q < n → ∃ p, p < n ∧ (f p).1 = (q : Int)
/-- one move more -/
def goOn (mv : Mv) (n : Nat) (f : Nat → Cd) : Nat → Cd := fun p => ((mv.img n (f p).1).1, xor (f p).2 (mv.img n (f p).1).2)
theorem Piled.go {n : Nat} {f : Nat → Cd} {cs : List Cd} (h : Piled n f cs) (mv : Mv) : Piled n (goOn mv n f) (mv.deal cs) := by
  obtain ⟨d1, d2⟩ := deal_ok mv cs
  rw [h.len] at d1 d2
  refine ⟨d1, fun p hp => ?_, fun p hp => ?_, fun q hq => ?_⟩
  · obtain ⟨r1, r2⟩ := h.rng p hp
    exact (mv.img_ok r1 r2).1
  · obtain ⟨r1, r2⟩ := h.rng p hp
    obtain ⟨⟨i1, i2⟩, i3⟩ := mv.img_ok r1 r2
    show (mv.deal cs)[((mv.img n (f p).1).1).toNat]? = some ((p : Int), xor (f p).2 (mv.img n (f p).1).2)
    obtain ⟨q, eq⟩ : ∃ q : Nat, (mv.img n (f p).1).1 = (q : Int) := ⟨((mv.img n (f p).1).1).toNat, by omega⟩
    rw [eq] at i1 i2 i3 ⊢
    obtain ⟨c, hc, hd⟩ := d2 q (by omega)
    rw [i3] at hc hd
    dsimp only at hc hd
    rw [h.at_ p hp] at hc
    cases hc
    rw [Int.toNat_natCast, hd]
  · obtain ⟨⟨i1, i2⟩, i3⟩ := mv.inv_ok (n := n) (q := q) (by omega) (by omega)
    obtain ⟨p, hp, ep⟩ := h.sur ((mv.inv n q).1).toNat (by omega)
    refine ⟨p, hp, ?_⟩
    show (mv.img n (f p).1).1 = _
    rw [ep, show ((((mv.inv n q).1).toNat : Nat) : Int) = (mv.inv n q).1 by omega, i3]
/-! the mirror -/
end GD
namespace GD
open PySem PySem.Spec PyProof.Rows L2
theorem oNe_refl {n : Nat} {x : D} {m : Mem} (h : eqP n x = true) (hn : n ≤ 64) : oNe (.d x) (.d x) m = .ok (.d (.bl false)) m := by
  rw [oNe_P h h hn, eqvW_refl h]
  rfl
end GD
/-! GT: rules to reckon raises, lambdas, tries. -/
namespace GD
open PySem PySem.Spec PyProof.Rows L2
section
variable {ρ : Env} {m : Mem} {a : Ev} {p q : Ex} {w : W}
@[simp] theorem e_raise {c f : Str} : sRaise c f a ρ m = (a ρ m).lift ρ fun w m => match w with
    | .d x => if fmtB x = true then .xc c [f, "code"] [x, .str c] ρ m else .bad
    | .m _ => .bad := Eq.trans rfl rfl
@[simp] theorem e_lam {k : Nat} {P : Addr} {s : Str} {Z : LamZ} {i : Nat} : fLam k P s Z i ρ m = match m[k]? with
    | some (.tab P' q') => if P' = P ∧ q' = s then .ok (.d (.lam i Z)) m else .bad
    | _ => .bad := Eq.trans rfl rfl
theorem e_try {cs : List Str} {fh : XT → Fn} {Z : LamZ} {tbl : List Ev} {i : Nat} {f : Ev} {m' : Mem} {r : R W} (h : a ρ m = .ok (.d (.lam i Z)) m') (hi : tbl[i]? = some f) (hr : noX (tryR cs fh (f ρ m')) = r) : fTry cs fh Z tbl a ρ m = r := by
  unfold fTry
  rw [h]
  simp only [R.bind_ok, if_true, hi]
  exact hr
/-- the error is caught: code and field -/
theorem try_exc {cs : List Str} {fh : XT → Fn} {c f : Str} {v : D} {m' : Mem} {r : R W} (h : r = .exc c [f, "code"] [v, .str c] m') (hc : c ∈ cs) (hne : (f == ("code" : Str)) = false) (hf : ∀ x m, fh x [.d (.xin x [f, "code"] [v, .str c])] m = .ok (.d v) m) : noX (tryR cs fh r) = .ok (.d (.tup [.str c, v])) m' := by
  have z : allX (fun x => tryX fh x [f, "code"] [v, .str c] m') = .ok (.d (.tup [.str c, v])) m' := by
    refine allX_eq fun x => ?_
    unfold tryX
    have hl : ((([f, "code"] : List Str).zip [v, .str c]).lookup ("code" : Str)) = some (.str c) := by
      have h1 : (("code" : Str) == f) = false := by
        rw [Bool.eq_false_iff] at hne ⊢
        intro q
        rw [beq_iff_eq] at q
        exact hne (by rw [beq_iff_eq]; exact q.symm)
      simp only [List.zip_cons_cons, List.zip_nil_right, List.lookup, h1, beq_self_eq_true]
    rw [hl]
    simp only [hf, R.bind_ok]
  rw [h]
  unfold tryR
  simp only [if_pos hc, z, noX_ok]
theorem e_fnx {mu : Bool} {np N : Nat} {ws : List W} {c : Str} {ns : List Str} {vs : List D} {ρ' : Env} (p : Ex) (h : p (ws.map some ++ List.replicate (N - ws.length) none) m = .xc c ns vs ρ' m) (hl : ws.length = np) : fnOf mu np N p ws m = .exc c ns vs m := by
  unfold fnOf
  rw [if_pos hl, h]
  simp
@[simp] theorem e_methK {c nm : Str} {g : Fn} {pm : List W → List W → List W} {o : Ev} {la lb : EvL} : fMethK c nm g pm o la lb ρ m = (o ρ m).bind fun w m => match insOf w m with
    | some (c', ns, _) => if c' = c ∧ nm ∉ ns then (la ρ m).bind fun ws m => (lb ρ m).bind fun zs m => g (pm (w :: ws) zs) m else .bad
    | none => .bad := Eq.trans rfl rfl
@[simp] theorem e_tab {P : Addr} {s : Str} : sTab P s p q ρ m = match p ρ m with
    | .nx ρ' m' => q ρ' (m' ++ [.tab P s])
    | _ => .bad := Eq.trans rfl rfl
@[simp] theorem lift_xc {α : Type} {c : Str} {ns : List Str} {vs : List D} {k : α → Mem → RS} : (R.exc c ns vs m : R α).lift ρ k = .xc c ns vs ρ m := Eq.trans rfl rfl
theorem fmt_int {i : Int} (h1 : -(10 ^ 40) ≤ i) (h2 : i ≤ 10 ^ 40) : fmtB (.int i) = true := by
  unfold fmtB fmt1
  simp only [decide_eq_true_eq]
  omega
end
end GD
namespace GD
open PySem PySem.Spec PyProof.Rows L2
noncomputable section
def b__law_field (x : XT) : Ex :=
    (sSeq (sIf (gBool (fOp (oIn false) (fXf x "code" (fVar 0)) (fLst (fCons (fC (.str "BadPlace")) (fCons (fC (.str "NoPlace")) fNil)))))
    (sRet (fXf x "place" (fVar 0)))
    sNext)
    (sSeq (sIf (gBool (fOp (oIn false) (fXf x "code" (fVar 0)) (fLst (fCons (fC (.str "BadMove")) (fCons (fC (.str "BadText")) (fCons (fC (.str "BadRemainder")) (fCons (fC (.str "BadDeed")) fNil)))))))
    (sRet (fXf x "at" (fVar 0)))
    sNext)
    (sSeq (sIf (gBool (fOp (oIn false) (fXf x "code" (fVar 0)) (fLst (fCons (fC (.str "TooLong")) (fCons (fC (.str "TooWide")) (fCons (fC (.str "TooGreat")) (fCons (fC (.str "TooSmall")) (fCons (fC (.str "Full")) fNil))))))))
    (sRet (fXf x "limit" (fVar 0)))
    sNext)
    (sSeq (sIf (gBool (fOp (oIn false) (fXf x "code" (fVar 0)) (fLst (fCons (fC (.str "BadName")) (fCons (fC (.str "Taken")) (fCons (fC (.str "NoWord")) (fCons (fC (.str "NoPile")) (fCons (fC (.str "NoMark")) fNil))))))))
    (sRet (fXf x "name" (fVar 0)))
    sNext)
    (sSeq (sIf (gBool (fOp (oIn false) (fXf x "code" (fVar 0)) (fLst (fCons (fC (.str "InUse")) (fCons (fC (.str "NoWatch")) fNil)))))
    (sRet (fXf x "number" (fVar 0)))
    sNext)
    (sSeq (sIf (gBool (fOp oEq (fXf x "code" (fVar 0)) (fC (.str "BadSize"))))
    (sRet (fXf x "size" (fVar 0)))
    sNext)
    (sSeq (sIf (gBool (fOp oEq (fXf x "code" (fVar 0)) (fC (.str "BadRounds"))))
    (sRet (fXf x "rounds" (fVar 0)))
    sNext)
    (sSeq (sIf (gBool (fOp oEq (fXf x "code" (fVar 0)) (fC (.str "BadCapacity"))))
    (sRet (fXf x "value" (fVar 0)))
    sNext)
    (sRet (fIf (gBool (fOp oEq (fXf x "code" (fVar 0)) (fC (.str "BadPage")))) (fXf x "row" (fVar 0)) (fC .non)))))))))))
def m__law_field (x : XT) : Fn := fnOf false 1 1 (b__law_field x)
end
theorem oIn2 (c a b : Str) (m : Mem) (hc : PyData.strOk c = true) (h : ([a, b] : List Str).all PyData.strOk = true) : oIn false (.d (.str c)) (.d (.lst [.str a, .str b])) m = .ok (.d (.bl (decide (c ∈ [a, b])))) m := by
  have e : (decide (c ∈ [a, b])) = (([PyData.str a, PyData.str b] : List PyData).any fun z => PyData.eqv z (.str c)) := by
    rw [Bool.eq_iff_iff]
    simp [PyData.eqv]
    simp only [eq_comm (a := c)]
  rw [e]
  simp at h
  simp [oIn, lstOf, datOf, D.py, D.pyL, SeqAt.shaped, PyData.canLay0, PyData.canLayAll0, PyData.depth, PyData.depthAll, hc, h]
theorem oIn4 (c a b d e : Str) (m : Mem) (hc : PyData.strOk c = true) (h : ([a, b, d, e] : List Str).all PyData.strOk = true) : oIn false (.d (.str c)) (.d (.lst [.str a, .str b, .str d, .str e])) m = .ok (.d (.bl (decide (c ∈ [a, b, d, e])))) m := by
  have e : (decide (c ∈ [a, b, d, e])) = (([PyData.str a, PyData.str b, PyData.str d, PyData.str e] : List PyData).any fun z => PyData.eqv z (.str c)) := by
    rw [Bool.eq_iff_iff]
    simp [PyData.eqv]
    simp only [eq_comm (a := c)]
  rw [e]
  simp at h
  simp [oIn, lstOf, datOf, D.py, D.pyL, SeqAt.shaped, PyData.canLay0, PyData.canLayAll0, PyData.depth, PyData.depthAll, hc, h]
section
variable (x : XT) (c f : Str) (v : D) (m : Mem)
theorem xf_code (o : Env) (hne : (("code" : Str) == f) = false) : fXf x "code" (fVar 0) (some (.d (.xin x [f, "code"] [v, .str c])) :: o) m = .ok (.d (.str c)) m := by
  unfold fXf fVar
  simp [List.lookup, hne]
theorem xf_fld (o : Env) (ns : List Str) (vs : List D) : fXf x f (fVar 0) (some (.d (.xin x (f :: ns) (v :: vs))) :: o) m = .ok (.d v) m := by
  unfold fXf fVar
  simp [List.lookup]
end
theorem field_2 {c : Str} {v : D} (hc : PyData.strOk c = true) (n1 : c ∉ (["BadPlace", "NoPlace"] : List Str)) (h : c ∈ (["BadMove", "BadText", "BadRemainder", "BadDeed"] : List Str)) (x : XT) (m : Mem) : m__law_field x [.d (.xin x ["at", "code"] [v, .str c])] m = .ok (.d v) m := by
  have e1 := xf_code x c "at" v m [] (by decide +kernel)
  have e2 := xf_fld x "at" v m [] ["code"] [.str c]
  have q1 := oIn2 c "BadPlace" "NoPlace" m hc (by decide +kernel)
  have q2 := oIn4 c "BadMove" "BadText" "BadRemainder" "BadDeed" m hc (by decide +kernel)
  refine e_fnr _ ?_ rfl
  simp [-List.mem_cons, b__law_field, e1, e2, q1, q2, n1, h]
theorem try_BadMove {cs : List Str} {v : D} {m' : Mem} {r : R W} (h : r = .exc "BadMove" ["at", "code"] [v, .str "BadMove"] m') (hc : ("BadMove" : Str) ∈ cs) : noX (tryR cs m__law_field r) = .ok (.d (.tup [.str "BadMove", v])) m' :=
  try_exc h hc (by decide +kernel) fun x m => field_2 (by decide +kernel) (by decide +kernel) (by decide +kernel) x m
end GD
namespace GD
open PySem PySem.Spec PyProof.Rows L2
theorem pull_any (b : Bag) (rest : Mem) (n : Int) (h0 : 0 < n) (h1 : n < 10 ^ 199) : ∃ (b' : Bag) (v : Int), m__law_pull [.m 0, .d (.int n)] (b.mo :: rest) = .ok (.d (.int v)) (b'.mo :: rest) ∧ 0 ≤ v ∧ v < n := by
  obtain ⟨k, rfl⟩ := Int.eq_ofNat_of_zero_le (Int.le_of_lt h0)
  have hk : 0 < k := by omega
  have h2 : k < 10 ^ 200 := by
    have : (10 : Int) ^ 199 = ((10 ^ 199 : Nat) : Int) := by norm_cast
    have q : k < 10 ^ 199 := by omega
    exact Nat.lt_trans q (by decide +kernel)
  exact ⟨b.nxt k, (b.val k : Int), pull_eq b rest k hk h2, by omega, by have := b.val_lt hk; omega⟩
theorem of_any (b : Bag) (rest : Mem) (xs : List D) (h0 : 0 < xs.length) (hl : xs.length ≤ 100000) : ∃ (b' : Bag) (x : D), m__law_of [.m 0, .d (.lst xs)] (b.mo :: rest) = .ok (.d x) (b'.mo :: rest) ∧ x ∈ xs := by
  have hv := b.val_lt h0
  exact ⟨b.nxt xs.length, xs[b.val xs.length], of_eqS b rest xs _ h0 hl (by simp [hv]), List.getElem_mem _⟩
end GD
namespace GD
open PySem PySem.Spec PyProof.Rows L2
noncomputable section
def b_Word_reach : Ex :=
    (sRet (fCB oSum (fCons (fLc (iSeq (fUn (oFld ["Word"] "steps") (fVar 0))) (tgName 1) gYes (fCall m_depth_of (fCons (fVar 1) fNil)) [1]) fNil)))
def m_Word_reach : Fn := fnOf false 1 2 b_Word_reach
def b__law_reach : Ex :=
    (sRet (fCB oSum (fCons (fLc (iSeq (fVar 0)) (tgName 1) gYes (fCall m__law_depth (fCons (fVar 1) fNil)) [1]) fNil)))
def m__law_reach : Fn := fnOf false 1 2 b__law_reach
end
/-! sums of depths, sends, errors of sizes and places -/
theorem reaches_sum (mvs : List Mv) (m : Mem) : oSum [.d (.lst (mvs.map fun mv => D.int (mv.reach : Int)))] m = .ok (.d (.int (reaches mvs : Int))) m := by
  have hs : ((mvs.map fun mv => (mv.reach : Int))).sum = ((reaches mvs : Nat) : Int) := by
    unfold reaches
    rw [← sum_nat, List.map_map]
    rfl
  simp [oSum, lstOf, intsD_map, hs]
theorem wreach_eq (mvs : List Mv) (m : Mem) (hl : mvs.length ≤ 100000) : m_Word_reach [.d (wD mvs)] m = .ok (.d (.int (reaches mvs : Int))) m := by
  refine e_fnr (ws := [.d (wD mvs)]) _ ?_ rfl
  have hc := lc_map (l := mvs) (it := iSeq (fUn (oFld ["Word"] "steps") (fVar 0))) (g := tgName 1) (a := fCall m_depth_of (fCons (fVar 1) fNil)) (vs := [1]) (ρ := [some (.d (wD mvs)), none]) (m := m) (m0 := m) (W.d ∘ Mv.D) (fun mv => D.int (mv.reach : Int)) (by simp) (fun mv _ => ⟨_, rfl, by simp [wipeE, depth_of_eq]⟩) hl
  simp [b_Word_reach, hc, reaches_sum]
theorem lreach_eq (mvs : List Mv) (m : Mem) (hl : mvs.length ≤ 100000) : m__law_reach [.d (.lst (mvs.map Mv.D))] m = .ok (.d (.int (reaches mvs : Int))) m := by
  refine e_fnr (ws := [.d (.lst (mvs.map Mv.D))]) _ ?_ rfl
  have hc := lc_map (l := mvs) (it := iSeq (fVar 0)) (g := tgName 1) (a := fCall m__law_depth (fCons (fVar 1) fNil)) (vs := [1]) (ρ := [some (.d (.lst (mvs.map Mv.D))), none]) (m := m) (m0 := m) (W.d ∘ Mv.D) (fun mv => D.int (mv.reach : Int)) (by simp) (fun mv _ => ⟨_, rfl, by simp [wipeE, ldepth_eq]⟩) hl
  simp [b__law_reach, hc, reaches_sum]
/-! errors -/
theorem fmt_of {n : Int} (h0 : -1000000000000000000000000000000000 ≤ n) (h1 : n ≤ 1000000000000000000000000000000000) : fmtB (.int n) = true := fmt_int (by omega) (by omega)
theorem eqP_code (c : Str) (hc : PyData.strOk c = true) (i : Int) : eqP 5 (.tup [.str c, .int i]) = true := by simp [eqP, hc]
end GD
namespace GD
open PySem PySem.Spec PyProof.Rows L2
/-- a pair of a remainder and a modulus -/
abbrev PR := Int × Nat
def PR.ok (p : PR) : Prop := 0 < p.2 ∧ 0 ≤ p.1 ∧ p.1 < p.2
/-! ### all of them -/
def Cp (p q : PR) : Prop := (Nat.gcd p.2 q.2 : Int) ∣ p.1 - q.1
theorem Cp.symm {p q : PR} (h : Cp p q) : Cp q p := by
  unfold Cp at h ⊢
  rw [Nat.gcd_comm, ← Int.dvd_neg, Int.neg_sub]
  exact h
/-! ### the law's own words -/
/-- _law_of: one of the things -/
theorem of_eq (b : Bag) (rest : Mem) (xs : List D) (x : D) (h0 : 0 < xs.length) (hl : xs.length ≤ 100000) (hx : xs[b.val xs.length]? = some x) : m__law_of [.m 0, .d (.lst xs)] (b.mo :: rest) = .ok (.d x) ((b.nxt xs.length).mo :: rest) := by
  have h : b__law_of [some (.m 0), some (.d (.lst xs))] (b.mo :: rest) = .rt (.d x) ((b.nxt xs.length).mo :: rest) := by
    unfold b__law_of
    refine es_ret (ev_op (ev_var rfl) (ev_call (ev_cons (ev_var rfl) (ev_cons (ev_cb (ev_cons (ev_var rfl) ev_nil) oLen_l) ev_nil)) (pull_eq b rest xs.length h0 (Nat.lt_of_le_of_lt hl (by decide)))) (ixl_ok ?_))
    rw [atI_nat]
    exact hx
  have z := fn_ret (mu := false) (np := 2) (N := 2) (ws := [.m 0, .d (.lst xs)]) rfl h
  show fnOf false 2 2 b__law_of _ _ = _
  rw [z, leave_d]
  show R.ok _ (List.take (rest.length + 1) _) = _
  rw [List.take_succ_cons, List.take_length]
end GD
namespace GD
open PySem PySem.Spec PyProof.Rows L2
inductive F2 {α β : Type} (Q : α → β → Prop) : List α → List β → Prop
  | nil : F2 Q [] []
  | cons {x : α} {y : β} {xs : List α} {ys : List β} : Q x y → F2 Q xs ys → F2 Q (x :: xs) (y :: ys)
theorem F2.length {α β : Type} {Q : α → β → Prop} {xs : List α} {ys : List β} (h : F2 Q xs ys) : xs.length = ys.length := by
  induction h with
  | nil => rfl
  | cons _ _ ih => simp [ih]
theorem F2.map {α β : Type} {Q : α → β → Prop} {xs : List α} {ys : List β} (f : β → α) (h : F2 Q xs ys) (hf : ∀ x y, Q x y → f y = x) : ys.map f = xs := by
  induction h with
  | nil => rfl
  | cons q _ ih => simp [ih, hf _ _ q]
/-! comprehensions that draw, item by item; with a test -/
end GD
namespace GD
open PySem PySem.Spec PyProof.Rows L2
noncomputable section
def b__law_odd_moves : Ex :=
    (sSeq (sAsg (fTup (fCons (fTup (fCons (fC (.str "top")) (fCons (fC (.int 0)) fNil))) (fCons (fTup (fCons (fC (.str "bottom")) (fCons (fC (.int 400)) fNil))) fNil))) (tgUn 2 (tgCons (tgName 0) (tgCons (tgName 1) tgNil))))
    (sSeq (sAsg (fLst (fCons (fTup fNil) (fCons (fTup (fCons (fC (.str "swap")) fNil)) (fCons (fTup (fCons (fC (.str "swap")) (fCons (fVar 0) fNil))) (fCons (fTup (fCons (fC (.str "swap")) (fCons (fVar 0) (fCons (fTup (fCons (fC (.str "left")) (fCons (fC (.int 0)) fNil))) fNil)))) (fCons (fTup (fCons (fC (.str "swap")) (fCons (fVar 0) (fCons (fVar 1) fNil)))) (fCons (fTup (fCons (fC (.str "swap")) (fCons (fTup (fCons (fC (.str "top")) (fCons (fUn oNeg (fC (.int 1))) fNil))) (fCons (fVar 0) fNil)))) fNil))))))) (tgName 2))
    (sSeq (sAsg (fOp oAdd (fVar 2) (fLst (fCons (fTup (fCons (fC (.str "carry")) (fCons (fVar 0) (fCons (fVar 0) (fCons (fVar 0) fNil))))) (fCons (fTup (fCons (fC (.str "carry")) (fCons (fVar 1) (fCons (fVar 0) fNil)))) (fCons (fTup (fCons (fC (.str "cut")) (fCons (fC (.int 401)) fNil))) (fCons (fTup (fCons (fC (.str "cut")) (fCons (fUn oNeg (fC (.int 401))) fNil))) (fCons (fTup (fCons (fC (.str "cut")) fNil)) (fCons (fTup (fCons (fC (.str "cut")) (fCons (fC (.int 3)) (fCons (fC (.int 4)) fNil)))) fNil)))))))) (tgName 2))
    (sSeq (sAsg (fOp oAdd (fVar 2) (fLst (fCons (fTup (fCons (fC (.str "turn")) (fCons (fC (.str "top")) (fCons (fC (.int 401)) fNil)))) (fCons (fTup (fCons (fC (.str "turn")) (fCons (fC (.str "top")) (fCons (fUn oNeg (fC (.int 1))) fNil)))) (fCons (fTup (fCons (fC (.str "turn")) (fCons (fC (.str "mid")) (fCons (fC (.int 1)) fNil)))) (fCons (fTup (fCons (fC (.str "turn")) (fCons (fC (.str "top")) fNil))) (fCons (fTup (fCons (fC (.str "turn")) (fCons (fC (.int 1)) (fCons (fC (.int 1)) fNil)))) fNil))))))) (tgName 2))
    (sSeq (sAsg (fOp oAdd (fVar 2) (fLst (fCons (fTup (fCons (fC (.str "over")) (fCons (fC (.int 0)) fNil))) (fCons (fTup (fCons (fC (.str "over")) (fCons (fC (.str "top")) fNil))) (fCons (fTup (fCons (fC (.str "face")) fNil)) (fCons (fTup (fCons (fC (.str "face")) (fCons (fVar 1) fNil))) (fCons (fTup (fCons (fC (.str "face")) (fCons (fC (.int 3)) fNil))) (fCons (fTup (fCons (fC (.str "flip")) (fCons (fVar 0) fNil))) (fCons (fTup (fCons (fC (.str "")) (fCons (fVar 0) fNil))) fNil))))))))) (tgName 2))
    (sSeq (sAsg (fOp oAdd (fVar 2) (fLst (fCons (fTup (fCons (fC (.str "cut")) (fCons (fC (.str "3")) fNil))) (fCons (fTup (fCons (fC (.str "swap")) (fCons (fC (.str "t0")) (fCons (fC (.str "b0")) fNil)))) (fCons (fTup (fCons (fC (.str "cut")) (fCons (fVar 0) fNil))) (fCons (fTup (fCons (fC (.str "turn")) (fCons (fVar 0) (fCons (fC (.int 1)) fNil)))) (fCons (fTup (fCons (fC (.int 5)) (fCons (fC (.int 1)) fNil))) (fCons (fTup (fCons (fVar 0) fNil)) (fCons (fTup (fCons (fVar 0) (fCons (fVar 0) fNil))) fNil))))))))) (tgName 2))
    (sRet (fOp oAdd (fVar 2) (fLst (fCons (fTup (fCons (fC (.str "turn")) (fCons (fC (.str "top")) (fCons (fC (.str "1")) fNil)))) (fCons (fTup (fCons (fC (.str "turn")) (fCons (fC (.str "top")) (fCons (fVar 0) fNil)))) (fCons (fTup (fCons (fC (.str "face")) (fCons (fC (.str "top")) fNil))) (fCons (fTup (fCons (fC (.str "swap")) (fCons (fC (.int 1)) (fCons (fC (.int 2)) fNil)))) (fCons (fTup (fCons (fC (.str "Over")) fNil)) (fCons (fTup (fCons (fC (.str "over ")) fNil)) fNil)))))))))))))))
def m__law_odd_moves : Fn := fnOf false 0 3 b__law_odd_moves
end
def oddM : List D := [.tup [], .tup [.str "swap"], .tup [.str "swap", .tup [.str "top", .int 0]], .tup [.str "swap", .tup [.str "top", .int 0], .tup [.str "left", .int 0]], .tup [.str "swap", .tup [.str "top", .int 0], .tup [.str "bottom", .int 400]], .tup [.str "swap", .tup [.str "top", .int (-1)], .tup [.str "top", .int 0]], .tup [.str "carry", .tup [.str "top", .int 0], .tup [.str "top", .int 0], .tup [.str "top", .int 0]], .tup [.str "carry", .tup [.str "bottom", .int 400], .tup [.str "top", .int 0]], .tup [.str "cut", .int 401], .tup [.str "cut", .int (-401)], .tup [.str "cut"], .tup [.str "cut", .int 3, .int 4], .tup [.str "turn", .str "top", .int 401], .tup [.str "turn", .str "top", .int (-1)], .tup [.str "turn", .str "mid", .int 1], .tup [.str "turn", .str "top"], .tup [.str "turn", .int 1, .int 1], .tup [.str "over", .int 0], .tup [.str "over", .str "top"], .tup [.str "face"], .tup [.str "face", .tup [.str "bottom", .int 400]], .tup [.str "face", .int 3], .tup [.str "flip", .tup [.str "top", .int 0]], .tup [.str "", .tup [.str "top", .int 0]], .tup [.str "cut", .str "3"], .tup [.str "swap", .str "t0", .str "b0"], .tup [.str "cut", .tup [.str "top", .int 0]], .tup [.str "turn", .tup [.str "top", .int 0], .int 1], .tup [.int 5, .int 1], .tup [.tup [.str "top", .int 0]], .tup [.tup [.str "top", .int 0], .tup [.str "top", .int 0]], .tup [.str "turn", .str "top", .str "1"], .tup [.str "turn", .str "top", .tup [.str "top", .int 0]], .tup [.str "face", .str "top"], .tup [.str "swap", .int 1, .int 2], .tup [.str "Over"], .tup [.str "over "]]
end GD
/-! LZ: the frame of a law: its turns. -/
namespace GD
open PySem PySem.Spec PyProof.Rows L2
theorem rngZ (T : Nat) (hT : T < 2 ^ 60) (ρ : Env) (m : Mem) : iRange1 (fCons (fC (.int (T : Int))) fNil) ρ m = .ok ((List.range T).map fun k : Nat => W.d (.int (k : Int))) m := by
  have h : fCons (fC (.int (T : Int))) fNil ρ m = .ok [.d (.int (T : Int))] m := by simp
  unfold iRange1
  rw [h, R.bind_ok]
  dsimp only
  rw [if_pos (by omega)]
  unfold rngL
  simp
def RS.frz (i : Nat) (r : RS) : RS := match r with
  | .nx ρ' m' => match ρ'[i]? with
    | some (some (.m k)) => match m'[k]? with
      | some (.lst xs) => .nx (ρ'.set i (some (.d (.lst xs)))) (m'.set k .dead)
      | _ => .bad
    | _ => .bad
  | r => r
@[simp] theorem e_frz {i : Nat} {f : Ex} {ρ : Env} {m : Mem} : sFrz i f ρ m = (f ρ m).frz i := Eq.trans rfl rfl
/-! ### what a statement leads to -/
def Post (r : RS) (Q : RS → Prop) : Prop := Q r
theorem Post.out {r : RS} {Q : RS → Prop} (h : Post r Q) : Q r := h
theorem Post.eq {r r' : RS} {Q : RS → Prop} (e : r = r') (h : Post r' Q) : Post r Q := e ▸ h
/-! ### changeable lists -/
@[simp] theorem e_bm {ty : W → Mem → Bool} {op : OM} {a : Ev} {la : EvL} {ρ : Env} {m : Mem} : fBM ty op a la ρ m = (a ρ m).bind fun o m => if ty o m then (la ρ m).bind fun ws m => op o ws m else .bad := Eq.trans rfl rfl
@[simp] theorem e_bm0 {ty : W → Mem → Bool} {op : OM} {a : Ev} {ρ : Env} {m : Mem} : fBM0 ty op a ρ m = (a ρ m).bind fun o m => if ty o m then op o [] m else .bad := Eq.trans rfl rfl
@[simp] theorem isL_m {k : Nat} {m : Mem} : isL (.m k) m = match m[k]? with
    | some (.lst _) => true
    | _ => false := by
  show (match m[k]? with
    | some (.lst xs) => some xs
    | _ => none).isSome = _
  cases h : m[k]? with
  | none => rfl
  | some o => cases o <;> rfl
@[simp] theorem isL_d {xs : List D} {m : Mem} : isL (.d (.lst xs)) m = true := Eq.trans rfl rfl
@[simp] theorem push_m {k : Nat} {d : D} {m : Mem} : oAppend (.m k) [.d d] m = match m[k]? with
    | some (.lst xs) => if xs.length < 100000 then .ok (.d .non) (m.set k (.lst (xs ++ [d]))) else .bad
    | _ => .bad := Eq.trans rfl rfl
@[simp] theorem e_dfl {d : Option Int} {f : Fn} {ws : List W} {m : Mem} : dflFn d f ws m = f (ws ++ [.d (toDd d)]) m := Eq.trans rfl rfl
@[simp] theorem toDd_none : toDd none = .non := Eq.trans rfl rfl
@[simp] theorem toDd_some {i : Int} : toDd (some i) = .int i := Eq.trans rfl rfl
@[simp] theorem oIntB_b {b : Bool} {m : Mem} : oIntB [.d (.bl b)] m = .ok (.d (.int (if b then 1 else 0))) m := Eq.trans rfl rfl
@[simp] theorem oIntB_i {i : Int} {m : Mem} : oIntB [.d (.int i)] m = .ok (.d (.int i)) m := Eq.trans rfl rfl
@[simp] theorem e_parG {js : List Nat} {a : EvL} {ρ : Env} {m : Mem} : sParG js a ρ m = (a ρ m).lift ρ fun ws m => if ws.length = js.length then .nx (setAll ρ js ws) m else .bad := Eq.trans rfl rfl
@[simp] theorem setAll_nil {ρ : Env} {ws : List W} : setAll ρ [] ws = ρ := Eq.trans rfl rfl
@[simp] theorem setAll_cons {ρ : Env} {i : Nat} {js : List Nat} {w : W} {ws : List W} : setAll ρ (i :: js) (w :: ws) = setAll (ρ.set i (some w)) js ws := Eq.trans rfl rfl
/-- one turn of a law with N names, the bag in slot 1, the turn in slot 2; J: what stands behind the bag -/
def TurnPost (N : Nat) (J : Mem → Prop) (r : RS) : Prop := ∃ (b' : Bag) (rest' : Mem) (ρ' : Env), r = .nx ρ' (b'.mo :: rest') ∧ J rest' ∧ ρ'.length = N ∧ ρ'[1]? = some (some (.m 0))
theorem bag_set (ns : List Int) (ρ : Env) : sAsg (fCall m__law_bag (fCons (fVar 0) fNil)) (tgName 1) (some (.d (.fls (ns.map .int))) :: ρ) [] = .nx ((some (.d (.fls (ns.map .int))) :: ρ).set 1 (some (.m 0))) [(Bag.new ns).mo] := by
  have hb := bag_eq ns
  rw [e_asg, e_call]
  simp [hb]
end GD
namespace GD
open PySem PySem.Spec PyProof.Rows L2
/-! the odd moves in any memory of up to 18 objects -/
theorem odd_eq_0 (x y  : MO) : m__law_odd_moves [] [x, y] = .ok (.d (.lst oddM)) [x, y] := by kernel_rfl
theorem odd_bad_0 {d : D} (h : d ∈ oddM) (x y  : MO) : m_is_move [.d d] [x, y] = .ok (.d (.bl false)) [x, y] := by
  simp only [oddM, List.mem_cons, List.not_mem_nil, or_false] at h
  rcases h with rfl | rfl | rfl | rfl | rfl | rfl | rfl | rfl | rfl | rfl | rfl | rfl | rfl | rfl | rfl | rfl | rfl | rfl | rfl | rfl | rfl | rfl | rfl | rfl | rfl | rfl | rfl | rfl | rfl | rfl | rfl | rfl | rfl | rfl | rfl | rfl | rfl
  all_goals kernel_rfl
theorem odd_eq_1 (x y a0 : MO) : m__law_odd_moves [] [x, y, a0] = .ok (.d (.lst oddM)) [x, y, a0] := by kernel_rfl
theorem odd_bad_1 {d : D} (h : d ∈ oddM) (x y a0 : MO) : m_is_move [.d d] [x, y, a0] = .ok (.d (.bl false)) [x, y, a0] := by
  simp only [oddM, List.mem_cons, List.not_mem_nil, or_false] at h
  rcases h with rfl | rfl | rfl | rfl | rfl | rfl | rfl | rfl | rfl | rfl | rfl | rfl | rfl | rfl | rfl | rfl | rfl | rfl | rfl | rfl | rfl | rfl | rfl | rfl | rfl | rfl | rfl | rfl | rfl | rfl | rfl | rfl | rfl | rfl | rfl | rfl | rfl
  all_goals kernel_rfl
theorem odd_eq_2 (x y a0 a1 : MO) : m__law_odd_moves [] [x, y, a0, a1] = .ok (.d (.lst oddM)) [x, y, a0, a1] := by kernel_rfl
theorem odd_bad_2 {d : D} (h : d ∈ oddM) (x y a0 a1 : MO) : m_is_move [.d d] [x, y, a0, a1] = .ok (.d (.bl false)) [x, y, a0, a1] := by
  simp only [oddM, List.mem_cons, List.not_mem_nil, or_false] at h
  rcases h with rfl | rfl | rfl | rfl | rfl | rfl | rfl | rfl | rfl | rfl | rfl | rfl | rfl | rfl | rfl | rfl | rfl | rfl | rfl | rfl | rfl | rfl | rfl | rfl | rfl | rfl | rfl | rfl | rfl | rfl | rfl | rfl | rfl | rfl | rfl | rfl | rfl
  all_goals kernel_rfl
theorem odd_eq_3 (x y a0 a1 a2 : MO) : m__law_odd_moves [] [x, y, a0, a1, a2] = .ok (.d (.lst oddM)) [x, y, a0, a1, a2] := by kernel_rfl
theorem odd_bad_3 {d : D} (h : d ∈ oddM) (x y a0 a1 a2 : MO) : m_is_move [.d d] [x, y, a0, a1, a2] = .ok (.d (.bl false)) [x, y, a0, a1, a2] := by
  simp only [oddM, List.mem_cons, List.not_mem_nil, or_false] at h
  rcases h with rfl | rfl | rfl | rfl | rfl | rfl | rfl | rfl | rfl | rfl | rfl | rfl | rfl | rfl | rfl | rfl | rfl | rfl | rfl | rfl | rfl | rfl | rfl | rfl | rfl | rfl | rfl | rfl | rfl | rfl | rfl | rfl | rfl | rfl | rfl | rfl | rfl
  all_goals kernel_rfl
theorem odd_eq_4 (x y a0 a1 a2 a3 : MO) : m__law_odd_moves [] [x, y, a0, a1, a2, a3] = .ok (.d (.lst oddM)) [x, y, a0, a1, a2, a3] := by kernel_rfl
theorem odd_bad_4 {d : D} (h : d ∈ oddM) (x y a0 a1 a2 a3 : MO) : m_is_move [.d d] [x, y, a0, a1, a2, a3] = .ok (.d (.bl false)) [x, y, a0, a1, a2, a3] := by
  simp only [oddM, List.mem_cons, List.not_mem_nil, or_false] at h
  rcases h with rfl | rfl | rfl | rfl | rfl | rfl | rfl | rfl | rfl | rfl | rfl | rfl | rfl | rfl | rfl | rfl | rfl | rfl | rfl | rfl | rfl | rfl | rfl | rfl | rfl | rfl | rfl | rfl | rfl | rfl | rfl | rfl | rfl | rfl | rfl | rfl | rfl
  all_goals kernel_rfl
theorem odd_eq_5 (x y a0 a1 a2 a3 a4 : MO) : m__law_odd_moves [] [x, y, a0, a1, a2, a3, a4] = .ok (.d (.lst oddM)) [x, y, a0, a1, a2, a3, a4] := by kernel_rfl
theorem odd_bad_5 {d : D} (h : d ∈ oddM) (x y a0 a1 a2 a3 a4 : MO) : m_is_move [.d d] [x, y, a0, a1, a2, a3, a4] = .ok (.d (.bl false)) [x, y, a0, a1, a2, a3, a4] := by
  simp only [oddM, List.mem_cons, List.not_mem_nil, or_false] at h
  rcases h with rfl | rfl | rfl | rfl | rfl | rfl | rfl | rfl | rfl | rfl | rfl | rfl | rfl | rfl | rfl | rfl | rfl | rfl | rfl | rfl | rfl | rfl | rfl | rfl | rfl | rfl | rfl | rfl | rfl | rfl | rfl | rfl | rfl | rfl | rfl | rfl | rfl
  all_goals kernel_rfl
theorem odd_eq_6 (x y a0 a1 a2 a3 a4 a5 : MO) : m__law_odd_moves [] [x, y, a0, a1, a2, a3, a4, a5] = .ok (.d (.lst oddM)) [x, y, a0, a1, a2, a3, a4, a5] := by kernel_rfl
theorem odd_bad_6 {d : D} (h : d ∈ oddM) (x y a0 a1 a2 a3 a4 a5 : MO) : m_is_move [.d d] [x, y, a0, a1, a2, a3, a4, a5] = .ok (.d (.bl false)) [x, y, a0, a1, a2, a3, a4, a5] := by
  simp only [oddM, List.mem_cons, List.not_mem_nil, or_false] at h
  rcases h with rfl | rfl | rfl | rfl | rfl | rfl | rfl | rfl | rfl | rfl | rfl | rfl | rfl | rfl | rfl | rfl | rfl | rfl | rfl | rfl | rfl | rfl | rfl | rfl | rfl | rfl | rfl | rfl | rfl | rfl | rfl | rfl | rfl | rfl | rfl | rfl | rfl
  all_goals kernel_rfl
theorem odd_eq_7 (x y a0 a1 a2 a3 a4 a5 a6 : MO) : m__law_odd_moves [] [x, y, a0, a1, a2, a3, a4, a5, a6] = .ok (.d (.lst oddM)) [x, y, a0, a1, a2, a3, a4, a5, a6] := by kernel_rfl
theorem odd_bad_7 {d : D} (h : d ∈ oddM) (x y a0 a1 a2 a3 a4 a5 a6 : MO) : m_is_move [.d d] [x, y, a0, a1, a2, a3, a4, a5, a6] = .ok (.d (.bl false)) [x, y, a0, a1, a2, a3, a4, a5, a6] := by
  simp only [oddM, List.mem_cons, List.not_mem_nil, or_false] at h
  rcases h with rfl | rfl | rfl | rfl | rfl | rfl | rfl | rfl | rfl | rfl | rfl | rfl | rfl | rfl | rfl | rfl | rfl | rfl | rfl | rfl | rfl | rfl | rfl | rfl | rfl | rfl | rfl | rfl | rfl | rfl | rfl | rfl | rfl | rfl | rfl | rfl | rfl
  all_goals kernel_rfl
theorem odd_eq_8 (x y a0 a1 a2 a3 a4 a5 a6 a7 : MO) : m__law_odd_moves [] [x, y, a0, a1, a2, a3, a4, a5, a6, a7] = .ok (.d (.lst oddM)) [x, y, a0, a1, a2, a3, a4, a5, a6, a7] := by kernel_rfl
theorem odd_bad_8 {d : D} (h : d ∈ oddM) (x y a0 a1 a2 a3 a4 a5 a6 a7 : MO) : m_is_move [.d d] [x, y, a0, a1, a2, a3, a4, a5, a6, a7] = .ok (.d (.bl false)) [x, y, a0, a1, a2, a3, a4, a5, a6, a7] := by
  simp only [oddM, List.mem_cons, List.not_mem_nil, or_false] at h
  rcases h with rfl | rfl | rfl | rfl | rfl | rfl | rfl | rfl | rfl | rfl | rfl | rfl | rfl | rfl | rfl | rfl | rfl | rfl | rfl | rfl | rfl | rfl | rfl | rfl | rfl | rfl | rfl | rfl | rfl | rfl | rfl | rfl | rfl | rfl | rfl | rfl | rfl
  all_goals kernel_rfl
theorem odd_eq_9 (x y a0 a1 a2 a3 a4 a5 a6 a7 a8 : MO) : m__law_odd_moves [] [x, y, a0, a1, a2, a3, a4, a5, a6, a7, a8] = .ok (.d (.lst oddM)) [x, y, a0, a1, a2, a3, a4, a5, a6, a7, a8] := by kernel_rfl
theorem odd_bad_9 {d : D} (h : d ∈ oddM) (x y a0 a1 a2 a3 a4 a5 a6 a7 a8 : MO) : m_is_move [.d d] [x, y, a0, a1, a2, a3, a4, a5, a6, a7, a8] = .ok (.d (.bl false)) [x, y, a0, a1, a2, a3, a4, a5, a6, a7, a8] := by
  simp only [oddM, List.mem_cons, List.not_mem_nil, or_false] at h
  rcases h with rfl | rfl | rfl | rfl | rfl | rfl | rfl | rfl | rfl | rfl | rfl | rfl | rfl | rfl | rfl | rfl | rfl | rfl | rfl | rfl | rfl | rfl | rfl | rfl | rfl | rfl | rfl | rfl | rfl | rfl | rfl | rfl | rfl | rfl | rfl | rfl | rfl
  all_goals kernel_rfl
theorem odd_eq_10 (x y a0 a1 a2 a3 a4 a5 a6 a7 a8 a9 : MO) : m__law_odd_moves [] [x, y, a0, a1, a2, a3, a4, a5, a6, a7, a8, a9] = .ok (.d (.lst oddM)) [x, y, a0, a1, a2, a3, a4, a5, a6, a7, a8, a9] := by kernel_rfl
theorem odd_bad_10 {d : D} (h : d ∈ oddM) (x y a0 a1 a2 a3 a4 a5 a6 a7 a8 a9 : MO) : m_is_move [.d d] [x, y, a0, a1, a2, a3, a4, a5, a6, a7, a8, a9] = .ok (.d (.bl false)) [x, y, a0, a1, a2, a3, a4, a5, a6, a7, a8, a9] := by
  simp only [oddM, List.mem_cons, List.not_mem_nil, or_false] at h
  rcases h with rfl | rfl | rfl | rfl | rfl | rfl | rfl | rfl | rfl | rfl | rfl | rfl | rfl | rfl | rfl | rfl | rfl | rfl | rfl | rfl | rfl | rfl | rfl | rfl | rfl | rfl | rfl | rfl | rfl | rfl | rfl | rfl | rfl | rfl | rfl | rfl | rfl
  all_goals kernel_rfl
theorem odd_eq_11 (x y a0 a1 a2 a3 a4 a5 a6 a7 a8 a9 a10 : MO) : m__law_odd_moves [] [x, y, a0, a1, a2, a3, a4, a5, a6, a7, a8, a9, a10] = .ok (.d (.lst oddM)) [x, y, a0, a1, a2, a3, a4, a5, a6, a7, a8, a9, a10] := by kernel_rfl
theorem odd_bad_11 {d : D} (h : d ∈ oddM) (x y a0 a1 a2 a3 a4 a5 a6 a7 a8 a9 a10 : MO) : m_is_move [.d d] [x, y, a0, a1, a2, a3, a4, a5, a6, a7, a8, a9, a10] = .ok (.d (.bl false)) [x, y, a0, a1, a2, a3, a4, a5, a6, a7, a8, a9, a10] := by
  simp only [oddM, List.mem_cons, List.not_mem_nil, or_false] at h
  rcases h with rfl | rfl | rfl | rfl | rfl | rfl | rfl | rfl | rfl | rfl | rfl | rfl | rfl | rfl | rfl | rfl | rfl | rfl | rfl | rfl | rfl | rfl | rfl | rfl | rfl | rfl | rfl | rfl | rfl | rfl | rfl | rfl | rfl | rfl | rfl | rfl | rfl
  all_goals kernel_rfl
theorem odd_eq_12 (x y a0 a1 a2 a3 a4 a5 a6 a7 a8 a9 a10 a11 : MO) : m__law_odd_moves [] [x, y, a0, a1, a2, a3, a4, a5, a6, a7, a8, a9, a10, a11] = .ok (.d (.lst oddM)) [x, y, a0, a1, a2, a3, a4, a5, a6, a7, a8, a9, a10, a11] := by kernel_rfl
theorem odd_bad_12 {d : D} (h : d ∈ oddM) (x y a0 a1 a2 a3 a4 a5 a6 a7 a8 a9 a10 a11 : MO) : m_is_move [.d d] [x, y, a0, a1, a2, a3, a4, a5, a6, a7, a8, a9, a10, a11] = .ok (.d (.bl false)) [x, y, a0, a1, a2, a3, a4, a5, a6, a7, a8, a9, a10, a11] := by
  simp only [oddM, List.mem_cons, List.not_mem_nil, or_false] at h
  rcases h with rfl | rfl | rfl | rfl | rfl | rfl | rfl | rfl | rfl | rfl | rfl | rfl | rfl | rfl | rfl | rfl | rfl | rfl | rfl | rfl | rfl | rfl | rfl | rfl | rfl | rfl | rfl | rfl | rfl | rfl | rfl | rfl | rfl | rfl | rfl | rfl | rfl
  all_goals kernel_rfl
theorem odd_eq_13 (x y a0 a1 a2 a3 a4 a5 a6 a7 a8 a9 a10 a11 a12 : MO) : m__law_odd_moves [] [x, y, a0, a1, a2, a3, a4, a5, a6, a7, a8, a9, a10, a11, a12] = .ok (.d (.lst oddM)) [x, y, a0, a1, a2, a3, a4, a5, a6, a7, a8, a9, a10, a11, a12] := by kernel_rfl
theorem odd_bad_13 {d : D} (h : d ∈ oddM) (x y a0 a1 a2 a3 a4 a5 a6 a7 a8 a9 a10 a11 a12 : MO) : m_is_move [.d d] [x, y, a0, a1, a2, a3, a4, a5, a6, a7, a8, a9, a10, a11, a12] = .ok (.d (.bl false)) [x, y, a0, a1, a2, a3, a4, a5, a6, a7, a8, a9, a10, a11, a12] := by
  simp only [oddM, List.mem_cons, List.not_mem_nil, or_false] at h
  rcases h with rfl | rfl | rfl | rfl | rfl | rfl | rfl | rfl | rfl | rfl | rfl | rfl | rfl | rfl | rfl | rfl | rfl | rfl | rfl | rfl | rfl | rfl | rfl | rfl | rfl | rfl | rfl | rfl | rfl | rfl | rfl | rfl | rfl | rfl | rfl | rfl | rfl
  all_goals kernel_rfl
theorem odd_eq_14 (x y a0 a1 a2 a3 a4 a5 a6 a7 a8 a9 a10 a11 a12 a13 : MO) : m__law_odd_moves [] [x, y, a0, a1, a2, a3, a4, a5, a6, a7, a8, a9, a10, a11, a12, a13] = .ok (.d (.lst oddM)) [x, y, a0, a1, a2, a3, a4, a5, a6, a7, a8, a9, a10, a11, a12, a13] := by kernel_rfl
theorem odd_bad_14 {d : D} (h : d ∈ oddM) (x y a0 a1 a2 a3 a4 a5 a6 a7 a8 a9 a10 a11 a12 a13 : MO) : m_is_move [.d d] [x, y, a0, a1, a2, a3, a4, a5, a6, a7, a8, a9, a10, a11, a12, a13] = .ok (.d (.bl false)) [x, y, a0, a1, a2, a3, a4, a5, a6, a7, a8, a9, a10, a11, a12, a13] := by
  simp only [oddM, List.mem_cons, List.not_mem_nil, or_false] at h
  rcases h with rfl | rfl | rfl | rfl | rfl | rfl | rfl | rfl | rfl | rfl | rfl | rfl | rfl | rfl | rfl | rfl | rfl | rfl | rfl | rfl | rfl | rfl | rfl | rfl | rfl | rfl | rfl | rfl | rfl | rfl | rfl | rfl | rfl | rfl | rfl | rfl | rfl
  all_goals kernel_rfl
theorem odd_eq_15 (x y a0 a1 a2 a3 a4 a5 a6 a7 a8 a9 a10 a11 a12 a13 a14 : MO) : m__law_odd_moves [] [x, y, a0, a1, a2, a3, a4, a5, a6, a7, a8, a9, a10, a11, a12, a13, a14] = .ok (.d (.lst oddM)) [x, y, a0, a1, a2, a3, a4, a5, a6, a7, a8, a9, a10, a11, a12, a13, a14] := by kernel_rfl
theorem odd_bad_15 {d : D} (h : d ∈ oddM) (x y a0 a1 a2 a3 a4 a5 a6 a7 a8 a9 a10 a11 a12 a13 a14 : MO) : m_is_move [.d d] [x, y, a0, a1, a2, a3, a4, a5, a6, a7, a8, a9, a10, a11, a12, a13, a14] = .ok (.d (.bl false)) [x, y, a0, a1, a2, a3, a4, a5, a6, a7, a8, a9, a10, a11, a12, a13, a14] := by
  simp only [oddM, List.mem_cons, List.not_mem_nil, or_false] at h
  rcases h with rfl | rfl | rfl | rfl | rfl | rfl | rfl | rfl | rfl | rfl | rfl | rfl | rfl | rfl | rfl | rfl | rfl | rfl | rfl | rfl | rfl | rfl | rfl | rfl | rfl | rfl | rfl | rfl | rfl | rfl | rfl | rfl | rfl | rfl | rfl | rfl | rfl
  all_goals kernel_rfl
theorem odd_eq_16 (x y a0 a1 a2 a3 a4 a5 a6 a7 a8 a9 a10 a11 a12 a13 a14 a15 : MO) : m__law_odd_moves [] [x, y, a0, a1, a2, a3, a4, a5, a6, a7, a8, a9, a10, a11, a12, a13, a14, a15] = .ok (.d (.lst oddM)) [x, y, a0, a1, a2, a3, a4, a5, a6, a7, a8, a9, a10, a11, a12, a13, a14, a15] := by kernel_rfl
theorem odd_bad_16 {d : D} (h : d ∈ oddM) (x y a0 a1 a2 a3 a4 a5 a6 a7 a8 a9 a10 a11 a12 a13 a14 a15 : MO) : m_is_move [.d d] [x, y, a0, a1, a2, a3, a4, a5, a6, a7, a8, a9, a10, a11, a12, a13, a14, a15] = .ok (.d (.bl false)) [x, y, a0, a1, a2, a3, a4, a5, a6, a7, a8, a9, a10, a11, a12, a13, a14, a15] := by
  simp only [oddM, List.mem_cons, List.not_mem_nil, or_false] at h
  rcases h with rfl | rfl | rfl | rfl | rfl | rfl | rfl | rfl | rfl | rfl | rfl | rfl | rfl | rfl | rfl | rfl | rfl | rfl | rfl | rfl | rfl | rfl | rfl | rfl | rfl | rfl | rfl | rfl | rfl | rfl | rfl | rfl | rfl | rfl | rfl | rfl | rfl
  all_goals kernel_rfl
theorem odd_eqN (x y : MO) : ∀ r : Mem, r.length ≤ 16 → m__law_odd_moves [] (x :: y :: r) = .ok (.d (.lst oddM)) (x :: y :: r)
  | [], _ => odd_eq_0 x y 
  | [a0], _ => odd_eq_1 x y a0
  | [a0, a1], _ => odd_eq_2 x y a0 a1
  | [a0, a1, a2], _ => odd_eq_3 x y a0 a1 a2
  | [a0, a1, a2, a3], _ => odd_eq_4 x y a0 a1 a2 a3
  | [a0, a1, a2, a3, a4], _ => odd_eq_5 x y a0 a1 a2 a3 a4
  | [a0, a1, a2, a3, a4, a5], _ => odd_eq_6 x y a0 a1 a2 a3 a4 a5
  | [a0, a1, a2, a3, a4, a5, a6], _ => odd_eq_7 x y a0 a1 a2 a3 a4 a5 a6
  | [a0, a1, a2, a3, a4, a5, a6, a7], _ => odd_eq_8 x y a0 a1 a2 a3 a4 a5 a6 a7
  | [a0, a1, a2, a3, a4, a5, a6, a7, a8], _ => odd_eq_9 x y a0 a1 a2 a3 a4 a5 a6 a7 a8
  | [a0, a1, a2, a3, a4, a5, a6, a7, a8, a9], _ => odd_eq_10 x y a0 a1 a2 a3 a4 a5 a6 a7 a8 a9
  | [a0, a1, a2, a3, a4, a5, a6, a7, a8, a9, a10], _ => odd_eq_11 x y a0 a1 a2 a3 a4 a5 a6 a7 a8 a9 a10
  | [a0, a1, a2, a3, a4, a5, a6, a7, a8, a9, a10, a11], _ => odd_eq_12 x y a0 a1 a2 a3 a4 a5 a6 a7 a8 a9 a10 a11
  | [a0, a1, a2, a3, a4, a5, a6, a7, a8, a9, a10, a11, a12], _ => odd_eq_13 x y a0 a1 a2 a3 a4 a5 a6 a7 a8 a9 a10 a11 a12
  | [a0, a1, a2, a3, a4, a5, a6, a7, a8, a9, a10, a11, a12, a13], _ => odd_eq_14 x y a0 a1 a2 a3 a4 a5 a6 a7 a8 a9 a10 a11 a12 a13
  | [a0, a1, a2, a3, a4, a5, a6, a7, a8, a9, a10, a11, a12, a13, a14], _ => odd_eq_15 x y a0 a1 a2 a3 a4 a5 a6 a7 a8 a9 a10 a11 a12 a13 a14
  | [a0, a1, a2, a3, a4, a5, a6, a7, a8, a9, a10, a11, a12, a13, a14, a15], _ => odd_eq_16 x y a0 a1 a2 a3 a4 a5 a6 a7 a8 a9 a10 a11 a12 a13 a14 a15
  | _ :: _ :: _ :: _ :: _ :: _ :: _ :: _ :: _ :: _ :: _ :: _ :: _ :: _ :: _ :: _ :: _ :: _, h => by simp at h
theorem odd_badN {d : D} (hd : d ∈ oddM) (x y : MO) : ∀ r : Mem, r.length ≤ 16 → m_is_move [.d d] (x :: y :: r) = .ok (.d (.bl false)) (x :: y :: r)
  | [], _ => odd_bad_0 hd x y 
  | [a0], _ => odd_bad_1 hd x y a0
  | [a0, a1], _ => odd_bad_2 hd x y a0 a1
  | [a0, a1, a2], _ => odd_bad_3 hd x y a0 a1 a2
  | [a0, a1, a2, a3], _ => odd_bad_4 hd x y a0 a1 a2 a3
  | [a0, a1, a2, a3, a4], _ => odd_bad_5 hd x y a0 a1 a2 a3 a4
  | [a0, a1, a2, a3, a4, a5], _ => odd_bad_6 hd x y a0 a1 a2 a3 a4 a5
  | [a0, a1, a2, a3, a4, a5, a6], _ => odd_bad_7 hd x y a0 a1 a2 a3 a4 a5 a6
  | [a0, a1, a2, a3, a4, a5, a6, a7], _ => odd_bad_8 hd x y a0 a1 a2 a3 a4 a5 a6 a7
  | [a0, a1, a2, a3, a4, a5, a6, a7, a8], _ => odd_bad_9 hd x y a0 a1 a2 a3 a4 a5 a6 a7 a8
  | [a0, a1, a2, a3, a4, a5, a6, a7, a8, a9], _ => odd_bad_10 hd x y a0 a1 a2 a3 a4 a5 a6 a7 a8 a9
  | [a0, a1, a2, a3, a4, a5, a6, a7, a8, a9, a10], _ => odd_bad_11 hd x y a0 a1 a2 a3 a4 a5 a6 a7 a8 a9 a10
  | [a0, a1, a2, a3, a4, a5, a6, a7, a8, a9, a10, a11], _ => odd_bad_12 hd x y a0 a1 a2 a3 a4 a5 a6 a7 a8 a9 a10 a11
  | [a0, a1, a2, a3, a4, a5, a6, a7, a8, a9, a10, a11, a12], _ => odd_bad_13 hd x y a0 a1 a2 a3 a4 a5 a6 a7 a8 a9 a10 a11 a12
  | [a0, a1, a2, a3, a4, a5, a6, a7, a8, a9, a10, a11, a12, a13], _ => odd_bad_14 hd x y a0 a1 a2 a3 a4 a5 a6 a7 a8 a9 a10 a11 a12 a13
  | [a0, a1, a2, a3, a4, a5, a6, a7, a8, a9, a10, a11, a12, a13, a14], _ => odd_bad_15 hd x y a0 a1 a2 a3 a4 a5 a6 a7 a8 a9 a10 a11 a12 a13 a14
  | [a0, a1, a2, a3, a4, a5, a6, a7, a8, a9, a10, a11, a12, a13, a14, a15], _ => odd_bad_16 hd x y a0 a1 a2 a3 a4 a5 a6 a7 a8 a9 a10 a11 a12 a13 a14 a15
  | _ :: _ :: _ :: _ :: _ :: _ :: _ :: _ :: _ :: _ :: _ :: _ :: _ :: _ :: _ :: _ :: _ :: _, h => by simp at h
/-! turns that count: what stands behind the bag may grow from turn to turn -/
def TurnOkN (N T : Nat) (L : Ex) (J : Nat → Mem → Prop) : Prop := ∀ (i : Nat), i < T → ∀ (b : Bag) (rest : Mem) (ρ : Env), J i rest → ρ.length = N → ρ[1]? = some (some (.m 0)) → Post (L ρ (b.mo :: rest)) (TurnPost N (J (i + 1)))
theorem loop_turnsN {N T : Nat} {L : Ex} {J : Nat → Mem → Prop} (h : TurnOkN N T L J) : ∀ (ws : List W) (i : Nat) (b : Bag) (rest : Mem) (ρ : Env), i + ws.length ≤ T → J i rest → ρ.length = N → ρ[1]? = some (some (.m 0)) →
    ∃ (b' : Bag) (rest' : Mem) (ρ' : Env), loop (tgName 2) L ws ρ (b.mo :: rest) = .nx ρ' (b'.mo :: rest') ∧ J (i + ws.length) rest' ∧ ρ'.length = N ∧ ρ'[1]? = some (some (.m 0))
  | [], i, b, rest, ρ, _, hJ, hl, h1 => ⟨b, rest, ρ, rfl, hJ, hl, h1⟩
  | w :: ws, i, b, rest, ρ, hT, hJ, hl, h1 => by
    rw [List.length_cons] at hT
    obtain ⟨b1, r1, ρ1, e1, j1, l1, i1⟩ := h i (by omega) b rest (ρ.set 2 (some w)) hJ (by rw [List.length_set]; exact hl) (by rw [List.getElem?_set_ne (by decide)]; exact h1)
    obtain ⟨b2, r2, ρ2, e2, j2, l2, i2⟩ := loop_turnsN h ws (i + 1) b1 r1 ρ1 (by omega) j1 l1 i1
    refine ⟨b2, r2, ρ2, loop_cons rfl e1 e2, ?_, l2, i2⟩
    rw [List.length_cons, show i + (ws.length + 1) = i + 1 + ws.length by omega]
    exact j2
theorem main_turnsNT {N T : Nat} {L fin : Ex} {P : Addr} {s : Str} {J : Nat → Mem → Prop} (hT : T < 2 ^ 60) (hN : 3 ≤ N) (h : TurnOkN N T L J) (j0 : J 0 [.tab P s]) (hf : ∀ (ρ : Env) (b : Bag) (rest : Mem), J T rest → ρ.length = N → ρ[1]? = some (some (.m 0)) → ∃ m', fin ρ (b.mo :: rest) = .rt (.d (.bl true)) m') :
    ∀ ns : List Int, ns.length ≤ 63 → ∃ m, fnOf false 1 N (sTab P s (sAsg (fCall m__law_bag (fCons (fVar 0) fNil)) (tgName 1)) (sSeq (sFor (iRange1 (fCons (fC (.int (T : Int))) fNil)) (tgName 2) L) fin)) [.d (.fls (ns.map .int))] [] = .ok (.d (.bl true)) m := by
  intro ns _
  obtain ⟨b', rest', ρ', e, j', l', i'⟩ := loop_turnsN h ((List.range T).map fun k : Nat => W.d (.int (k : Int))) 0 (Bag.new ns) [.tab P s] ((some (.d (.fls (ns.map .int))) :: List.replicate (N - 1) none).set 1 (some (.m 0))) (by simp) j0 (by rw [List.length_set, List.length_cons, List.length_replicate]; omega) (List.getElem?_set_self (by rw [List.length_cons, List.length_replicate]; omega))
  have e : sFor (iRange1 (fCons (fC (.int (T : Int))) fNil)) (tgName 2) L ((some (.d (.fls (ns.map .int))) :: List.replicate (N - 1) none).set 1 (some (.m 0))) ((Bag.new ns).mo :: [.tab P s]) = .nx ρ' (b'.mo :: rest') := by
    rw [e_for, rngZ T hT, R.lift_ok]
    exact e
  rw [List.length_map, List.length_range, Nat.zero_add] at j'
  obtain ⟨m', ef⟩ := hf ρ' b' rest' j' l' i'
  refine ⟨[], ?_⟩
  have z := fn_ret (mu := false) (np := 1) (N := N) (ws := [.d (.fls (ns.map .int))]) (m := []) (p := sTab P s (sAsg (fCall m__law_bag (fCons (fVar 0) fNil)) (tgName 1)) (sSeq (sFor (iRange1 (fCons (fC (.int (T : Int))) fNil)) (tgName 2) L) fin)) (w := .d (.bl true)) (m1 := m') rfl (by
    show sTab P s _ _ (some (W.d (.fls (ns.map .int))) :: List.replicate (N - 1) none) [] = _
    rw [e_tab, bag_set ns _]
    exact es_seq e ef)
  rw [z]
  rfl
end GD
/-! FM: forms, in plain Lean: two tables and a rul behind them; products. -/
namespace FM
/-- the goal's end (true: top), its depth, whether the card is turned -/
abbrev En := Bool × Int × Bool
abbrev goal (e : En) : Bool × Int := (e.1, e.2.1)
def rul (t : Bool) (s : Int) (e : Bool) (d : Int) : En := if t then (!e, if e then d - s else d + s, true) else (e, if e then d + s else d - s, false)
def tab (A B : List En) (e : Bool) : List En := if e then A else B
def look (t : Bool) (s : Int) (A B : List En) (e : Bool) (d : Nat) : En := ((tab A B e)[d]?).getD (rul t s e d)
def cnts (t : Bool) (s : Int) (a b : Nat) : Int × Int := if t then ((b : Int) + s, (a : Int) - s) else ((a : Int) + s, (b : Int) - s)
def wanted (x y : Int) : List (Bool × Int) := ((List.range x.toNat).map fun d : Nat => (true, (d : Int))) ++ ((List.range y.toNat).map fun d : Nat => (false, (d : Int)))
/-- the tables are those of a form -/
structure Parts (t : Bool) (s : Int) (A B : List En) : Prop where
  p1 : 0 ≤ (cnts t s A.length B.length).1
  p2 : 0 ≤ (cnts t s A.length B.length).2
  perm : ((A ++ B).map goal).Perm (wanted (cnts t s A.length B.length).1 (cnts t s A.length B.length).2)
/-- a map of end places onto end places, one to one -/
structure Bij (f : Bool → Nat → En) : Prop where
  pos : ∀ e d, 0 ≤ (f e d).2.1
  inj : ∀ e d e' d', goal (f e d) = goal (f e' d') → e = e' ∧ d = d'
  sur : ∀ (g : Bool) (n : Nat), ∃ e d, goal (f e d) = (g, (n : Int))
theorem mem_wanted {x y : Int} {g : Bool} {n : Int} : (g, n) ∈ wanted x y ↔ 0 ≤ n ∧ n < (if g then x else y) := by
  unfold wanted
  simp only [List.mem_append, List.mem_map, List.mem_range, Prod.mk.injEq]
  cases g with
  | true =>
    simp only [if_true]
    constructor
    · rintro (⟨d, h, _, rfl⟩ | ⟨d, _, h, _⟩)
      · omega
      · cases h
    · intro h
      exact .inl ⟨n.toNat, by omega, by simp, by omega⟩
  | false =>
    simp only [Bool.false_eq_true, if_false]
    constructor
    · rintro (⟨d, _, h, _⟩ | ⟨d, h, _, rfl⟩)
      · cases h
      · omega
    · intro h
      exact .inr ⟨n.toNat, by omega, by simp, by omega⟩
theorem nodup_wanted (x y : Int) : (wanted x y).Nodup := by
  unfold wanted
  rw [List.nodup_append]
  refine ⟨?_, ?_, ?_⟩
  · rw [List.Nodup, List.pairwise_map]
    exact (List.nodup_range).imp fun h z => h (by have z' := congrArg Prod.snd z; dsimp only at z'; omega)
  · rw [List.Nodup, List.pairwise_map]
    exact (List.nodup_range).imp fun h z => h (by have z' := congrArg Prod.snd z; dsimp only at z'; omega)
  · intro a ha b hb z
    obtain ⟨_, _, rfl⟩ := List.mem_map.mp ha
    obtain ⟨_, _, rfl⟩ := List.mem_map.mp hb
    cases z
section
variable {t : Bool} {s : Int} {A B : List En}
theorem look_in {e : Bool} {d : Nat} (h : d < (tab A B e).length) : look t s A B e d = (tab A B e)[d] := by
  unfold look
  rw [List.getElem?_eq_getElem h]
  rfl
theorem look_out {e : Bool} {d : Nat} (h : (tab A B e).length ≤ d) : look t s A B e d = rul t s e d := by
  unfold look
  rw [List.getElem?_eq_none h]
  rfl
/-- where the rul leads, behind tables of a and b -/
theorem rule_goal (t : Bool) (s : Int) (e : Bool) (d : Int) : goal (rul t s e d) = (if t then !e else e, if t then (if e then d - s else d + s) else (if e then d + s else d - s)) := by
  unfold rul
  cases t <;> cases e <;> rfl
theorem rule_inj {e e' : Bool} {d d' : Int} (h : goal (rul t s e d) = goal (rul t s e' d')) : e = e' ∧ d = d' := by
  rw [rule_goal, rule_goal, Prod.mk.injEq] at h
  obtain ⟨h1, h2⟩ := h
  cases t <;> cases e <;> cases e' <;> simp at h1 h2 ⊢ <;> omega
theorem rule_far {e : Bool} {d : Nat} (h : (tab A B e).length ≤ d) : ¬ ((goal (rul t s e d)).2 < if (goal (rul t s e d)).1 then (cnts t s A.length B.length).1 else (cnts t s A.length B.length).2) := by
  rw [rule_goal]
  unfold cnts tab at *
  cases t <;> cases e <;> simp at h ⊢ <;> omega
/-- a goal behind the wanted ones is the rul's -/
theorem rule_hit (p1 : 0 ≤ (cnts t s A.length B.length).1) (p2 : 0 ≤ (cnts t s A.length B.length).2) {g : Bool} {n : Nat} (h : ¬ ((n : Int) < if g then (cnts t s A.length B.length).1 else (cnts t s A.length B.length).2)) : ∃ e d, (tab A B e).length ≤ d ∧ goal (rul t s e (d : Nat)) = (g, (n : Int)) := by
  unfold cnts at *
  cases t with
  | false =>
    cases g with
    | true => refine ⟨true, ((n : Int) - s).toNat, ?_, ?_⟩ <;> simp [rul, tab] at * <;> omega
    | false => refine ⟨false, ((n : Int) + s).toNat, ?_, ?_⟩ <;> simp [rul, tab] at * <;> omega
  | true =>
    cases g with
    | true => refine ⟨false, ((n : Int) - s).toNat, ?_, ?_⟩ <;> simp [rul, tab] at * <;> omega
    | false => refine ⟨true, ((n : Int) + s).toNat, ?_, ?_⟩ <;> simp [rul, tab] at * <;> omega
theorem rule_pos (p1 : 0 ≤ (cnts t s A.length B.length).1) (p2 : 0 ≤ (cnts t s A.length B.length).2) {e : Bool} {d : Nat} (h : (tab A B e).length ≤ d) : 0 ≤ (rul t s e d).2.1 := by
  unfold cnts rul tab at *
  cases t <;> cases e <;> simp at * <;> omega
/-- the place in the joined table -/
def ix (A : List En) (e : Bool) (d : Nat) : Nat := if e then d else A.length + d
theorem look_ix {e : Bool} {d : Nat} (h : d < (tab A B e).length) : ix A e d < (A ++ B).length ∧ (A ++ B)[ix A e d]? = some (look t s A B e d) := by
  rw [look_in h]
  unfold ix tab at *
  cases e with
  | true =>
    simp at h ⊢
    exact ⟨by omega, by rw [List.getElem?_append_left h, List.getElem?_eq_getElem h]⟩
  | false =>
    simp at h ⊢
    exact ⟨h, by rw [List.getElem?_append_right (by omega), Nat.add_sub_cancel_left, List.getElem?_eq_getElem h]⟩
theorem ix_back {i : Nat} (h : i < (A ++ B).length) : ∃ e d, d < (tab A B e).length ∧ ix A e d = i := by
  by_cases hi : i < A.length
  · exact ⟨true, i, hi, rfl⟩
  · refine ⟨false, i - A.length, ?_, ?_⟩
    · simp [tab] at *; omega
    · unfold ix; simp; omega
theorem ix_inj {e e' : Bool} {d d' : Nat} (h : d < (tab A B e).length) (h' : d' < (tab A B e').length) (q : ix A e d = ix A e' d') : e = e' ∧ d = d' := by
  unfold ix tab at *
  cases e <;> cases e' <;> simp at * <;> omega
theorem Parts.bij (h : Parts t s A B) : Bij (look t s A B) := by
  have hn : ((A ++ B).map goal).Nodup := h.perm.nodup_iff.mpr (nodup_wanted _ _)
  have tin : ∀ {e : Bool} {d : Nat}, d < (tab A B e).length → goal (look t s A B e d) ∈ wanted (cnts t s A.length B.length).1 (cnts t s A.length B.length).2 := fun {e d} hd => by
    obtain ⟨_, q⟩ := look_ix (t := t) (s := s) hd
    exact h.perm.mem_iff.mp (List.mem_map.mpr ⟨_, List.mem_of_getElem? q, rfl⟩)
  refine ⟨fun e d => ?_, fun e d e' d' q => ?_, fun g n => ?_⟩
  · by_cases hd : d < (tab A B e).length
    · have z := tin hd
      exact (mem_wanted.mp z).1
    · rw [look_out (by omega)]
      exact rule_pos h.p1 h.p2 (by omega)
  · by_cases hd : d < (tab A B e).length
    · by_cases hd' : d' < (tab A B e').length
      · obtain ⟨l1, q1⟩ := look_ix (t := t) (s := s) hd
        obtain ⟨l2, q2⟩ := look_ix (t := t) (s := s) hd'
        refine ix_inj hd hd' ?_
        have a1 : ((A ++ B).map goal)[ix A e d]? = some (goal (look t s A B e d)) := by rw [List.getElem?_map, q1]; rfl
        have a2 : ((A ++ B).map goal)[ix A e' d']? = some (goal (look t s A B e' d')) := by rw [List.getElem?_map, q2]; rfl
        rw [← q] at a2
        exact (List.getElem?_inj (by rw [List.length_map]; exact l1) hn).mp (a1.trans a2.symm)
      · have z := tin hd
        rw [q, look_out (by omega)] at z
        exact absurd (mem_wanted.mp (show ((goal (rul t s e' d')).1, (goal (rul t s e' d')).2) ∈ _ from z)).2 (rule_far (by omega))
    · by_cases hd' : d' < (tab A B e').length
      · have z := tin hd'
        rw [← q, look_out (by omega)] at z
        exact absurd (mem_wanted.mp (show ((goal (rul t s e d)).1, (goal (rul t s e d)).2) ∈ _ from z)).2 (rule_far (by omega))
      · rw [look_out (by omega), look_out (by omega)] at q
        obtain ⟨h1, h2⟩ := rule_inj q
        exact ⟨h1, by omega⟩
  · by_cases hw : (n : Int) < if g then (cnts t s A.length B.length).1 else (cnts t s A.length B.length).2
    · have z : (g, (n : Int)) ∈ (A ++ B).map goal := h.perm.mem_iff.mpr (mem_wanted.mpr ⟨by omega, hw⟩)
      obtain ⟨x, hx, e1⟩ := List.mem_map.mp z
      obtain ⟨i, hi, e2⟩ := List.mem_iff_getElem.mp hx
      obtain ⟨e, d, hd, e3⟩ := ix_back hi
      obtain ⟨_, q⟩ := look_ix (t := t) (s := s) hd
      refine ⟨e, d, ?_⟩
      rw [e3, List.getElem?_eq_getElem hi, e2] at q
      rw [← Option.some.inj q]
      exact e1
    · obtain ⟨e, d, h1, h2⟩ := rule_hit h.p1 h.p2 hw
      exact ⟨e, d, by rw [look_out h1]; exact h2⟩
theorem Bij.parts (h : Bij (look t s A B)) : Parts t s A B := by
  have p1 : 0 ≤ (cnts t s A.length B.length).1 := by
    have z1 := h.pos true A.length
    have z2 := h.pos false B.length
    rw [look_out (by simp [tab])] at z1 z2
    unfold rul cnts at *
    cases t <;> simp at * <;> omega
  have p2 : 0 ≤ (cnts t s A.length B.length).2 := by
    have z1 := h.pos true A.length
    have z2 := h.pos false B.length
    rw [look_out (by simp [tab])] at z1 z2
    unfold rul cnts at *
    cases t <;> simp at * <;> omega
  refine ⟨p1, p2, (List.perm_ext_iff_of_nodup ?_ (nodup_wanted _ _)).mpr fun ⟨g, n⟩ => ⟨fun hm => ?_, fun hm => ?_⟩⟩
  · rw [List.Nodup, List.pairwise_iff_getElem]
    intro i j hi hj hij z
    rw [List.length_map] at hi hj
    obtain ⟨e, d, hd, rfl⟩ := ix_back hi
    obtain ⟨e', d', hd', rfl⟩ := ix_back hj
    obtain ⟨_, q1⟩ := look_ix (t := t) (s := s) hd
    obtain ⟨_, q2⟩ := look_ix (t := t) (s := s) hd'
    rw [List.getElem?_eq_getElem hi] at q1
    rw [List.getElem?_eq_getElem hj] at q2
    rw [List.getElem_map, List.getElem_map, Option.some.inj q1, Option.some.inj q2] at z
    obtain ⟨rfl, rfl⟩ := h.inj e d e' d' z
    omega
  · obtain ⟨x, hx, e1⟩ := List.mem_map.mp hm
    obtain ⟨i, hi, e2⟩ := List.mem_iff_getElem.mp hx
    obtain ⟨e, d, hd, e3⟩ := ix_back hi
    obtain ⟨_, q⟩ := look_ix (t := t) (s := s) hd
    rw [e3, List.getElem?_eq_getElem hi, e2] at q
    have q := Option.some.inj q
    rw [q] at e1
    have hn : 0 ≤ n := by
      have := h.pos e d
      have e4 : (look t s A B e d).2.1 = n := congrArg Prod.snd e1
      omega
    refine mem_wanted.mpr ⟨hn, ?_⟩
    refine Decidable.byContradiction fun hw => ?_
    obtain ⟨n', rfl⟩ := Int.eq_ofNat_of_zero_le hn
    obtain ⟨e', d', h1, h2⟩ := rule_hit p1 p2 hw
    have z : goal (look t s A B e d) = goal (look t s A B e' d') := by rw [e1, look_out h1, h2]
    obtain ⟨rfl, rfl⟩ := h.inj _ _ _ _ z
    omega
  · obtain ⟨hn, hw⟩ := mem_wanted.mp hm
    obtain ⟨n', rfl⟩ := Int.eq_ofNat_of_zero_le hn
    obtain ⟨e, d, q⟩ := h.sur g n'
    by_cases hd : d < (tab A B e).length
    · obtain ⟨_, q1⟩ := look_ix (t := t) (s := s) hd
      exact List.mem_map.mpr ⟨_, List.mem_of_getElem? q1, q⟩
    · rw [look_out (by omega)] at q
      have z := rule_far (t := t) (s := s) (A := A) (B := B) (e := e) (d := d) (by omega)
      rw [q] at z
      exact absurd hw z
end
/-! ### tables without what the rul tells -/
def trimN (t : Bool) (s : Int) (e : Bool) (T : List En) : Nat → Nat
  | 0 => 0
  | n + 1 => if T[n]? = some (rul t s e (n : Nat)) then trimN t s e T n else n + 1
def trim (t : Bool) (s : Int) (e : Bool) (T : List En) : List En := T.take (trimN t s e T T.length)
theorem trimN_le (t : Bool) (s : Int) (e : Bool) (T : List En) : ∀ n, trimN t s e T n ≤ n
  | 0 => Nat.le_refl _
  | n + 1 => by
    unfold trimN
    split
    · exact Nat.le_succ_of_le (trimN_le t s e T n)
    · exact Nat.le_refl _
theorem trimN_rule (t : Bool) (s : Int) (e : Bool) (T : List En) : ∀ n k, trimN t s e T n ≤ k → k < n → T[k]? = some (rul t s e (k : Nat))
  | 0, k, _, h => by omega
  | n + 1, k, h1, h2 => by
    unfold trimN at h1
    split at h1
    · rename_i q
      by_cases hk : k = n
      · rw [hk]; exact q
      · exact trimN_rule t s e T n k h1 (by omega)
    · omega
theorem trimN_last (t : Bool) (s : Int) (e : Bool) (T : List En) : ∀ n k, trimN t s e T n = k + 1 → T[k]? ≠ some (rul t s e (k : Nat))
  | 0, k, h => by cases h
  | n + 1, k, h => by
    unfold trimN at h
    split at h
    · exact trimN_last t s e T n k h
    · rename_i q
      have : n = k := by omega
      rw [← this]
      exact q
theorem trim_len (t : Bool) (s : Int) (e : Bool) (T : List En) : (trim t s e T).length = trimN t s e T T.length := by
  unfold trim
  rw [List.length_take]
  have := trimN_le t s e T T.length
  omega
theorem trim_get (t : Bool) (s : Int) (e : Bool) (T : List En) (d : Nat) : ((trim t s e T)[d]?).getD (rul t s e d) = (T[d]?).getD (rul t s e d) := by
  by_cases h : d < trimN t s e T T.length
  · unfold trim
    rw [List.getElem?_take_of_lt h]
  · have h1 : (trim t s e T)[d]? = none := List.getElem?_eq_none (by rw [trim_len]; omega)
    rw [h1]
    by_cases h2 : d < T.length
    · rw [trimN_rule t s e T T.length d (by omega) h2]
      rfl
    · rw [List.getElem?_eq_none (by omega)]
theorem look_trim (t : Bool) (s : Int) (A B : List En) : look t s (trim t s true A) (trim t s false B) = look t s A B := by
  funext e d
  unfold look tab
  cases e with
  | true => exact trim_get t s true A d
  | false => exact trim_get t s false B d
/-- a table is told by what it tells -/
theorem trim_ext {t : Bool} {s : Int} {e : Bool} {T T' : List En} (h : ∀ d : Nat, (T[d]?).getD (rul t s e d) = (T'[d]?).getD (rul t s e d)) : trim t s e T = trim t s e T' := by
  have hle : ∀ {U V : List En}, (∀ d : Nat, (U[d]?).getD (rul t s e d) = (V[d]?).getD (rul t s e d)) → trimN t s e U U.length ≤ trimN t s e V V.length := by
    intro U V h
    refine Decidable.byContradiction fun hn => ?_
    obtain ⟨k, hk⟩ : ∃ k, trimN t s e U U.length = k + 1 := ⟨trimN t s e U U.length - 1, by omega⟩
    have h1 := trimN_last t s e U U.length k hk
    have hl := trimN_le t s e U U.length
    have h2 : k < U.length := by omega
    have h3 := h k
    have h4 : (trim t s e V)[k]? = none := List.getElem?_eq_none (by rw [trim_len]; omega)
    rw [← trim_get t s e V k, h4, List.getElem?_eq_getElem h2] at h3
    rw [List.getElem?_eq_getElem h2] at h1
    exact h1 (by rw [show U[k] = rul t s e (k : Nat) from h3])
  have e1 : trimN t s e T T.length = trimN t s e T' T'.length := Nat.le_antisymm (hle h) (hle fun d => (h d).symm)
  refine List.ext_getElem? fun d => ?_
  by_cases hd : d < trimN t s e T T.length
  · have l1 : d < (trim t s e T).length := by rw [trim_len]; exact hd
    have l2 : d < (trim t s e T').length := by rw [trim_len, ← e1]; exact hd
    have z := h d
    rw [← trim_get t s e T d, ← trim_get t s e T' d, List.getElem?_eq_getElem l1, List.getElem?_eq_getElem l2] at z
    rw [List.getElem?_eq_getElem l1, List.getElem?_eq_getElem l2]
    exact congrArg some z
  · rw [List.getElem?_eq_none (by rw [trim_len]; omega), List.getElem?_eq_none (by rw [trim_len, ← e1]; omega)]
theorem trim_trim (t : Bool) (s : Int) (e : Bool) (T : List En) : trim t s e (trim t s e T) = trim t s e T := trim_ext fun d => trim_get t s e T d
/-! ### products -/
def comp (f g : Bool → Nat → En) (e : Bool) (d : Nat) : En := ((g (f e d).1 (f e d).2.1.toNat).1, (g (f e d).1 (f e d).2.1.toNat).2.1, !decide ((f e d).2.2 = (g (f e d).1 (f e d).2.1.toNat).2.2))
theorem Bij.comp {f g : Bool → Nat → En} (hf : Bij f) (hg : Bij g) : Bij (comp f g) := by
  refine ⟨fun e d => hg.pos _ _, fun e d e' d' q => ?_, fun g' n => ?_⟩
  · obtain ⟨h1, h2⟩ := hg.inj (f e d).1 (f e d).2.1.toNat (f e' d').1 (f e' d').2.1.toNat q
    refine hf.inj e d e' d' (Prod.ext h1 ?_)
    have a := hf.pos e d
    have b := hf.pos e' d'
    show (f e d).2.1 = (f e' d').2.1
    omega
  · obtain ⟨e1, d1, q1⟩ := hg.sur g' n
    obtain ⟨e, d, q⟩ := hf.sur e1 d1
    refine ⟨e, d, ?_⟩
    have a : (f e d).1 = e1 := congrArg Prod.fst q
    have b : (f e d).2.1 = (d1 : Int) := congrArg Prod.snd q
    show goal (g (f e d).1 (f e d).2.1.toNat) = _
    rw [a, b]
    exact q1
/-- the product's tables, the rul behind them -/
def mulT (t1 t2 : Bool) : Bool := !decide (t1 = t2)
def mulS (t2 : Bool) (s1 s2 : Int) : Int := s2 + if t2 then -s1 else s1
/-- how far the product's tables reach -/
def far (t1 : Bool) (s1 : Int) (A1 B1 A2 B2 : List En) : Int × Int :=
  (max (A1.length : Int) (if t1 then (B2.length : Int) + s1 else (A2.length : Int) - s1), max (B1.length : Int) (if t1 then (A2.length : Int) - s1 else (B2.length : Int) + s1))
theorem comp_rule {t1 t2 : Bool} {s1 s2 : Int} {A1 B1 A2 B2 : List En} (h1 : Bij (look t1 s1 A1 B1)) {e : Bool} {d : Nat} (hd : (if e then (far t1 s1 A1 B1 A2 B2).1 else (far t1 s1 A1 B1 A2 B2).2) ≤ (d : Int)) :
    comp (look t1 s1 A1 B1) (look t2 s2 A2 B2) e d = rul (mulT t1 t2) (mulS t2 s1 s2) e d := by
  have l1 : (tab A1 B1 e).length ≤ d := by
    unfold far tab at *
    cases e <;> simp at * <;> omega
  have e1 := look_out (t := t1) (s := s1) l1
  have hp := h1.pos e d
  rw [e1] at hp
  unfold comp
  rw [e1]
  have l2 : (tab A2 B2 (rul t1 s1 e d).1).length ≤ (rul t1 s1 e d).2.1.toNat := by
    unfold rul tab far at *
    cases t1 <;> cases e <;> simp at * <;> omega
  rw [look_out l2]
  have hc : (((rul t1 s1 e d).2.1.toNat : Nat) : Int) = (rul t1 s1 e d).2.1 := by omega
  rw [hc]
  unfold rul mulT mulS
  cases t1 <;> cases t2 <;> cases e <;> simp <;> omega
def mulTab (f g : Bool → Nat → En) (e : Bool) (n : Int) : List En := (List.range n.toNat).map fun d => comp f g e d
theorem look_mul {t1 t2 : Bool} {s1 s2 : Int} {A1 B1 A2 B2 : List En} (h1 : Bij (look t1 s1 A1 B1)) : look (mulT t1 t2) (mulS t2 s1 s2) (mulTab (look t1 s1 A1 B1) (look t2 s2 A2 B2) true (far t1 s1 A1 B1 A2 B2).1) (mulTab (look t1 s1 A1 B1) (look t2 s2 A2 B2) false (far t1 s1 A1 B1 A2 B2).2) = comp (look t1 s1 A1 B1) (look t2 s2 A2 B2) := by
  funext e d
  have key : ∀ n : Int, (n ≤ (d : Int) → comp (look t1 s1 A1 B1) (look t2 s2 A2 B2) e d = rul (mulT t1 t2) (mulS t2 s1 s2) e d) → ((mulTab (look t1 s1 A1 B1) (look t2 s2 A2 B2) e n)[d]?).getD (rul (mulT t1 t2) (mulS t2 s1 s2) e d) = comp (look t1 s1 A1 B1) (look t2 s2 A2 B2) e d := by
    intro n hn
    unfold mulTab
    by_cases hd : d < n.toNat
    · rw [List.getElem?_map, List.getElem?_range hd]
      rfl
    · rw [List.getElem?_eq_none (by simp; omega), hn (by omega)]
      rfl
  unfold look tab
  cases e with
  | true => exact key _ fun h => comp_rule h1 (by simpa using h)
  | false => exact key _ fun h => comp_rule h1 (by simpa using h)
end FM
namespace GD
open PySem PySem.Spec PyProof.Rows L2
open FM
/-! ### forms as data -/
def enD (e : En) : D := .tup [.str (endS e.1), .int e.2.1, .bl e.2.2]
def gd (p : Bool × Int) : D := .tup [.str (endS p.1), .int p.2]
def formD (t : Bool) (s : Int) (A B : List En) : D := .obj "Form" ["faced", "moved_by", "first", "last"] [.bl t, .int s, .tup (A.map enD), .tup (B.map enD)]
/-! ### the rul, trimmed tables -/
/-! ### sorted goals -/
end GD
namespace GD
open PySem PySem.Spec PyProof.Rows L2
noncomputable section
def b_need_end_place : Ex :=
    (sSeq (sAsg (fVar 0) (tgUn 2 (tgCons (tgName 1) (tgCons (tgName 2) tgNil))))
    (sIf (gOr (gBool (fOp (oInT true "ENDS" [("top", "t"), ("bottom", "b")]) (fVar 1) (fC (.gl "ENDS")))) (gBool (fOp oLt (fVar 2) (fC (.int 0)))))
    (sRaise "BadPlace" "place" (fVar 0))
    sNext))
def m_need_end_place : Fn := fnOf false 1 3 b_need_end_place
end
open FM
/-! ### its methods -/
section
variable (t : Bool) (s : Int) (A B : List En) (m : Mem)
@[simp] theorem f_faced : oFld ["Form"] "faced" (.d (formD t s A B)) m = .ok (.d (.bl t)) m := Eq.trans rfl rfl
@[simp] theorem f_shift : oFld ["Form"] "moved_by" (.d (formD t s A B)) m = .ok (.d (.int s)) m := by
  have h : (("moved_by" : Str) == "faced") = false := by decide +kernel
  simp [oFld, insOf, formD, List.lookup, h]
@[simp] theorem f_first : oFld ["Form"] "first" (.d (formD t s A B)) m = .ok (.d (.tup (A.map enD))) m := by
  have h : (("first" : Str) == "faced") = false := by decide +kernel
  have h1 : (("first" : Str) == "moved_by") = false := by decide +kernel
  simp [oFld, insOf, formD, List.lookup, h, h1]
@[simp] theorem f_last : oFld ["Form"] "last" (.d (formD t s A B)) m = .ok (.d (.tup (B.map enD))) m := by
  have h : (("last" : Str) == "faced") = false := by decide +kernel
  have h1 : (("last" : Str) == "moved_by") = false := by decide +kernel
  have h2 : (("last" : Str) == "first") = false := by decide +kernel
  simp [oFld, insOf, formD, List.lookup, h, h1, h2]
@[simp] theorem ins_f : insOf (.d (formD t s A B)) m = some (("Form" : Str), (["faced", "moved_by", "first", "last"] : List Str), [.bl t, .int s, .tup (A.map enD), .tup (B.map enD)]) := Eq.trans rfl rfl
end
@[simp] theorem look_f {α : Type} (a : α) : List.lookup ("Form" : Str) [("Form", a)] = some a := Eq.trans rfl rfl
theorem end_place_eq (e : Bool) (d : Int) (m : Mem) (h0 : 0 ≤ d) : m_need_end_place [.d (gd (e, d))] m = .ok (.d .non) m := by
  have hn : ¬ d < 0 := by omega
  have hi : oInT true "ENDS" [("top", "t"), ("bottom", "b")] (.d (.str (endS e))) (.d (.gl "ENDS")) m = .ok (.d (.bl false)) m := by
    have z : oInT true "ENDS" [("top", "t"), ("bottom", "b")] (.d (.str (endS e))) (.d (.gl "ENDS")) m = .ok (.d (.bl (!(([("top", "t"), ("bottom", "b")] : List (Str × Str)).lookup (endS e)).isSome))) m := by
      unfold oInT
      simp
    rw [z]
    cases e
    · have : (([("top", "t"), ("bottom", "b")] : List (Str × Str)).lookup (endS false)).isSome = true := by decide +kernel
      rw [this]; rfl
    · have : (([("top", "t"), ("bottom", "b")] : List (Str × Str)).lookup (endS true)).isSome = true := by decide +kernel
      rw [this]; rfl
  unfold m_need_end_place
  rw [e_fn]
  simp [b_need_end_place, gd, hi, hn, leave_d]
/-- a form: its map is one to one, its tables are normal and short -/
structure FOk (t : Bool) (s : Int) (A B : List En) (n : Nat) : Prop where
  bij : Bij (look t s A B)
  nA : trim t s true A = A
  nB : trim t s false B = B
  lA : A.length ≤ n
  lB : B.length ≤ n
theorem mulTab_len (f g : Bool → Nat → En) (e : Bool) (n : Int) : (mulTab f g e n).length = n.toNat := by simp [mulTab]
/-- the product's tables -/
def mulA (t1 t2 : Bool) (s1 s2 : Int) (A1 B1 A2 B2 : List En) : List En := trim (mulT t1 t2) (mulS t2 s1 s2) true (mulTab (look t1 s1 A1 B1) (look t2 s2 A2 B2) true (far t1 s1 A1 B1 A2 B2).1)
def mulB (t1 t2 : Bool) (s1 s2 : Int) (A1 B1 A2 B2 : List En) : List En := trim (mulT t1 t2) (mulS t2 s1 s2) false (mulTab (look t1 s1 A1 B1) (look t2 s2 A2 B2) false (far t1 s1 A1 B1 A2 B2).2)
theorem look_mulAB {t1 t2 : Bool} {s1 s2 : Int} {A1 B1 A2 B2 : List En} (h1 : Bij (look t1 s1 A1 B1)) : look (mulT t1 t2) (mulS t2 s1 s2) (mulA t1 t2 s1 s2 A1 B1 A2 B2) (mulB t1 t2 s1 s2 A1 B1 A2 B2) = comp (look t1 s1 A1 B1) (look t2 s2 A2 B2) := by
  unfold mulA mulB
  rw [look_trim, look_mul h1]
/-- a bound on the shift -/
theorem shift_le {t : Bool} {s : Int} {A B : List En} {n : Nat} (h : FOk t s A B n) : -(n : Int) ≤ s ∧ s ≤ n := by
  have p := h.bij.parts
  have p1 := p.p1
  have p2 := p.p2
  have a := h.lA
  have b := h.lB
  unfold cnts at p1 p2
  cases t <;> simp at p1 p2 <;> omega
theorem far_le {t1 : Bool} {s1 : Int} {A1 B1 A2 B2 : List En} {t2 : Bool} {s2 : Int} {n1 n2 : Nat} (h1 : FOk t1 s1 A1 B1 n1) (h2 : FOk t2 s2 A2 B2 n2) : (far t1 s1 A1 B1 A2 B2).1 ≤ n1 + n2 ∧ (far t1 s1 A1 B1 A2 B2).2 ≤ n1 + n2 := by
  have s := shift_le h1
  have a := h1.lA
  have b := h1.lB
  have c := h2.lA
  have d := h2.lB
  unfold far
  cases t1 <;> simp <;> omega
theorem FOk.mul {t1 t2 : Bool} {s1 s2 : Int} {A1 B1 A2 B2 : List En} {n1 n2 : Nat} (h1 : FOk t1 s1 A1 B1 n1) (h2 : FOk t2 s2 A2 B2 n2) : FOk (mulT t1 t2) (mulS t2 s1 s2) (mulA t1 t2 s1 s2 A1 B1 A2 B2) (mulB t1 t2 s1 s2 A1 B1 A2 B2) (n1 + n2) := by
  have f := far_le h1 h2
  refine ⟨by rw [look_mulAB h1.bij]; exact h1.bij.comp h2.bij, by unfold mulA; exact trim_trim .., by unfold mulB; exact trim_trim .., ?_, ?_⟩
  · unfold mulA
    rw [trim_len]
    have := trimN_le (mulT t1 t2) (mulS t2 s1 s2) true (mulTab (look t1 s1 A1 B1) (look t2 s2 A2 B2) true (far t1 s1 A1 B1 A2 B2).1) (mulTab (look t1 s1 A1 B1) (look t2 s2 A2 B2) true (far t1 s1 A1 B1 A2 B2).1).length
    rw [mulTab_len] at this ⊢
    omega
  · unfold mulB
    rw [trim_len]
    have := trimN_le (mulT t1 t2) (mulS t2 s1 s2) false (mulTab (look t1 s1 A1 B1) (look t2 s2 A2 B2) false (far t1 s1 A1 B1 A2 B2).2) (mulTab (look t1 s1 A1 B1) (look t2 s2 A2 B2) false (far t1 s1 A1 B1 A2 B2).2).length
    rw [mulTab_len] at this ⊢
    omega
end GD
/-! LPM: the forms of moves, in plain Lean. -/
namespace GD
open PySem PySem.Spec PyProof.Rows L2 FM
/-- f tells what F does on all piles of 2 R cards and more -/
structure Ply (f : Bool → Nat → En) (R : Nat) (F : Int → Int → Int × Bool) : Prop where
  pos : ∀ e d, 0 ≤ (f e d).2.1
  far : ∀ e d, (f e d).2.1 ≤ (d : Int) + R
  plays : ∀ (n : Int) e (d : Nat), 2 * (R : Int) ≤ n → (d : Int) + R < n → F n (pl e d n) = (pl (f e d).1 (f e d).2.1 n, (f e d).2.2)
theorem Mv.img_go {mv : Mv} {n p : Int} (h : (mv.reach : Int) ≤ n) : mv.img n p = mv.go n p := by
  unfold Mv.img
  rw [if_neg (by omega)]
theorem Mv.ends (mv : Mv) (e : Bool) (d : Nat) (hd : d < mv.reach) : ∃ (e' : Bool) (d' : Int) (c : Bool), 0 ≤ d' ∧ d' ≤ (d : Int) + mv.reach ∧ ∀ n : Int, 2 * (mv.reach : Int) ≤ n → mv.img n (pl e d n) = (pl e' d' n, c) := by
  cases mv with
  | swap t1 d1 t2 d2 =>
    simp only [Mv.reach] at hd ⊢
    by_cases h1 : e = t1 ∧ d = d1
    · refine ⟨t2, d2, false, by omega, by omega, fun n hn => ?_⟩
      obtain ⟨rfl, rfl⟩ := h1
      rw [Mv.img_go (by simp only [Mv.reach]; omega)]
      delta Mv.go; dsimp only
      rw [if_pos rfl]
    · by_cases h2 : e = t2 ∧ d = d2
      · refine ⟨t1, d1, false, by omega, by omega, fun n hn => ?_⟩
        obtain ⟨rfl, rfl⟩ := h2
        rw [Mv.img_go (by simp only [Mv.reach]; omega)]
        delta Mv.go; dsimp only
        rw [if_neg, if_pos rfl]
        unfold pl
        cases e <;> cases t1 <;> simp at * <;> omega
      · refine ⟨e, d, false, by omega, by omega, fun n hn => ?_⟩
        rw [Mv.img_go (by simp only [Mv.reach]; omega)]
        delta Mv.go; dsimp only
        rw [if_neg, if_neg]
        · unfold pl
          cases e <;> cases t2 <;> simp at * <;> omega
        · unfold pl
          cases e <;> cases t1 <;> simp at * <;> omega
  | carry t1 d1 t2 d2 =>
    simp only [Mv.reach] at hd ⊢
    by_cases h1 : e = t1 ∧ d = d1
    · refine ⟨t2, d2, false, by omega, by omega, fun n hn => ?_⟩
      obtain ⟨rfl, rfl⟩ := h1
      rw [Mv.img_go (by simp only [Mv.reach]; omega)]
      delta Mv.go carr; dsimp only
      rw [if_pos rfl]
    · have key : ∀ x : Int, 0 ≤ (d : Int) + x → x ≤ 1 → (∀ n : Int, 2 * ((max d1 d2 + 1 : Nat) : Int) ≤ n → carr (pl t1 d1 n) (pl t2 d2 n) (pl e d n) = pl e ((d : Int) + x) n) → ∃ (e' : Bool) (d' : Int) (c : Bool), 0 ≤ d' ∧ d' ≤ (d : Int) + ((max d1 d2 + 1 : Nat) : Int) ∧ ∀ n : Int, 2 * ((max d1 d2 + 1 : Nat) : Int) ≤ n → (Mv.carry t1 d1 t2 d2).img n (pl e d n) = (pl e' d' n, c) := by
        intro x h0 h2 h
        refine ⟨e, (d : Int) + x, false, h0, by omega, fun n hn => ?_⟩
        rw [Mv.img_go (by simp only [Mv.reach]; omega)]
        delta Mv.go; dsimp only
        rw [h n hn]
      cases t1 <;> cases t2
      · -- bottom to bottom
        cases e
        · by_cases a : d1 < d ∧ d ≤ d2
          · refine key (-1) (by omega) (by omega) fun n hn => ?_
            simp only [pl, carr, Bool.false_eq_true, if_false]
            simp at h1
            rw [if_neg (by omega), if_neg (by omega), if_pos (by omega)]; omega
          · by_cases b : d2 ≤ d ∧ d < d1
            · refine key 1 (by omega) (by omega) fun n hn => ?_
              simp only [pl, carr, Bool.false_eq_true, if_false]
              simp at h1
              rw [if_neg (by omega), if_pos (by omega)]; omega
            · refine key 0 (by omega) (by omega) fun n hn => ?_
              simp only [pl, carr, Bool.false_eq_true, if_false]
              simp at h1
              rw [if_neg (by omega), if_neg (by omega), if_neg (by omega)]; omega
        · refine key 0 (by omega) (by omega) fun n hn => ?_
          simp only [pl, carr, Bool.false_eq_true, if_false, if_true]
          rw [if_neg (by omega), if_neg (by omega), if_neg (by omega)]; omega
      · -- bottom to top
        cases e
        · by_cases a : d1 < d
          · refine key (-1) (by omega) (by omega) fun n hn => ?_
            simp only [pl, carr, Bool.false_eq_true, if_false, if_true]
            rw [if_neg (by omega), if_neg (by omega), if_pos (by omega)]; omega
          · refine key 0 (by omega) (by omega) fun n hn => ?_
            simp only [pl, carr, Bool.false_eq_true, if_false, if_true]
            simp at h1
            rw [if_neg (by omega), if_neg (by omega), if_neg (by omega)]; omega
        · by_cases a : d2 ≤ d
          · refine key 1 (by omega) (by omega) fun n hn => ?_
            simp only [pl, carr, Bool.false_eq_true, if_false, if_true]
            rw [if_neg (by omega), if_neg (by omega), if_pos (by omega)]
          · refine key 0 (by omega) (by omega) fun n hn => ?_
            simp only [pl, carr, Bool.false_eq_true, if_false, if_true]
            rw [if_neg (by omega), if_neg (by omega), if_neg (by omega)]; omega
      · -- top to bottom
        cases e
        · by_cases a : d2 ≤ d
          · refine key 1 (by omega) (by omega) fun n hn => ?_
            simp only [pl, carr, Bool.false_eq_true, if_false, if_true]
            rw [if_neg (by omega), if_pos (by omega)]; omega
          · refine key 0 (by omega) (by omega) fun n hn => ?_
            simp only [pl, carr, Bool.false_eq_true, if_false, if_true]
            rw [if_neg (by omega), if_neg (by omega), if_neg (by omega)]; omega
        · by_cases a : d1 < d
          · refine key (-1) (by omega) (by omega) fun n hn => ?_
            simp only [pl, carr, Bool.false_eq_true, if_false, if_true]
            rw [if_neg (by omega), if_pos (by omega)]; omega
          · refine key 0 (by omega) (by omega) fun n hn => ?_
            simp only [pl, carr, Bool.false_eq_true, if_false, if_true]
            simp at h1
            rw [if_neg (by omega), if_neg (by omega), if_neg (by omega)]; omega
      · -- top to top
        cases e
        · refine key 0 (by omega) (by omega) fun n hn => ?_
          simp only [pl, carr, Bool.false_eq_true, if_false, if_true]
          rw [if_neg (by omega), if_neg (by omega), if_neg (by omega)]; omega
        · by_cases a : d1 < d ∧ d ≤ d2
          · refine key (-1) (by omega) (by omega) fun n hn => ?_
            simp only [pl, carr, Bool.false_eq_true, if_false, if_true]
            simp at h1
            rw [if_neg (by omega), if_pos (by omega)]; omega
          · by_cases b : d2 ≤ d ∧ d < d1
            · refine key 1 (by omega) (by omega) fun n hn => ?_
              simp only [pl, carr, Bool.false_eq_true, if_false, if_true]
              simp at h1
              rw [if_neg (by omega), if_neg (by omega), if_pos (by omega)]
            · refine key 0 (by omega) (by omega) fun n hn => ?_
              simp only [pl, carr, Bool.false_eq_true, if_false, if_true]
              simp at h1
              rw [if_neg (by omega), if_neg (by omega), if_neg (by omega)]; omega
  | cut k =>
    simp only [Mv.reach] at hd ⊢
    have md : ∀ {p n q : Int}, 0 ≤ q → q < n → (p = q ∨ p = q - n ∨ p = q + n) → p % n = q := by
      intro p n q h0 h1 h
      rcases h with h | h | h
      · rw [h, Int.emod_eq_of_lt h0 h1]
      · rw [h, Int.sub_emod_right, Int.emod_eq_of_lt h0 h1]
      · rw [h, Int.add_emod_right, Int.emod_eq_of_lt h0 h1]
    by_cases c : (e = true ∧ (d : Int) < k) ∨ (e = false ∧ (d : Int) < -k)
    · refine ⟨!e, (k.natAbs : Int) - 1 - d, false, by omega, by omega, fun n hn => ?_⟩
      rw [Mv.img_go (by simp only [Mv.reach]; omega)]
      delta Mv.go; dsimp only
      rw [Prod.mk.injEq]
      refine ⟨md ?_ ?_ ?_, rfl⟩ <;> unfold pl <;> cases e <;> simp at * <;> omega
    · cases e
      · refine ⟨false, (d : Int) + k, false, by simp at c; omega, by omega, fun n hn => ?_⟩
        rw [Mv.img_go (by simp only [Mv.reach]; omega)]
        delta Mv.go; dsimp only
        rw [Prod.mk.injEq]
        refine ⟨md ?_ ?_ ?_, rfl⟩ <;> unfold pl <;> simp at * <;> omega
      · refine ⟨true, (d : Int) - k, false, by simp at c; omega, by omega, fun n hn => ?_⟩
        rw [Mv.img_go (by simp only [Mv.reach]; omega)]
        delta Mv.go; dsimp only
        rw [Prod.mk.injEq]
        refine ⟨md ?_ ?_ ?_, rfl⟩ <;> unfold pl <;> simp at * <;> omega
  | turn t m =>
    simp only [Mv.reach] at hd ⊢
    by_cases h : e = t
    · subst h
      refine ⟨e, (m : Int) - 1 - d, true, by omega, by omega, fun n hn => ?_⟩
      rw [Mv.img_go (by simp only [Mv.reach]; omega)]
      delta Mv.go; dsimp only; rw [pl_pl]
      rw [if_pos (by omega)]
    · refine ⟨e, d, false, by omega, by omega, fun n hn => ?_⟩
      rw [Mv.img_go (by simp only [Mv.reach]; omega)]
      delta Mv.go; dsimp only
      rw [if_neg]
      unfold pl
      cases e <;> cases t <;> simp at * <;> omega
  | over => simp [Mv.reach] at hd
  | face t d1 =>
    simp only [Mv.reach] at hd ⊢
    by_cases h : e = t ∧ d = d1
    · obtain ⟨rfl, rfl⟩ := h
      refine ⟨e, d, true, by omega, by omega, fun n hn => ?_⟩
      rw [Mv.img_go (by simp only [Mv.reach]; omega)]
      delta Mv.go; dsimp only
      skip
      simp
    · refine ⟨e, d, false, by omega, by omega, fun n hn => ?_⟩
      rw [Mv.img_go (by simp only [Mv.reach]; omega)]
      delta Mv.go; dsimp only
      rw [Prod.mk.injEq]
      refine ⟨rfl, decide_eq_false ?_⟩
      unfold pl
      cases e <;> cases t <;> simp at * <;> omega
theorem Mv.mid (mv : Mv) : ∃ (t : Bool) (s : Int), s.natAbs ≤ mv.reach ∧ ∀ n p : Int, 2 * (mv.reach : Int) ≤ n → (mv.reach : Int) ≤ p → p + mv.reach < n → mv.img n p = (if t then n - 1 - p + s else p + s, t) := by
  cases mv with
  | swap t1 d1 t2 d2 =>
    refine ⟨false, 0, by simp, fun n p h1 h2 h3 => ?_⟩
    simp only [Mv.reach] at h1 h2 h3
    rw [Mv.img_go (by simp only [Mv.reach]; omega)]
    delta Mv.go; dsimp only
    rw [if_neg, if_neg]
    · simp
    · unfold pl; cases t2 <;> simp <;> omega
    · unfold pl; cases t1 <;> simp <;> omega
  | carry t1 d1 t2 d2 =>
    refine ⟨false, if t1 = t2 then 0 else if t1 then -1 else 1, ?_, fun n p h1 h2 h3 => ?_⟩
    · simp only [Mv.reach]
      split
      · simp
      · split <;> omega
    · simp only [Mv.reach] at h1 h2 h3
      rw [Mv.img_go (by simp only [Mv.reach]; omega)]
      simp only [Mv.go, carr, pl]
      cases t1 <;> cases t2 <;> simp only [Bool.false_eq_true, reduceCtorEq, if_false, if_true, Prod.mk.injEq, and_true]
      · rw [if_neg (by omega), if_neg (by omega), if_neg (by omega)]; omega
      · rw [if_neg (by omega), if_neg (by omega), if_pos (by omega)]
      · rw [if_neg (by omega), if_pos (by omega)]; omega
      · rw [if_neg (by omega), if_neg (by omega), if_neg (by omega)]; omega
  | cut k =>
    refine ⟨false, -k, by simp [Mv.reach], fun n p h1 h2 h3 => ?_⟩
    simp only [Mv.reach] at h1 h2 h3
    rw [Mv.img_go (by simp only [Mv.reach]; omega)]
    delta Mv.go; dsimp only
    rw [Prod.mk.injEq]
    refine ⟨?_, rfl⟩
    rw [Int.emod_eq_of_lt (by omega) (by omega)]
    simp
    omega
  | turn t m =>
    refine ⟨false, 0, by simp, fun n p h1 h2 h3 => ?_⟩
    simp only [Mv.reach] at h1 h2 h3
    rw [Mv.img_go (by simp only [Mv.reach]; omega)]
    delta Mv.go; dsimp only
    rw [if_neg]
    · simp
    · unfold pl; cases t <;> simp <;> omega
  | over =>
    refine ⟨true, 0, by simp, fun n p h1 h2 h3 => ?_⟩
    simp only [Mv.reach] at h1 h2 h3
    rw [Mv.img_go (by simp only [Mv.reach]; omega)]
    delta Mv.go; dsimp only
    skip
    simp
  | face t d =>
    refine ⟨false, 0, by simp, fun n p h1 h2 h3 => ?_⟩
    simp only [Mv.reach] at h1 h2 h3
    rw [Mv.img_go (by simp only [Mv.reach]; omega)]
    delta Mv.go; dsimp only
    rw [Prod.mk.injEq]
    refine ⟨by simp, decide_eq_false ?_⟩
    unfold pl; cases t <;> simp <;> omega
/-! ### what the program reads off -/
def entAt (mv : Mv) (n p : Int) : En := if (mv.img n p).1 < n / 2 then (true, (mv.img n p).1, (mv.img n p).2) else (false, n - 1 - (mv.img n p).1, (mv.img n p).2)
def Mv.N (mv : Mv) : Int := 4 * (mv.reach : Int) + 3
def Mv.ft (mv : Mv) : Bool := (mv.img mv.N (2 * (mv.reach : Int) + 1)).2
def Mv.fs (mv : Mv) : Int := (mv.img mv.N (2 * (mv.reach : Int) + 1)).1 - (2 * (mv.reach : Int) + 1)
def Mv.fA (mv : Mv) : List En := (List.range mv.reach).map fun d : Nat => entAt mv mv.N (d : Int)
def Mv.fB (mv : Mv) : List En := (List.range mv.reach).map fun d : Nat => entAt mv mv.N (mv.N - 1 - (d : Int))
def Mv.f (mv : Mv) : Bool → Nat → En := look mv.ft mv.fs mv.fA mv.fB
theorem Mv.fs_le (mv : Mv) : mv.fs.natAbs ≤ mv.reach ∧ ∀ n p : Int, 2 * (mv.reach : Int) ≤ n → (mv.reach : Int) ≤ p → p + mv.reach < n → mv.img n p = (if mv.ft then n - 1 - p + mv.fs else p + mv.fs, mv.ft) := by
  obtain ⟨t, s, h1, h2⟩ := mv.mid
  have h := h2 mv.N (2 * (mv.reach : Int) + 1) (by unfold Mv.N; omega) (by omega) (by unfold Mv.N; omega)
  have e1 : mv.ft = t := by unfold Mv.ft; rw [h]
  have e2 : mv.fs = s := by
    unfold Mv.fs
    rw [h]
    unfold Mv.N
    cases t <;> simp <;> omega
  rw [e1, e2]
  exact ⟨h1, h2⟩
theorem ent_eq {mv : Mv} {e e' : Bool} {d : Nat} {d' : Int} {c : Bool} (h1 : 0 ≤ d') (h2 : d' ≤ 2 * (mv.reach : Int)) (h : mv.img mv.N (pl e d mv.N) = (pl e' d' mv.N, c)) : entAt mv mv.N (pl e d mv.N) = (e', d', c) := by
  unfold entAt
  rw [h]
  have hN : mv.N / 2 = 2 * (mv.reach : Int) + 1 := by unfold Mv.N; omega
  rw [hN]
  unfold pl Mv.N
  cases e' <;> simp
  · rw [if_neg (by omega)]
    simp
    omega
  · omega
theorem Mv.f_near (mv : Mv) (e : Bool) (d : Nat) (hd : d < mv.reach) : mv.f e d = entAt mv mv.N (pl e d mv.N) := by
  unfold Mv.f
  have hl : d < (tab mv.fA mv.fB e).length := by unfold tab Mv.fA Mv.fB; cases e <;> simp [hd]
  rw [look_in hl]
  cases e <;> simp [tab, Mv.fA, Mv.fB, pl]
theorem Mv.f_out (mv : Mv) (e : Bool) (d : Nat) (hd : mv.reach ≤ d) : mv.f e d = rul mv.ft mv.fs e d := look_out (by unfold tab Mv.fA Mv.fB; cases e <;> simp [hd])
theorem Mv.pl (mv : Mv) : Ply mv.f mv.reach mv.img := by
  have near : ∀ e (d : Nat), d < mv.reach → 0 ≤ (mv.f e d).2.1 ∧ (mv.f e d).2.1 ≤ (d : Int) + mv.reach ∧ ∀ n : Int, 2 * (mv.reach : Int) ≤ n → mv.img n (GD.pl e d n) = (GD.pl (mv.f e d).1 (mv.f e d).2.1 n, (mv.f e d).2.2) := by
    intro e d hd
    obtain ⟨e', d', c, h1, h2, h3⟩ := mv.ends e d hd
    have := ent_eq (e := e) (d := d) h1 (by omega) (h3 mv.N (by unfold Mv.N; omega))
    rw [mv.f_near e d hd, this]
    exact ⟨h1, h2, h3⟩
  obtain ⟨hs, hm⟩ := mv.fs_le
  refine ⟨fun e d => ?_, fun e d => ?_, fun n e d hn hd => ?_⟩
  · by_cases h : d < mv.reach
    · exact (near e d h).1
    · rw [mv.f_out e d (by omega)]
      unfold rul
      cases mv.ft <;> cases e <;> simp <;> omega
  · by_cases h : d < mv.reach
    · exact (near e d h).2.1
    · rw [mv.f_out e d (by omega)]
      unfold rul
      cases mv.ft <;> cases e <;> simp <;> omega
  · by_cases h : d < mv.reach
    · exact (near e d h).2.2 n hn
    · rw [mv.f_out e d (by omega), hm n _ hn (by unfold GD.pl; cases e <;> simp <;> omega) (by unfold GD.pl; cases e <;> simp <;> omega)]
      unfold rul GD.pl
      cases mv.ft <;> cases e <;> simp <;> omega
/-- a play that is one to one at each size has a map that is one to one -/
theorem Ply.bij {f : Bool → Nat → En} {R : Nat} {F : Int → Int → Int × Bool} (h : Ply f R F) (inj : ∀ n p q : Int, 0 ≤ p → p < n → 0 ≤ q → q < n → (F n p).1 = (F n q).1 → p = q) (sur : ∀ n q : Int, 0 ≤ q → q < n → ∃ p, 0 ≤ p ∧ p < n ∧ (F n p).1 = q) : Bij f := by
  refine ⟨h.pos, fun e d e' d' q => ?_, fun g m => ?_⟩
  · have q1 : (goal (f e d)).1 = (goal (f e' d')).1 := congrArg Prod.fst q
    have q2 : (goal (f e d)).2 = (goal (f e' d')).2 := congrArg Prod.snd q
    dsimp only [goal] at q1 q2
    have hn1 := h.plays (2 * (R : Int) + d + d' + 2) e d (by omega) (by omega)
    have hn2 := h.plays (2 * (R : Int) + d + d' + 2) e' d' (by omega) (by omega)
    have z := inj (2 * (R : Int) + d + d' + 2) (pl e d (2 * (R : Int) + d + d' + 2)) (pl e' d' (2 * (R : Int) + d + d' + 2)) (pl_rng (by omega) (by omega)).1 (pl_rng (by omega) (by omega)).2 (pl_rng (by omega) (by omega)).1 (pl_rng (by omega) (by omega)).2 (by rw [hn1, hn2, q1, q2])
    unfold pl at z
    cases e <;> cases e' <;> simp at z ⊢ <;> omega
  · obtain ⟨p, h0, h1, h2⟩ := sur (4 * (R : Int) + 2 * m + 8) (pl g m (4 * (R : Int) + 2 * m + 8)) (pl_rng (by omega) (by omega)).1 (pl_rng (by omega) (by omega)).2
    obtain ⟨e, d, hd, e1⟩ : ∃ (e : Bool) (d : Nat), (d : Int) ≤ 2 * R + m + 4 ∧ p = pl e d (4 * (R : Int) + 2 * m + 8) := by
      by_cases hp : p ≤ 2 * R + m + 4
      · exact ⟨true, p.toNat, by omega, by unfold pl; simp; omega⟩
      · exact ⟨false, (4 * (R : Int) + 2 * m + 8 - 1 - p).toNat, by omega, by unfold pl; simp; omega⟩
    refine ⟨e, d, ?_⟩
    have z := h.plays (4 * (R : Int) + 2 * m + 8) e d (by omega) (by omega)
    rw [← e1] at z
    rw [z] at h2
    have b1 := h.far e d
    have b0 := h.pos e d
    have h2 : pl (f e d).1 (f e d).2.1 (4 * (R : Int) + 2 * m + 8) = pl g m (4 * (R : Int) + 2 * m + 8) := h2
    show ((f e d).1, (f e d).2.1) = _
    generalize (f e d).1 = x at *
    generalize (f e d).2.1 = y at *
    unfold pl at h2
    cases x <;> cases g <;> simp at h2 ⊢ <;> omega
/-- one play and then another -/
theorem Ply.comp {f g : Bool → Nat → En} {R S : Nat} {F G : Int → Int → Int × Bool} (h : Ply f R F) (k : Ply g S G) : Ply (comp f g) (R + S) (fun n p => ((G n (F n p).1).1, !decide ((F n p).2 = (G n (F n p).1).2))) := by
  refine ⟨fun e d => k.pos _ _, fun e d => ?_, fun n e d hn hd => ?_⟩
  · have a := h.far e d
    have a0 := h.pos e d
    have b := k.far (f e d).1 (f e d).2.1.toNat
    show (g (f e d).1 (f e d).2.1.toNat).2.1 ≤ _
    omega
  · have a := h.far e d
    have a0 := h.pos e d
    have z := h.plays n e d (by omega) (by omega)
    have y := k.plays n (f e d).1 (f e d).2.1.toNat (by omega) (by omega)
    have c : (((f e d).2.1.toNat : Nat) : Int) = (f e d).2.1 := by omega
    rw [c] at y
    show (_, _) = _
    rw [z, y]
    rfl
end GD
namespace GD
open PySem PySem.Spec PyProof.Rows L2
open FM
/-! ### forms as wholes -/
structure Fm where
  t : Bool
  s : Int
  A : List En
  B : List En
deriving DecidableEq
def Fm.D (F : Fm) : GD.D := formD F.t F.s F.A F.B
def Fm.f (F : Fm) : Bool → Nat → En := look F.t F.s F.A F.B
def Fm.mul (F G : Fm) : Fm := ⟨mulT F.t G.t, mulS G.t F.s G.s, mulA F.t G.t F.s G.s F.A F.B G.A G.B, mulB F.t G.t F.s G.s F.A F.B G.A G.B⟩
def Fm.one : Fm := ⟨false, 0, [], []⟩
def Fm.Ok (F : Fm) (n : Nat) : Prop := FOk F.t F.s F.A F.B n
def Fm.of (t : Bool) (s : Int) (A B : List En) : Fm := ⟨t, s, trim t s true A, trim t s false B⟩
def Mv.fm (mv : Mv) : Fm := Fm.of mv.ft mv.fs mv.fA mv.fB
def fmOf (mvs : List Mv) : Fm := mvs.foldl (fun a mv => a.mul mv.fm) Fm.one
@[simp] theorem ins_F (F : Fm) (m : Mem) : insOf (.d F.D) m = some (("Form" : Str), (["faced", "moved_by", "first", "last"] : List Str), [.bl F.t, .int F.s, .tup (F.A.map enD), .tup (F.B.map enD)]) := Eq.trans rfl rfl
theorem Fm.Ok.le {F : Fm} {n k : Nat} (h : F.Ok n) (hk : n ≤ k) : F.Ok k := ⟨h.bij, h.nA, h.nB, Nat.le_trans h.lA hk, Nat.le_trans h.lB hk⟩
/-! ### Form.still, Form.of, == -/
end GD
namespace GD
open PySem PySem.Spec PyProof.Rows L2
open FM
@[simp] theorem e_par3 {i j l : Nat} {la : EvL} {ρ : Env} {m : Mem} : sPar3 i j l la ρ m = (la ρ m).lift ρ fun ws m => match ws with
  | [x, y, z] => .nx (((ρ.set i (some x)).set j (some y)).set l (some z)) m
  | _ => .bad := Eq.trans rfl rfl
/-! ### what the laws draw: parts of forms -/
/-! ### normal tables -/
/-! ### a list in another order -/
end GD
namespace GD
open PySem PySem.Spec PyProof.Rows L2
open FM
/-! ### where a form sends a place -/
def Fm.near (F : Fm) (n p : Int) : Bool × Int := if p < F.A.length ∨ (F.B.length : Int) ≤ n - 1 - p then (true, p) else (false, n - 1 - p)
def Fm.ent (F : Fm) (n p : Int) : En := F.f (F.near n p).1 (F.near n p).2.toNat
def Fm.sent (F : Fm) (n p : Int) : Int × Bool := (pl (F.ent n p).1 (F.ent n p).2.1 n, (F.ent n p).2.2)
def Fm.lst (F : Fm) : Nat := F.A.length + F.B.length
theorem Fm.Ok.lst {F : Fm} {n : Nat} (h : F.Ok n) : F.lst ≤ 2 * n := by
  have := h.lA
  have := h.lB
  unfold Fm.lst
  omega
theorem Fm.plays {F : Fm} {R : Nat} {G : Int → Int → Int × Bool} (h : F.Ok R) (k : Ply F.f R G) {n p : Int} (hn : 2 * (R : Int) ≤ n) (h0 : 0 ≤ p) (h1 : p < n) : F.sent n p = G n p := by
  have la := h.lA
  have lb := h.lB
  obtain ⟨d, rfl⟩ := Int.eq_ofNat_of_zero_le h0
  by_cases hp : (d : Int) + R < n
  · have z := k.plays n true d hn hp
    have e : F.ent n d = F.f true d := by
      unfold Fm.ent Fm.near
      rw [if_pos (by omega)]
      rfl
    unfold Fm.sent
    rw [e, ← z]
    rfl
  · obtain ⟨c, hc⟩ : ∃ c : Nat, (c : Int) = n - 1 - d := ⟨(n - 1 - d).toNat, by omega⟩
    have z := k.plays n false c hn (by omega)
    have zp : pl false c n = d := by unfold pl; simp; omega
    rw [zp] at z
    rw [z]
    by_cases hb : (F.B.length : Int) ≤ n - 1 - d
    · have e : F.ent n d = F.f true d := by
        unfold Fm.ent Fm.near
        rw [if_pos (by omega)]
        rfl
      have e1 : F.f true d = rul F.t F.s true d := look_out (by simp [tab]; omega)
      have e2 : F.f false c = rul F.t F.s false c := look_out (by simp [tab]; omega)
      unfold Fm.sent
      rw [e, e1, e2]
      unfold rul pl
      cases F.t <;> simp <;> omega
    · have e : F.ent n d = F.f false c := by
        unfold Fm.ent Fm.near
        rw [if_neg (by omega)]
        have : (n - 1 - (d : Int)).toNat = c := by omega
        simp [this]
      unfold Fm.sent
      rw [e]
end GD
namespace GD
open PySem PySem.Spec PyProof.Rows L2
open NumText TL
/-! ### texts as lists of signs -/
@[simp] theorem e_itxt {a : Ev} {ρ : Env} {m : Mem} : iTxt a ρ m = (a ρ m).bind fun w m => match w with
  | .d (.str x) => .ok (x.cps.toList.map fun c => W.d (.str ⟨#[c]⟩)) m
  | _ => .bad := Eq.trans rfl rfl
@[simp] theorem e_keyT {x : Str} {kvs : Dtab} {ρ : Env} {m : Mem} : iKeyT x kvs ρ m = .ok (kvs.map fun kv => W.d (.str kv.1)) m := Eq.trans rfl rfl
@[simp] theorem e_fsl {mu : Bool} {a : Ev} {lo hi : EvO} {ρ : Env} {m : Mem} : fSl mu a lo hi ρ m = (a ρ m).bind fun x m => (lo ρ m).bind fun l m => (hi ρ m).bind fun h m => oSl mu x l h m := Eq.trans rfl rfl
@[simp] theorem e_pnone {ρ : Env} {m : Mem} : pNone ρ m = .ok none m := Eq.trans rfl rfl
@[simp] theorem e_psome {a : Ev} {ρ : Env} {m : Mem} : pSome a ρ m = (a ρ m).bind fun x m => match x with
  | .d (.int i) => .ok (some i) m
  | _ => .bad := Eq.trans rfl rfl
@[simp] theorem oSl_s {mu : Bool} {x : Str} {lo hi : Option Int} {m : Mem} : oSl mu (.d (.str x)) lo hi m = if x.length ≤ 100000 then .ok (.d (.str (cutS x lo hi))) m else .bad := Eq.trans rfl rfl
@[simp] theorem oStrB_s {x : Str} {m : Mem} : oStrB [.d (.str x)] m = .ok (.d (.str x)) m := Eq.trans rfl rfl
@[simp] theorem oStrB_i {i : Int} {m : Mem} : oStrB [.d (.int i)] m = if i.natAbs < 2 ^ 250 then .ok (.d (.str (Str.ofString (toString i)))) m else .bad := Eq.trans rfl rfl
@[simp] theorem e_fmt {a : Ev} {ρ : Env} {m : Mem} : fFmt a ρ m = (a ρ m).bind fun w m => match w with
  | .d (.int i) => if i.natAbs < 2 ^ 250 then .ok (.d (.str (Str.ofString (toString i)))) m else .bad
  | .d (.str x) => if x.length ≤ 100000 then .ok (.d (.str x)) m else .bad
  | _ => .bad := Eq.trans rfl rfl
@[simp] theorem e_js_nil {acc : Str} {ρ : Env} {m : Mem} : fJs [] acc ρ m = .ok (.d (.str acc)) m := Eq.trans rfl rfl
@[simp] theorem e_js_cons {e : Ev} {es : List Ev} {acc : Str} {ρ : Env} {m : Mem} : fJs (e :: es) acc ρ m = (e ρ m).bind fun w m => match w with
    | .d (.str y) => if (acc ++ y).length ≤ 1000000 then fJs es (acc ++ y) ρ m else .bad
    | _ => .bad := Eq.trans rfl rfl
@[simp] theorem e_joined {es : List Ev} {ρ : Env} {m : Mem} : fJoined es ρ m = fJs es Str.empty ρ m := Eq.trans rfl rfl
@[simp] theorem e_ixc {kvs : List (Str × Str)} {f : Ev} {ρ : Env} {m : Mem} : fIxC kvs f ρ m = (f ρ m).bind fun w m => match w with
  | .d (.str x) => (match kvs.lookup x with
    | some v => .ok (.d (.str v)) m
    | none => .bad)
  | _ => .bad := Eq.trans rfl rfl
@[simp] theorem e_getc {kvs : List (Str × Str)} {f : Ev} {ρ : Env} {m : Mem} : fGetC kvs f ρ m = (f ρ m).bind fun w m => match w with
  | .d (.str x) => .ok (.d (optS (kvs.lookup x))) m
  | _ => .bad := Eq.trans rfl rfl
/-! ### numbers -/
def isDig (c : Nat) : Bool := decide (48 ≤ c) && decide (c ≤ 57)
theorem isDig_iff {c : Nat} : isDig c = true ↔ 48 ≤ c ∧ c ≤ 57 := by simp [isDig]
def natTx (most : Nat) (l : List Nat) : Option Nat := if (1 ≤ l.length ∧ l.length ≤ most) ∧ l.all isDig = true ∧ (l = [48] ∨ l.head? ≠ some 48) then some (digitsVal l) else none
theorem all_dig {l : List Nat} : l.all isDig = true ↔ AllDigits l := by
  rw [List.all_eq_true]
  exact ⟨fun h c hc => isDig_iff.mp (h c hc), fun h c hc => isDig_iff.mpr (h c hc)⟩
/-! ### end places -/
theorem ends_ix {z v : Str} (h : ([("top", "t"), ("bottom", "b")] : Dtab).lookup z = some v) (m : Mem) : oIxT "ENDS" [("top", "t"), ("bottom", "b")] (.d (.gl "ENDS")) (.d (.str z)) m = .ok (.d (.str v)) m := by
  unfold oIxT
  dsimp only
  rw [if_pos rfl, h]
theorem ends_top (m : Mem) : oIxT "ENDS" [("top", "t"), ("bottom", "b")] (.d (.gl "ENDS")) (.d (.str "top")) m = .ok (.d (.str "t")) m := ends_ix (by decide +kernel) m
theorem ends_bottom (m : Mem) : oIxT "ENDS" [("top", "t"), ("bottom", "b")] (.d (.gl "ENDS")) (.d (.str "bottom")) m = .ok (.d (.str "b")) m := ends_ix (by decide +kernel) m
/-! ### numbers as texts -/
def signS (i : Int) : List Nat := if i < 0 then 45 :: numL i.natAbs else numL i.natAbs
theorem tl_int (i : Int) : tl (Str.ofString (toString i)) = signS i := by
  cases i with
  | ofNat n =>
    have h : ¬ (Int.ofNat n < 0) := by show ¬ ((n : Int) < 0); omega
    unfold signS
    rw [if_neg h]
    exact tl_num n
  | negSucc n =>
    have h : Int.negSucc n < 0 := by omega
    unfold signS
    rw [if_pos h]
    have e : (Int.negSucc n).natAbs = n + 1 := rfl
    rw [e, ← tl_num (n + 1), tl_ofString, tl_ofString]
    have e2 : (toString (Int.negSucc n)).toList = '-' :: (toString ((n + 1 : Nat) : Int)).toList := by
      show ("-" ++ (n + 1).repr).toList = _
      rw [String.toList_append]
      rfl
    rw [e2]
    rfl
theorem numL_zero_head {n : Nat} (h : (numL n).head? = some 48) : n = 0 := by
  induction n using Nat.strongRecOn with
  | _ n ih =>
    by_cases h1 : n < 10
    · rw [numL_lt h1] at h
      simp at h
      omega
    · rw [numL_step (by omega)] at h
      have h2 : (numL (n / 10)).head? = some 48 := by
        cases e : numL (n / 10) with
        | nil => exact absurd e (numL_ne _)
        | cons c r => rw [e] at h; exact h
      have := ih (n / 10) (by omega) h2
      omega
theorem natTx_num {n k : Nat} (hk : 0 < k) (h : n < 10 ^ k) : natTx k (numL n) = some n := by
  unfold natTx
  have l1 : 1 ≤ (numL n).length := by
    have := numL_ne n
    cases e : numL n with
    | nil => exact absurd e this
    | cons c r => simp
  have c : numL n = [48] ∨ (numL n).head? ≠ some 48 := by
    by_cases h0 : (numL n).head? = some 48
    · have := numL_zero_head h0
      subst this
      exact .inl rfl
    · exact .inr h0
  rw [if_pos ⟨⟨l1, numL_len hk h⟩, all_dig.mpr (numL_digits n), c⟩, numL_val]
theorem natTx_back {k n : Nat} {l : List Nat} (h : natTx k l = some n) : l = numL n ∧ l.length ≤ k := by
  unfold natTx at h
  split at h
  · rename_i c
    obtain ⟨⟨c1, c2⟩, c3, c4⟩ := c
    cases h
    refine ⟨?_, c2⟩
    have al := all_dig.mp c3
    rcases c4 with c4 | c4
    · subst c4; rfl
    · unfold numL
      have hl : l.length = (l.length - 1) + 1 := by omega
      have t := toDigits_digitsVal (l.length - 1) l hl al (by
        cases l with
        | nil => simp at c1
        | cons c r =>
          have hc := al c List.mem_cons_self
          have : c ≠ 48 := fun z => c4 (by rw [z]; rfl)
          exact .inr ⟨c, r, rfl, by omega⟩)
      rw [t, List.map_map]
      symm
      have : ∀ c ∈ l, (Char.toNat ∘ Char.ofNat) c = c := fun c hc => by
        have := al c hc
        show (Char.ofNat c).toNat = c
        exact (by decide : ∀ c : Nat, c < 58 → (Char.ofNat c).toNat = c) c (by omega)
      rw [List.map_congr_left this, List.map_id']
  · cases h
def endC (e : Bool) : Nat := if e then 116 else 98
def plS (e : Bool) (d : Nat) : List Nat := endC e :: numL d
end GD
namespace GD
open PySem PySem.Spec PyProof.Rows L2
noncomputable section
def b_place_text : Ex :=
    (sSeq (sDrop (fCall m_need_end_place (fCons (fVar 0) fNil)))
    (sRet (fJoined [(fFmt (fOp (oIxT "ENDS" [("top", "t"), ("bottom", "b")]) (fC (.gl "ENDS")) (fOp oIx (fVar 0) (fC (.int 0))))), (fFmt (fOp oIx (fVar 0) (fC (.int 1))))])))
def m_place_text : Fn := fnOf false 1 1 b_place_text
def b_item_text : Ex :=
    (sSeq (sIf (gBool (fOp oEq (fVar 0) (fC (.str "p"))))
    (sRet (fCall m_place_text (fCons (fVar 1) fNil)))
    sNext)
    (sRet (fIf (gBool (fOp oEq (fVar 0) (fC (.str "e")))) (fOp (oIxT "ENDS" [("top", "t"), ("bottom", "b")]) (fC (.gl "ENDS")) (fVar 1)) (fCB oStrB (fCons (fVar 1) fNil)))))
def m_item_text : Fn := fnOf false 2 2 b_item_text
def b_written : Ex :=
    (sRet (fBM isS oJoin (fC (.str " ")) (fCons (fOp oAdd (fLst (fCons (fOp oIx (fVar 0) (fC (.int 0))) fNil)) (fLc (iZipA (fCons (fOp (oIxT "SHAPES" [("swap", "pp"), ("carry", "pp"), ("cut", "k"), ("turn", "eb"), ("over", ""), ("face", "p")]) (fC (.gl "SHAPES")) (fOp oIx (fVar 0) (fC (.int 0)))) (fCons (fSl false (fVar 0) (pSome (fC (.int 1))) pNone) fNil))) (tgTup 2 (tgCons (tgName 1) (tgCons (tgName 2) tgNil))) gYes (fCall m_item_text (fCons (fVar 1) (fCons (fVar 2) fNil))) [1, 2])) fNil)))
def m_written : Fn := fnOf false 1 3 b_written
end
open NumText TL
/-! the texts of moves -/
/-- the text of an end place -/
def endT (e : Bool) : Str := if e then "t" else "b"
def plT (e : Bool) (d : Nat) : Str := endT e ++ Str.ofString (toString (d : Int))
theorem tl_plT (e : Bool) (d : Nat) : tl (plT e d) = plS e d := by
  unfold plT plS
  rw [tl_append, tl_int]
  unfold signS
  have : ¬ ((d : Int) < 0) := by omega
  rw [if_neg this]
  cases e <;> rfl
theorem dig_len {d : Nat} (h : d < 10 ^ 31) : (numL d).length ≤ 31 := (natTx_back (natTx_num (by decide) h)).2
theorem plT_len (e : Bool) {d : Nat} (h : d < 10 ^ 31) : (plT e d).length ≤ 32 := by
  rw [len_tl, tl_plT]
  unfold plS
  have := dig_len h
  simp
  omega
theorem empty_app (x : Str) : Str.empty ++ x = x := ext_tl (by rw [tl_append]; rfl)
theorem ptext_ok (e : Bool) (d : Nat) (m : Mem) (h : d < 10 ^ 31) : m_place_text [.d (gd (e, (d : Int)))] m = .ok (.d (.str (plT e d))) m := by
  refine e_fnr (ws := [.d (gd (e, (d : Int)))]) _ ?_ rfl
  have e1 := end_place_eq e (d : Int) m (by omega)
  have i0 : oIx (.d (gd (e, (d : Int)))) (.d (.int 0)) m = .ok (.d (.str (endS e))) m := rfl
  have i1 : oIx (.d (gd (e, (d : Int)))) (.d (.int 1)) m = .ok (.d (.int (d : Int))) m := rfl
  have i2 : oIxT "ENDS" [("top", "t"), ("bottom", "b")] (.d (.gl "ENDS")) (.d (.str (endS e))) m = .ok (.d (.str (endT e))) m := by
    cases e
    · exact ends_bottom m
    · exact ends_top m
  have lt : (endT e).length ≤ 100000 := by cases e <;> decide +kernel
  have nb : ((d : Int)).natAbs < 2 ^ 250 := by
    have : d < 2 ^ 250 := Nat.lt_of_lt_of_le h (by decide)
    simpa using this
  have l1 := plT_len e h
  have l2 : (endT e).length ≤ 1000000 := by omega
  have l3 : (endT e ++ Str.ofString (toString (d : Int))).length ≤ 1000000 := by
    have : (endT e ++ Str.ofString (toString (d : Int))).length ≤ 32 := l1
    omega
  have z : (fJoined [(fFmt (fOp (oIxT "ENDS" [("top", "t"), ("bottom", "b")]) (fC (.gl "ENDS")) (fOp oIx (fVar 0) (fC (.int 0))))), (fFmt (fOp oIx (fVar 0) (fC (.int 1))))]) [some (.d (gd (e, (d : Int))))] m = .ok (.d (.str (plT e d))) m := by
    rw [e_joined, e_js_cons]
    simp only [e_fmt, e_op, e_c, e_var, List.getElem?_cons_zero, R.bind_ok, i0, i1, i2, if_pos lt, empty_app, if_pos l2, e_js_cons, if_pos nb, if_pos l3, e_js_nil]
    rfl
  simp [-List.mem_cons, -e_joined, b_place_text, e1, z]
/-! items that may be too great -/
/-! the move of a list of words -/
/-! the words of a text -/
abbrev sp : Str := " "
/-! the text of a move -/
def intT (k : Int) : Str := Str.ofString (toString k)
def partsS : Mv → List Str
  | .swap e d f c => ["swap", plT e d, plT f c]
  | .carry e d f c => ["carry", plT e d, plT f c]
  | .cut k => ["cut", intT k]
  | .turn e n => ["turn", endT e, intT n]
  | .over => ["over"]
  | .face e d => ["face", plT e d]
def txtM (mv : Mv) : Str := Str.join sp (partsS mv)
theorem big31 (d : Nat) (h : d ≤ 400) : d < 10 ^ 31 := by omega
theorem endT_len (e : Bool) : (endT e).length = 1 := by cases e <;> decide +kernel
theorem intT_len {k : Int} (h : k.natAbs < 10 ^ 31) : (intT k).length ≤ 32 := by
  have z := dig_len h
  rw [len_tl, intT, tl_int]
  unfold signS
  split
  · simp; omega
  · omega
theorem join1 (a : Str) : Str.join sp [a] = a := rfl
theorem parts_len (mv : Mv) (h : mv.ok) : ∀ p ∈ partsS mv, p.length ≤ 32 := by
  have lit : ∀ w ∈ ([("swap" : Str), "carry", "cut", "turn", "over", "face"] : List Str), w.length ≤ 32 := by decide +kernel
  intro p hp
  cases mv with
  | swap e d f g =>
    have h1 : d ≤ 399 ∧ g ≤ 399 := h
    simp only [partsS, List.mem_cons, List.not_mem_nil, or_false] at hp
    rcases hp with rfl | rfl | rfl
    · exact lit _ (by simp)
    · exact plT_len e (big31 d (by omega))
    · exact plT_len f (big31 g (by omega))
  | carry e d f g =>
    have h1 : d ≤ 399 ∧ g ≤ 399 := h
    simp only [partsS, List.mem_cons, List.not_mem_nil, or_false] at hp
    rcases hp with rfl | rfl | rfl
    · exact lit _ (by simp)
    · exact plT_len e (big31 d (by omega))
    · exact plT_len f (big31 g (by omega))
  | cut k =>
    have h1 : k.natAbs ≤ 400 := h
    simp only [partsS, List.mem_cons, List.not_mem_nil, or_false] at hp
    rcases hp with rfl | rfl
    · exact lit _ (by simp)
    · exact intT_len (by omega)
  | turn e n =>
    have h1 : n ≤ 400 := h
    simp only [partsS, List.mem_cons, List.not_mem_nil, or_false] at hp
    rcases hp with rfl | rfl | rfl
    · exact lit _ (by simp)
    · rw [endT_len]; decide
    · exact intT_len (by omega)
  | over =>
    simp only [partsS, List.mem_cons, List.not_mem_nil, or_false] at hp
    subst hp
    exact lit _ (by simp)
  | face e d =>
    have h1 : d ≤ 399 := h
    simp only [partsS, List.mem_cons, List.not_mem_nil, or_false] at hp
    rcases hp with rfl | rfl
    · exact lit _ (by simp)
    · exact plT_len e (big31 d (by omega))
theorem parts_few (mv : Mv) : (partsS mv).length ≤ 3 := by cases mv <;> simp [partsS]
theorem join_len : ∀ (ps : List Str) (k : Nat), (∀ p ∈ ps, p.length ≤ k) → (Str.join sp ps).length ≤ ps.length * (k + 1)
  | [], k, _ => Nat.zero_le _
  | [a], k, h => by
    have := h a (List.mem_singleton_self _)
    simp [join1]
    omega
  | a :: b :: r, k, h => by
    have z : Str.join sp (a :: b :: r) = a ++ sp ++ Str.join sp (b :: r) := rfl
    have h1 := h a (List.mem_cons_self ..)
    have h2 := join_len (b :: r) k fun p hp => h p (List.mem_cons_of_mem _ hp)
    rw [z, len_tl, tl_append, tl_append, List.length_append, List.length_append, ← len_tl, ← len_tl, ← len_tl, List.length_cons, Nat.succ_mul]
    have : sp.length = 1 := by decide +kernel
    omega
theorem txtM_len (mv : Mv) (h : mv.ok) : (txtM mv).length ≤ 99 := by
  have z := join_len (partsS mv) 32 (parts_len mv h)
  have f := parts_few mv
  have : (partsS mv).length * (32 + 1) ≤ 3 * 33 := Nat.mul_le_mul f (Nat.le_refl _)
  unfold txtM
  omega
/-! writing -/
theorem item_text_p (e : Bool) (d : Nat) (h : d < 10 ^ 31) (m : Mem) : m_item_text [.d (.str "p"), .d (eD e d)] m = .ok (.d (.str (plT e d))) m := by
  refine fn_m rfl ?_
  show b_item_text [some (.d (.str "p")), some (.d (eD e d))] m = _
  have z := ptext_ok e d m h
  unfold b_item_text
  exact es_seqR (es_ifT (et_bool rfl) (es_ret (ev_call (ev_cons (ev_var rfl) ev_nil) z)))
theorem item_text_e (e : Bool) (m : Mem) : m_item_text [.d (.str "e"), .d (.str (endS e))] m = .ok (.d (.str (endT e))) m := by
  refine fn_m rfl ?_
  show b_item_text [some (.d (.str "e")), some (.d (.str (endS e)))] m = _
  have i2 : oIxT "ENDS" [("top", "t"), ("bottom", "b")] (.d (.gl "ENDS")) (.d (.str (endS e))) m = .ok (.d (.str (endT e))) m := by
    cases e
    · exact ends_bottom m
    · exact ends_top m
  unfold b_item_text
  exact es_seq (es_ifF (et_bool rfl) es_next) (es_ret (ev_ifT (et_bool rfl) (ev_op ev_c (ev_var rfl) i2)))
theorem strB_int {k : Int} (h : k.natAbs < 10 ^ 31) (m : Mem) : oStrB [.d (.int k)] m = .ok (.d (.str (intT k))) m := by
  have nb : k.natAbs < 2 ^ 250 := Nat.lt_of_lt_of_le h (by decide)
  rw [oStrB_i, if_pos nb]
  rfl
theorem item_text_i (s : Str) (h1 : (s == ("p" : Str)) = false) (h2 : (s == ("e" : Str)) = false) {k : Int} (h : k.natAbs < 10 ^ 31) (m : Mem) : m_item_text [.d (.str s), .d (.int k)] m = .ok (.d (.str (intT k))) m := by
  refine fn_m rfl ?_
  show b_item_text [some (.d (.str s)), some (.d (.int k))] m = _
  have q1 : ∀ m, oEq (.d (.str s)) (.d (.str "p")) m = .ok (.d (.bl false)) m := fun m => by rw [oEq_ss]; simp at h1; simp [h1]
  have q2 : ∀ m, oEq (.d (.str s)) (.d (.str "e")) m = .ok (.d (.bl false)) m := fun m => by rw [oEq_ss]; simp at h2; simp [h2]
  unfold b_item_text
  exact es_seq (es_ifF (et_bool (ev_op (ev_var rfl) ev_c (q1 m))) es_next) (es_ret (ev_ifF (et_bool (ev_op (ev_var rfl) ev_c (q2 m))) (ev_cb (ev_cons (ev_var rfl) ev_nil) (strB_int h m))))
theorem strs_of : ∀ ys : List Str, strsD (ys.map D.str) = some ys
  | [] => rfl
  | y :: ys => by
    show (strsD (ys.map D.str)).map (y :: ·) = _
    rw [strs_of ys]
    rfl
theorem sum_le : ∀ (ys : List Str) (k : Nat), (∀ p ∈ ys, p.length ≤ k) → (ys.map (·.length)).sum ≤ ys.length * k
  | [], k, _ => Nat.zero_le _
  | y :: ys, k, h => by
    have h1 := h y (List.mem_cons_self ..)
    have h2 := sum_le ys k fun p hp => h p (List.mem_cons_of_mem _ hp)
    rw [List.map_cons, List.sum_cons, List.length_cons, Nat.succ_mul]
    omega
theorem join_ok (ys : List Str) (k : Nat) (h : ∀ p ∈ ys, p.length ≤ k) (hb : ys.length * (k + 1) ≤ 1000000) (m : Mem) : oJoin (.d (.str sp)) [.d (.lst (ys.map D.str))] m = .ok (.d (.str (Str.join sp ys))) m := by
  have s := sum_le ys k h
  have l1 : sp.length = 1 := by decide +kernel
  have c : (ys.map (·.length)).sum + ys.length * sp.length ≤ 16777216 := by
    rw [l1]
    rw [Nat.mul_add] at hb
    omega
  have z : oJoin (.d (.str sp)) [.d (.lst (ys.map D.str))] m = (match strsD (ys.map D.str) with
    | some ys => if (ys.map (·.length)).sum + ys.length * sp.length ≤ 16777216 then .ok (.d (.str (Txt.join sp ys))) m else .bad
    | none => .bad) := rfl
  rw [z, strs_of]
  dsimp only
  rw [if_pos c, join_eq]
theorem written_gen {x : D} {w : Str} {ps : List ((Str × D) × Str)} {m : Mem} (h0 : oIx (.d x) (.d (.int 0)) m = .ok (.d (.str w)) m)
    (hz : ∀ ρ : Env, ρ[0]? = some (some (.d x)) → iZipA (fCons (fOp (oIxT "SHAPES" SHP) (fC (.gl "SHAPES")) (fOp oIx (fVar 0) (fC (.int 0)))) (fCons (fSl false (fVar 0) (pSome (fC (.int 1))) pNone) fNil)) ρ m = .ok (ps.map fun p => W.d (.tup [.str p.1.1, p.1.2])) m)
    (hl : ps.length ≤ 2) (hi : ∀ p ∈ ps, m_item_text [.d (.str p.1.1), .d p.1.2] m = .ok (.d (.str p.2)) m) (hk : ∀ p ∈ w :: ps.map (·.2), p.length ≤ 32) : m_written [.d x] m = .ok (.d (.str (Str.join sp (w :: ps.map (·.2))))) m := by
  refine fn_m rfl ?_
  show b_written [some (.d x), none, none] m = _
  have lc := lc_map (l := ps) (g := tgTup 2 (tgCons (tgName 1) (tgCons (tgName 2) tgNil))) (a := fCall m_item_text (fCons (fVar 1) (fCons (fVar 2) fNil))) (vs := [1, 2]) (fun p : (Str × D) × Str => W.d (.tup [.str p.1.1, p.1.2])) (fun p => D.str p.2) (hz [some (.d x), none, none] rfl) (fun p hp => ⟨_, rfl, ev_call (ev_cons (ev_var rfl) (ev_cons (ev_var rfl) ev_nil)) (hi p hp)⟩) (by omega)
  have ad : oAdd (.d (.lst [.str w])) (.d (.lst (ps.map fun p => D.str p.2))) m = .ok (.d (.lst ((w :: ps.map (·.2)).map D.str))) m := by
    rw [oAdd_ll, if_pos (by simp; omega)]
    simp
  have jn := join_ok (w :: ps.map (·.2)) 32 hk (by simp; omega) m
  have fl : fLst (fCons (fOp oIx (fVar 0) (fC (.int 0))) fNil) [some (.d x), none, none] m = .ok (.d (.lst [.str w])) m := by
    simp [-oIx_t, h0]
  unfold b_written
  refine es_ret ?_
  unfold fBM
  have il : isS (.d (.str sp)) m = true := rfl
  rw [ev_c, R.bind_ok, if_pos il]
  refine Eq.trans (congrArg (fun r : R (List W) => r.bind fun ws m => oJoin (.d (.str sp)) ws m) (ev_cons (ev_op fl lc ad) ev_nil)) ?_
  exact jn
theorem written_eq (mv : Mv) (h : mv.ok) (m : Mem) : m_written [.d mv.D] m = .ok (.d (.str (txtM mv))) m := by
  cases mv with
  | swap e d f c =>
    have h1 : d ≤ 399 ∧ c ≤ 399 := h
    exact written_gen (ps := [(("p", eD e d), plT e d), (("p", eD f c), plT f c)]) rfl (fun ρ hρ => by
      unfold iZipA
      rw [ev_cons (ev_op ev_c (ev_op (ev_var hρ) ev_c (ixt_ok rfl)) rfl) (ev_cons (w := .d (.tup [eD e d, eD f c])) (by unfold fSl; rw [ev_var hρ, R.bind_ok]; rfl) ev_nil)]
      rfl) (by simp) (fun p hp => by
      simp only [List.mem_cons, List.not_mem_nil, or_false] at hp
      rcases hp with rfl | rfl
      · exact item_text_p e d (big31 d (by omega)) m
      · exact item_text_p f c (big31 c (by omega)) m) (parts_len _ h)
  | carry e d f c =>
    have h1 : d ≤ 399 ∧ c ≤ 399 := h
    exact written_gen (ps := [(("p", eD e d), plT e d), (("p", eD f c), plT f c)]) rfl (fun ρ hρ => by
      unfold iZipA
      rw [ev_cons (ev_op ev_c (ev_op (ev_var hρ) ev_c (ixt_ok rfl)) rfl) (ev_cons (w := .d (.tup [eD e d, eD f c])) (by unfold fSl; rw [ev_var hρ, R.bind_ok]; rfl) ev_nil)]
      rfl) (by simp) (fun p hp => by
      simp only [List.mem_cons, List.not_mem_nil, or_false] at hp
      rcases hp with rfl | rfl
      · exact item_text_p e d (big31 d (by omega)) m
      · exact item_text_p f c (big31 c (by omega)) m) (parts_len _ h)
  | cut k =>
    have h1 : k.natAbs ≤ 400 := h
    exact written_gen (ps := [(("k", .int k), intT k)]) rfl (fun ρ hρ => by
      unfold iZipA
      rw [ev_cons (ev_op ev_c (ev_op (ev_var hρ) ev_c (ixt_ok rfl)) rfl) (ev_cons (w := .d (.tup [.int k])) (by unfold fSl; rw [ev_var hρ, R.bind_ok]; rfl) ev_nil)]
      rfl) (by simp) (fun p hp => by
      obtain rfl := List.mem_singleton.mp hp
      exact item_text_i "k" (by decide +kernel) (by decide +kernel) (by omega) m) (parts_len _ h)
  | turn e n =>
    have h1 : n ≤ 400 := h
    exact written_gen (ps := [(("e", .str (endS e)), endT e), (("b", .int (n : Int)), intT (n : Int))]) rfl (fun ρ hρ => by
      unfold iZipA
      rw [ev_cons (ev_op ev_c (ev_op (ev_var hρ) ev_c (ixt_ok rfl)) rfl) (ev_cons (w := .d (.tup [.str (endS e), .int (n : Int)])) (by unfold fSl; rw [ev_var hρ, R.bind_ok]; rfl) ev_nil)]
      rfl) (by simp) (fun p hp => by
      simp only [List.mem_cons, List.not_mem_nil, or_false] at hp
      rcases hp with rfl | rfl
      · exact item_text_e e m
      · exact item_text_i "b" (by decide +kernel) (by decide +kernel) (by omega) m) (parts_len _ h)
  | over =>
    exact written_gen (ps := []) rfl (fun ρ hρ => by
      unfold iZipA
      rw [ev_cons (ev_op ev_c (ev_op (ev_var hρ) ev_c (ixt_ok rfl)) rfl) (ev_cons (w := .d (.tup [])) (by unfold fSl; rw [ev_var hρ, R.bind_ok]; rfl) ev_nil)]
      rfl) (by simp) (fun p hp => by
      cases hp) (parts_len _ h)
  | face e d =>
    have h1 : d ≤ 399 := h
    exact written_gen (ps := [(("p", eD e d), plT e d)]) rfl (fun ρ hρ => by
      unfold iZipA
      rw [ev_cons (ev_op ev_c (ev_op (ev_var hρ) ev_c (ixt_ok rfl)) rfl) (ev_cons (w := .d (.tup [eD e d])) (by unfold fSl; rw [ev_var hρ, R.bind_ok]; rfl) ev_nil)]
      rfl) (by simp) (fun p hp => by
      obtain rfl := List.mem_singleton.mp hp
      exact item_text_p e d (big31 d (by omega)) m) (parts_len _ h)
theorem add_s {a b : Str} (h : a.length + b.length ≤ 100000) (m : Mem) : oAdd (.d (.str a)) (.d (.str b)) m = .ok (.d (.str (a ++ b))) m := if_pos h
end GD
namespace GD
open PySem PySem.Spec PyProof.Rows L2
noncomputable section
def b_Word___str__ : Ex :=
    (sRet (fBM isS oJoin (fC (.str "; ")) (fCons (fLc (iSeq (fUn (oFld ["Word"] "steps") (fVar 0))) (tgName 1) gYes (fCall m_written (fCons (fVar 1) fNil)) [1]) fNil)))
def m_Word___str__ : Fn := fnOf false 1 2 b_Word___str__
end
open NumText TL
/-! the texts of words -/
abbrev spW : Str := "; "
def textW (x : List Mv) : Str := Str.join spW (x.map txtM)
theorem join_okW (ys : List Str) (k : Nat) (h : ∀ p ∈ ys, p.length ≤ k) (hb : ys.length * (k + 2) ≤ 1000000) (m : Mem) : oJoin (.d (.str spW)) [.d (.lst (ys.map D.str))] m = .ok (.d (.str (Str.join spW ys))) m := by
  have s := sum_le ys k h
  have l1 : spW.length = 2 := by decide +kernel
  have c : (ys.map (·.length)).sum + ys.length * spW.length ≤ 16777216 := by
    rw [l1]
    rw [Nat.mul_add] at hb
    omega
  have z : oJoin (.d (.str spW)) [.d (.lst (ys.map D.str))] m = (match strsD (ys.map D.str) with
    | some ys => if (ys.map (·.length)).sum + ys.length * spW.length ≤ 16777216 then .ok (.d (.str (Txt.join spW ys))) m else .bad
    | none => .bad) := rfl
  rw [z, strs_of]
  dsimp only
  rw [if_pos c, join_eq]
theorem txts_len (x : List Mv) (h : ∀ mv ∈ x, mv.ok) : ∀ p ∈ x.map txtM, p.length ≤ 99 := fun p hp => by
  obtain ⟨mv, hm, rfl⟩ := List.mem_map.mp hp
  exact txtM_len mv (h mv hm)
theorem wstr_eq (x : List Mv) (h : ∀ mv ∈ x, mv.ok) (hl : x.length ≤ 1000) (m : Mem) : m_Word___str__ [.d (wD x)] m = .ok (.d (.str (textW x))) m := by
  refine e_fnr (ws := [.d (wD x)]) _ ?_ rfl
  show b_Word___str__ [some (.d (wD x)), none] m = _
  have lc := lc_map (l := x) (it := iSeq (fUn (oFld ["Word"] "steps") (fVar 0))) (g := tgName 1) (a := fCall m_written (fCons (fVar 1) fNil)) (vs := [1]) (ρ := [some (.d (wD x)), none]) (m := m) (m0 := m) (W.d ∘ Mv.D) (fun mv => D.str (txtM mv)) (by simp) (fun mv hm => ⟨_, rfl, by simp [wipeE, written_eq mv (h mv hm) m]⟩) (by omega)
  have e : x.map (fun mv => D.str (txtM mv)) = (x.map txtM).map D.str := by rw [List.map_map]; rfl
  rw [e] at lc
  have jn := join_okW (x.map txtM) 99 (txts_len x h) (by rw [List.length_map]; omega) m
  unfold b_Word___str__
  refine es_ret ?_
  unfold fBM
  have il : isS (.d (.str spW)) m = true := rfl
  rw [ev_c, R.bind_ok, if_pos il]
  refine Eq.trans (congrArg (fun r : R (List W) => r.bind fun ws m => oJoin (.d (.str spW)) ws m) (ev_cons lc ev_nil)) ?_
  exact jn
/-! words that are too long -/
/-! reading -/
/-! joined texts, read back -/
/-! sums that are too long -/
end GD
namespace GD
open PySem PySem.Spec PyProof.Rows L2
open FM
/-! LY: the steady size of a word. -/
@[simp] theorem oISub_ii (a b : Int) (m : Mem) : oISub (.d (.int a)) (.d (.int b)) m = .ok (.d (.int (a - b))) m := Eq.trans rfl rfl
@[simp] theorem oIAdd_ii (a b : Int) (m : Mem) : oIAdd (.d (.int a)) (.d (.int b)) m = .ok (.d (.int (a + b))) m := Eq.trans rfl rfl
def runW (x : List Mv) (n : Nat) : List (Int × Bool) := (List.range n).map fun p : Nat => sentF n x ((p : Int), false)
def Fm.run (F : Fm) (n : Nat) : List (Int × Bool) := (List.range n).map fun p : Nat => F.sent n p
/-- down from n while the word is its form -/
def stdN (x : List Mv) (lo : Nat) : Nat → Nat
  | 0 => 0
  | n + 1 => if lo < n + 1 ∧ runW x n = (fmOf x).run n then stdN x lo n else n + 1
def steadyN (x : List Mv) : Nat := stdN x (fmOf x).lst (max (2 * reaches x) (fmOf x).lst)
end GD
/-! WY: ways, in plain Lean: a play f of the places 0 .. n-1 with faces, its rounds, and the pieces of a way. -/
namespace WY
def stp (f : Int → Int × Bool) (r : Int × Bool) : Int × Bool := ((f r.1).1, xor r.2 (f r.1).2)
def it (f : Int → Int × Bool) : Nat → Int × Bool → Int × Bool
  | 0, r => r
  | k + 1, r => it f k (stp f r)
abbrev pos (f : Int → Int × Bool) (k : Nat) (p : Int) : Int := (it f k (p, false)).1
section
variable {f : Int → Int × Bool}
theorem it_add (a b : Nat) : ∀ r, it f (a + b) r = it f b (it f a r) := by
  induction a with
  | zero => intro r; rw [Nat.zero_add]; rfl
  | succ a ih => intro r; rw [Nat.succ_add]; exact ih _
theorem it_face : ∀ (k : Nat) (p : Int) (c : Bool), it f k (p, c) = ((it f k (p, false)).1, xor c (it f k (p, false)).2)
  | 0, p, c => by simp [it]
  | k + 1, p, c => by
    have h1 : it f (k + 1) (p, c) = it f k ((f p).1, xor c (f p).2) := rfl
    have h2 : it f (k + 1) (p, false) = it f k ((f p).1, xor false (f p).2) := rfl
    rw [h1, h2, it_face k _ (xor c (f p).2), it_face k _ (xor false (f p).2)]
    cases c <;> cases (f p).2 <;> cases (it f k ((f p).1, false)).2 <;> rfl
theorem it_pos (k : Nat) (p : Int) (c : Bool) : (it f k (p, c)).1 = pos f k p := by rw [it_face]
theorem it_pos' (k : Nat) (r : Int × Bool) : (it f k r).1 = pos f k r.1 := it_pos k r.1 r.2
theorem pos_add (a b : Nat) (p : Int) : pos f (a + b) p = pos f b (pos f a p) := by
  show (it f (a + b) (p, false)).1 = _
  rw [it_add, it_pos']
end
/-- f moves the places 0 .. n-1 about -/
structure Bij (f : Int → Int × Bool) (n : Int) : Prop where
  rng : ∀ p, 0 ≤ p → p < n → 0 ≤ (f p).1 ∧ (f p).1 < n
  inj : ∀ p q, 0 ≤ p → p < n → 0 ≤ q → q < n → (f p).1 = (f q).1 → p = q
section
variable {f : Int → Int × Bool} {n : Int}
theorem Bij.pos_rng (h : Bij f n) : ∀ (k : Nat) (p : Int), 0 ≤ p → p < n → 0 ≤ pos f k p ∧ pos f k p < n
  | 0, p, h0, h1 => ⟨h0, h1⟩
  | k + 1, p, h0, h1 => by
    rw [show k + 1 = 1 + k from Nat.add_comm k 1, pos_add]
    obtain ⟨a, b⟩ := h.rng p h0 h1
    exact Bij.pos_rng h k _ a b
theorem Bij.pos_inj (h : Bij f n) : ∀ (k : Nat) (p q : Int), 0 ≤ p → p < n → 0 ≤ q → q < n → pos f k p = pos f k q → p = q
  | 0, p, q, _, _, _, _, e => e
  | k + 1, p, q, h0, h1, h2, h3, e => by
    rw [show k + 1 = 1 + k from Nat.add_comm k 1, pos_add, pos_add] at e
    obtain ⟨a, b⟩ := h.rng p h0 h1
    obtain ⟨c, d⟩ := h.rng q h2 h3
    exact h.inj p q h0 h1 h2 h3 (Bij.pos_inj h k _ _ a b c d e)
end
theorem least {P : Nat → Prop} (h : ∃ k, P k) : ∃ k, P k ∧ ∀ j, j < k → ¬ P j := by
  obtain ⟨k, hk⟩ := h
  induction k using Nat.strongRecOn with
  | _ k ih =>
    by_cases hj : ∃ j, j < k ∧ P j
    · obtain ⟨j, h1, h2⟩ := hj
      exact ih j h1 h2
    · exact ⟨k, hk, fun j h1 h2 => hj ⟨j, h1, h2⟩⟩
/-- pigeons -/
theorem nodup_le {α : Type} [DecidableEq α] : ∀ {l m : List α}, l.Nodup → (∀ x ∈ l, x ∈ m) → l.length ≤ m.length
  | [], m, _, _ => Nat.zero_le _
  | a :: l, m, h, hs => by
    rw [List.nodup_cons] at h
    have ha : a ∈ m := hs a (List.mem_cons_self ..)
    have z := nodup_le (l := l) (m := m.erase a) h.2 fun x hx => (List.mem_erase_of_ne (by
      intro e
      subst e
      exact h.1 hx)).mpr (hs x (List.mem_cons_of_mem _ hx))
    rw [List.length_erase_of_mem ha] at z
    have : 0 < m.length := List.length_pos_of_mem ha
    rw [List.length_cons]
    omega
def rngI (a b : Int) : List Int := (List.range (b - a).toNat).map fun k : Nat => a + (k : Int)
theorem mem_rngI {a b p : Int} : p ∈ rngI a b ↔ a ≤ p ∧ p < b := by
  unfold rngI
  rw [List.mem_map]
  constructor
  · rintro ⟨k, hk, rfl⟩
    rw [List.mem_range] at hk
    omega
  · intro h
    exact ⟨(p - a).toNat, by rw [List.mem_range]; omega, by omega⟩
theorem len_rngI (a b : Int) : (rngI a b).length = (b - a).toNat := by simp [rngI]
/-- the first return -/
structure Ret (f : Int → Int × Bool) (p : Int) (L : Nat) : Prop where
  gt : 0 < L
  back : WY.pos f L p = p
  none : ∀ k, 0 < k → k < L → WY.pos f k p ≠ p
section
variable {f : Int → Int × Bool} {n : Int}
theorem Bij.sub (h : Bij f n) {p : Int} (h0 : 0 ≤ p) (h1 : p < n) {i j : Nat} (hij : i < j) (e : pos f i p = pos f j p) : pos f (j - i) p = p := by
  have hj : j = (j - i) + i := by omega
  rw [hj, pos_add] at e
  have r := h.pos_rng (j - i) p h0 h1
  exact (h.pos_inj i p _ h0 h1 r.1 r.2 e).symm
theorem Bij.ret (h : Bij f n) {p : Int} (h0 : 0 ≤ p) (h1 : p < n) : ∃ L : Nat, Ret f p L ∧ (L : Int) ≤ n := by
  have ex : ∃ k : Nat, (0 < k ∧ pos f k p = p) ∧ (k : Int) ≤ n := by
    refine Classical.byContradiction fun hno => ?_
    have nd : ((List.range (n.toNat + 1)).map fun k => pos f k p).Nodup := by
      rw [List.Nodup, List.pairwise_map, List.pairwise_iff_getElem]
      intro i j hi hj hij e
      simp only [List.getElem_range] at e
      simp only [List.length_range] at hj
      exact hno ⟨j - i, ⟨by omega, h.sub h0 h1 hij e⟩, by omega⟩
    have z := nodup_le nd (m := rngI 0 n) fun x hx => by
      obtain ⟨k, _, rfl⟩ := List.mem_map.mp hx
      exact mem_rngI.mpr (h.pos_rng k p h0 h1)
    rw [len_rngI, List.length_map, List.length_range] at z
    omega
  obtain ⟨k, ⟨⟨k1, k2⟩, k3⟩, k4⟩ := least ex
  exact ⟨k, ⟨k1, k2, fun j j1 j2 e => k4 j j2 ⟨⟨j1, e⟩, by omega⟩⟩, k3⟩
end
/-! ### pieces -/
structure Pc where
  first : Int
  step : Int
  count : Nat
  turned : Bool
/-- a piece tells the rounds from its first place on, up to the next one -/
structure Pc.Ok (f : Int → Int × Bool) (c : Pc) (nx : Int) : Prop where
  gt : 0 < c.count
  at_ : ∀ j, j < c.count → it f j (c.first, false) = (c.first + c.step * (j : Int), false)
  end_ : it f c.count (c.first, false) = (nx, c.turned)
/-- the middle: places from which cards go on by the shift -/
structure Mid (f : Int → Int × Bool) (n : Int) where
  on : Bool
  s : Int
  lo : Int
  hi : Int
structure Mid.Ok (f : Int → Int × Bool) (n : Int) (M : Mid f n) : Prop where
  lo0 : 0 ≤ M.lo
  hin : M.hi ≤ n
  s0 : M.on = true → M.s ≠ 0
  go : M.on = true → ∀ p, M.lo ≤ p → p < M.hi → f p = (p + M.s, false)
section
variable {f : Int → Int × Bool} {n : Int}
def Mid.is (M : Mid f n) (p : Int) : Bool := M.on && (decide (M.lo ≤ p) && decide (p < M.hi))
def Mid.cnt (M : Mid f n) (p : Int) : Int := if 0 < M.s then (M.hi - p + M.s - 1) / M.s else (p - M.lo) / (-M.s) + 1
def Mid.run (M : Mid f n) (p st : Int) : Int := if (st - p).fmod M.s = 0 ∧ 0 < (st - p).fdiv M.s ∧ (st - p).fdiv M.s < M.cnt p then (st - p).fdiv M.s else M.cnt p
end
/-! ### the walk along a way -/
section
variable {f : Int → Int × Bool} {n : Int}
def Mid.nxt (M : Mid f n) (st h : Int) : Int := if M.is h then h + M.s * M.run h st else (f h).1
/-! ### how many pieces -/
/-! ### where a card lies after some rounds -/
/-- g undoes f -/
structure Inv (f g : Int → Int × Bool) (n : Int) : Prop where
  bf : Bij f n
  bg : Bij g n
  gf : ∀ p, 0 ≤ p → p < n → g (f p).1 = (p, (f p).2)
  fg : ∀ p, 0 ≤ p → p < n → f (g p).1 = (p, (g p).2)
theorem Inv.symm {g : Int → Int × Bool} (v : Inv f g n) : Inv g f n := ⟨v.bg, v.bf, v.fg, v.gf⟩
end
end WY
namespace GD
open PySem PySem.Spec PyProof.Rows L2
open FM
/-! LV: tracks, the pieces of a way, rounds. -/
@[simp] theorem oDivmod_ii (a b : Int) (m : Mem) : oDivmod [.d (.int a), .d (.int b)] m = if decide (b ≠ 0) && small b then .ok (.d (.tup [.int (a.fdiv b), .int (a.fmod b)])) m else .bad := Eq.trans rfl rfl
@[simp] theorem e_chain {o o' : O2} {a b c : Ev} {ρ : Env} {m : Mem} : fChain o o' a b c ρ m = (a ρ m).bind fun x m => (b ρ m).bind fun y m => (o x y m).bind fun z m => match z with
  | .d (.bl true) => (c ρ m).bind fun w m => o' y w m
  | .d (.bl false) => .ok (.d (.bl false)) m
  | _ => .bad := Eq.trans rfl rfl
def wf (x : List Mv) (n : Int) : Int → Int × Bool := fun p => sentF n x (p, false)
/-! ### the mirrors -/
def trkD (x : List Mv) (n : Int) : D := .obj "Track" ["word", "size", "form", "is_great", "low", "high"] [wD x, .int n, (fmOf x).D, .bl (decide ((steadyN x : Int) ≤ n)), .int ((fmOf x).A.length : Int), .int (n - ((fmOf x).B.length : Int))]
section
variable (x : List Mv) (n : Int) (m : Mem)
@[simp] theorem ins_trk : insOf (.d (trkD x n)) m = some (("Track" : Str), (["word", "size", "form", "is_great", "low", "high"] : List Str), [wD x, .int n, (fmOf x).D, .bl (decide ((steadyN x : Int) ≤ n)), .int ((fmOf x).A.length : Int), .int (n - ((fmOf x).B.length : Int))]) := Eq.trans rfl rfl
@[simp] theorem tf_word : oFld ["Track"] "word" (.d (trkD x n)) m = .ok (.d (wD x)) m := Eq.trans rfl rfl
@[simp] theorem tf_size : oFld ["Track"] "size" (.d (trkD x n)) m = .ok (.d (.int n)) m := Eq.trans rfl rfl
@[simp] theorem tf_form : oFld ["Track"] "form" (.d (trkD x n)) m = .ok (.d (fmOf x).D) m := Eq.trans rfl rfl
@[simp] theorem tf_great : oFld ["Track"] "is_great" (.d (trkD x n)) m = .ok (.d (.bl (decide ((steadyN x : Int) ≤ n)))) m := Eq.trans rfl rfl
@[simp] theorem tf_low : oFld ["Track"] "low" (.d (trkD x n)) m = .ok (.d (.int ((fmOf x).A.length : Int))) m := Eq.trans rfl rfl
@[simp] theorem tf_high : oFld ["Track"] "high" (.d (trkD x n)) m = .ok (.d (.int (n - ((fmOf x).B.length : Int)))) m := Eq.trans rfl rfl
end
theorem app_last (m : Mem) (xs : List D) (d : D) (h : xs.length < 100000) : oAppend (.m m.length) [.d d] (m ++ [.lst xs]) = .ok (.d .non) (m ++ [.lst (xs ++ [d])]) := by
  unfold oAppend
  simp [h]
/-! ### a new track -/
end GD
namespace GD
open PySem PySem.Spec PyProof.Rows L2
noncomputable section
def errs : List Str := ["BadMove", "TooLong", "BadPlace"]
def b_Word___repr__ : Ex :=
    (sRet (fJoined [(fC (.str "Word(")), (fFmt (fCB oLen (fCons (fUn (oFld ["Word"] "steps") (fVar 0)) fNil))), (fC (.str " moves)"))]))
def m_Word___repr__ : Fn := fnOf false 1 1 b_Word___repr__
def b_Word_moves__M : Ex :=
    (sRet (fCB (oList true) (fCons (fUn (oFld ["Word"] "steps") (fVar 0)) fNil)))
def m_Word_moves__M : Fn := fnOf true 1 1 b_Word_moves__M
def b__law_word_of : Ex :=
    (sSeq (sIf (gBool (fOp oEq (fCB oLen (fCons (fVar 0) fNil)) (fC (.int 0))))
    (sRet (fCall m_Word fNil))
    sNext)
    (sSeq (sIf (gBool (fOp oEq (fCB oLen (fCons (fVar 0) fNil)) (fC (.int 1))))
    (sRet (fCall m_Word (fCons (fOp oIx (fVar 0) (fC (.int 0))) fNil)))
    sNext)
    (sRet (fIf (gBool (fOp oEq (fCB oLen (fCons (fVar 0) fNil)) (fC (.int 2)))) (fCall m_Word (fCons (fOp oIx (fVar 0) (fC (.int 0))) (fCons (fOp oIx (fVar 0) (fC (.int 1))) fNil))) (fCall m_Word (fCons (fOp oIx (fVar 0) (fC (.int 0))) (fCons (fOp oIx (fVar 0) (fC (.int 1))) (fCons (fOp oIx (fVar 0) (fC (.int 2))) fNil))))))))
def m__law_word_of : Fn := fnOf false 1 1 b__law_word_of
def ml_law_0 : Ev :=
    (fCall m__law_word_of (fCons (fVar 8) fNil))
def ml_law_1 : Ev :=
    (fCall m_Word (fCons (fTup (fCons (fC (.str "over")) fNil)) (fCons (fVar 10) fNil)))
def lams_law (Z : LamZ) (P : Addr) : List Ev := [ml_law_0, ml_law_1]
def L1_law (Z : LamZ) (P : Addr) : Ex :=
    (sSeq (sAsg (fMeth [("Word", m_Word_moves__M)] "moves" (fVar 4) fNil) (tgName 7))
    (sSeq (sIf (gLend 7 (gNot (gTest (fCall (m__law_same 6) (fCons (fLst (fCons (fVar 7) (fCons (fCB (oLenO [("Word", m_Word___len__)]) (fCons (fVar 4) fNil)) (fCons (fUn (oProp [("Word", m_Word_reach)]) (fVar 4)) (fCons (fCB (oReprO [("Word", m_Word___repr__)]) (fCons (fVar 4) fNil)) fNil))))) (fCons (fLst (fCons (fVar 3) (fCons (fCB oLen (fCons (fVar 3) fNil)) (fCons (fCall m__law_reach (fCons (fVar 3) fNil)) (fCons (fOp oAdd (fOp oAdd (fC (.str "Word(")) (fCB oStrB (fCons (fCB oLen (fCons (fVar 3) fNil)) fNil))) (fC (.str " moves)"))) fNil))))) fNil))))))
    (sRet (fC (.bl false)))
    sNext)
    (sDrop (fBM isL oAppend (fVar 7) (fCons (fTup (fCons (fC (.str "over")) fNil)) fNil)))))
def L2_law (Z : LamZ) (P : Addr) : Ex :=
    (sSeq (sAsg (fCall m__law_moves (fCons (fVar 1) (fCons (fC (.int 3)) (fCons (fC (.int 4)) fNil)))) (tgName 3))
    (sSeq (sPar 4 5 (fCons (fCall m__law_word_of (fCons (fVar 3) fNil)) (fCons (fCall m__law_word_of (fCons (fVar 3) fNil)) fNil)))
    (sSeq (sFor (iRange1 (fCons (fC (.int 2)) fNil)) (tgName 6)
    (L1_law Z P))
    (sSeq (sIf (gOr (gNot (gBool (fOp (oOwnEq [("Word", m_Word___eq__)]) (fVar 4) (fVar 5)))) (gOr (gBool (fOp (oOwnEq [("Word", m_Word___eq__)]) (fVar 4) (fCall m_Word (fCons (fTup (fCons (fC (.str "face")) (fCons (fTup (fCons (fC (.str "top")) (fCons (fC (.int 59)) fNil))) fNil))) fNil)))) (gBool (fOp (oInOwnX [("Word", m_Word___eq__)]) (fVar 4) (fLst (fCons (fC .non) (fCons (fC (.str "")) (fCons (fTup fNil) (fCons (fVar 3) (fCons (fCB oTuple (fCons (fVar 3) fNil)) (fCons (fCB (oStrO [("Word", m_Word___str__)]) (fCons (fVar 4) fNil)) fNil)))))))))))
    (sRet (fC (.bl false)))
    sNext)
    (sSeq (sParG [8, 9] (fCons (fCB (oList true) (fCons (fVar 3) fNil)) (fCons (fCall m__law_pull (fCons (fVar 1) (fCons (fCB oMax (fCons (fC (.int 1)) (fCons (fCB oLen (fCons (fVar 3) fNil)) fNil))) fNil))) fNil)))
    (sSeq (sAsg (fCall m__law_of (fCons (fVar 1) (fCons (fCall m__law_odd_moves fNil) fNil))) (tgName 10))
    (sSeq (sIf (gBool (fOp oNe (fVar 3) (fLst fNil)))
    (sSeq (sAsg (fVar 10) (tgSub (fVar 8) (fVar 9)))
    (sSeq (sAsg (fCall m__law_pull (fCons (fVar 1) (fCons (fCB oLen (fCons (fVar 3) fNil)) fNil))) (tgName 11))
    (sSeq (sFrz 8 (sAsg (fVar 10) (tgSub (fVar 8) (fCB oMax (fCons (fVar 9) (fCons (fVar 11) fNil))))))
    (sIf (gBool (fOp oNe (fTry errs m__law_field Z (lams_law Z P) (fLam 1 P "law.<locals>.<lambda>" Z 0)) (fTup (fCons (fC (.str "BadMove")) (fCons (fVar 9) fNil)))))
    (sRet (fC (.bl false)))
    sNext))))
    sNext)
    (sIf (gBool (fOp oNe (fTry errs m__law_field Z (lams_law Z P) (fLam 1 P "law.<locals>.<lambda>" Z 1)) (fTup (fCons (fC (.str "BadMove")) (fCons (fC (.int 1)) fNil)))))
    (sRet (fC (.bl false)))
    sNext))))))))
def b_law (Z : LamZ) (P : Addr) : Ex :=
    (sTab P "law.<locals>.<lambda>" (sAsg (fCall m__law_bag (fCons (fVar 0) fNil)) (tgName 1))
    (sSeq (sFor (iRange1 (fCons (fC (.int 5)) fNil)) (tgName 2)
    (L2_law Z P))
    (sRet (fAnd (fOp oEq (fLst (fCons (fCVal "Word" 40 (fC (.gl "Word"))) (fCons (fCVal "Word" 60 (fC (.gl "Word"))) (fCons (fUn (oCon [("Word", .int 60)] "MOST_REACH") (fCall m_Word fNil)) fNil)))) (fLst (fCons (fC (.int 40)) (fCons (fC (.int 60)) (fCons (fC (.int 60)) fNil))))) (fOp (oOwnNe [("Word", m_Word___eq__)]) (fCall m_Word (fCons (fTup (fCons (fC (.str "cut")) (fCons (fC (.int 1)) fNil))) fNil)) (fCall m_Word (fCons (fTup (fCons (fC (.str "cut")) (fCons (fUn oNeg (fC (.int 1))) fNil))) fNil)))))))
end
open NumText TL
abbrev nmL : Str := "law.<locals>.<lambda>"
theorem word_of_eq (x : List Mv) (hw : Wok x) (hl : x.length ≤ 3) (m : Mem) : m__law_word_of [.d (.lst (x.map Mv.D))] m = .ok (.d (wD x)) m := by
  have n := new_eq x hw m
  refine e_fnr (ws := [.d (.lst (x.map Mv.D))]) _ ?_ rfl
  match x, hl, n with
  | [], _, n => simp at n; simp [b__law_word_of, n]
  | [a], _, n => simp at n; simp [b__law_word_of, n]
  | [a, b], _, n => simp at n; simp [b__law_word_of, n]
  | [a, b, c], _, n => simp at n; simp [b__law_word_of, n]
theorem word_of_x (ds : List D) (h0 : ds ≠ []) (hl : ds.length ≤ 3) (m : Mem) (c : Str) (ns : List Str) (vs : List D) (n : m_Word (ds.map W.d) m = .exc c ns vs m) : m__law_word_of [.d (.lst ds)] m = .exc c ns vs m := by
  refine e_fnx (ws := [.d (.lst ds)]) (ρ' := [some (.d (.lst ds))]) _ ?_ rfl
  match ds, h0, hl, n with
  | [a], _, _, n => simp at n; simp [b__law_word_of, n]
  | [a, b], _, _, n => simp at n; simp [b__law_word_of, n]
  | [a, b, c], _, _, n => simp at n; simp [b__law_word_of, n]
/-- a word with a bad move -/
theorem new_bad (pre : List Mv) (hp : ∀ mv ∈ pre, mv.ok) (bad : D) (post : List D) (hl : pre.length + post.length ≤ 100) (m : Mem) (hb : m_is_move [.d bad] (m ++ [.ins "Word" [] []]) = .ok (.d (.bl false)) (m ++ [.ins "Word" [] []])) :
    m_Word ((pre.map Mv.D ++ bad :: post).map W.d) m = .exc "BadMove" ["at", "code"] [.int (pre.length : Int), .str "BadMove"] m := by
  obtain ⟨M, eM⟩ : ∃ M, M = m ++ [MO.ins "Word" [] []] := ⟨_, rfl⟩
  obtain ⟨ds, hds⟩ : ∃ ds, ds = pre.map Mv.D ++ bad :: post := ⟨_, rfl⟩
  have lds : ds.length ≤ 101 := by rw [hds]; simp; omega
  rw [← eM] at hb
  have key : ∀ (l : List Mv), (∀ mv ∈ l, mv.ok) → ∀ (i : Nat) (o2 o3 : Option W), i + l.length ≤ 1000 → ∃ ρ', loop (tgUn 2 (tgCons (tgName 2) (tgCons (tgName 3) tgNil))) L1_Word___init__ (enumD i (l.map Mv.D ++ bad :: post)) [some (.m m.length), some (.d (.tup ds)), o2, o3] M = .xc "BadMove" ["at", "code"] [.int ((i + l.length : Nat) : Int), .str "BadMove"] ρ' M := by
    intro l
    induction l with
    | nil =>
      intro _ i o2 o3 hi
      have hi : i ≤ 1000 := hi
      have hf : fmtB (.int (i : Int)) = true := fmt_of (by omega) (by omega)
      refine ⟨[some (.m m.length), some (.d (.tup ds)), some (.d (.int (i : Int))), some (.d bad)], ?_⟩
      simp [loop, enumD, L1_Word___init__, hb, hf, truth]
    | cons mv l ih =>
      intro h i o2 o3 hi
      rw [List.length_cons] at hi
      obtain ⟨ρ', e⟩ := ih (fun z hz => h z (List.mem_cons_of_mem _ hz)) (i + 1) (some (.d (.int (i : Int)))) (some (.d mv.D)) (by omega)
      refine ⟨ρ', ?_⟩
      have st := init_step m.length (.tup ds) (i : Int) mv (h mv (List.mem_cons_self ..)) M
      show loop _ L1_Word___init__ (W.d (.tup [.int (i : Int), mv.D]) :: enumD (i + 1) (l.map Mv.D ++ bad :: post)) _ M = _
      have b1 := loop_cons (g := tgUn 2 (tgCons (tgName 2) (tgCons (tgName 3) tgNil))) (p := L1_Word___init__) (ws := enumD (i + 1) (l.map Mv.D ++ bad :: post)) (w := W.d (.tup [.int (i : Int), mv.D])) (ρ := [some (.m m.length), some (.d (.tup ds)), o2, o3]) (m := M) (ρ1 := [some (.m m.length), some (.d (.tup ds)), some (.d (.int (i : Int))), some (.d mv.D)]) (m1 := M) (by simp) st e
      rw [b1, List.length_cons, show i + 1 + l.length = i + (l.length + 1) by omega]
  obtain ⟨ρ', e⟩ := key pre hp 0 none none (by omega)
  rw [Nat.zero_add] at e
  have body : b_Word___init__ [some (.m m.length), some (.d (.tup ds)), none, none] M = .xc "BadMove" ["at", "code"] [.int (pre.length : Int), .str "BadMove"] ρ' M := by
    rw [← hds] at e
    simp [b_Word___init__, iEnumA, itemsD]
    rw [e]
    rfl
  have e2 : m_Word___init__ (.m m.length :: ds.map W.d) (m ++ [.ins "Word" [] []]) = .exc "BadMove" ["at", "code"] [.int (pre.length : Int), .str "BadMove"] (m ++ [.ins "Word" [] []]) := by
    unfold m_Word___init__ fnStar
    have hd : dats (ds.map W.d) = some ds := by
      have dt : ∀ its : List D, dats (its.map W.d) = some its := fun its => by
        induction its with
        | nil => rfl
        | cons a l ih => simp [ih]
      exact dt ds
    simp only [List.length_cons, List.drop_succ_cons, List.drop_zero, List.take_succ_cons, List.take_zero]
    rw [if_pos (by omega), hd]
    dsimp only
    rw [if_pos (by omega), e_fn]
    rw [eM] at body
    simp [body, List.take_of_length_le]
  rw [← hds]
  unfold m_Word newO
  rw [e2]
  simp
/-! the turn -/
def reprW (n : Nat) : Str := Str.empty ++ ("Word(" : Str) ++ intT (n : Int) ++ " moves)"
theorem repr_eq (x : List Mv) (hl : x.length ≤ 3) (m : Mem) : m_Word___repr__ [.d (wD x)] m = .ok (.d (.str (reprW x.length))) m := by
  refine e_fnr (ws := [.d (wD x)]) _ ?_ rfl
  show b_Word___repr__ [some (.d (wD x))] m = _
  have ap : ∀ a b : Str, (a ++ b).length = a.length + b.length := fun a b => by rw [len_tl, tl_append, List.length_append, ← len_tl, ← len_tl]
  have lD : (intT (x.length : Int)).length ≤ 32 := intT_len (by omega)
  have k1 : ("Word(" : Str).length = 5 := by decide +kernel
  have k2 : (" moves)" : Str).length = 7 := by decide +kernel
  have l0 : Str.empty.length = 0 := rfl
  have nb : ((x.length : Int)).natAbs < 2 ^ 250 := Nat.lt_of_le_of_lt (show ((x.length : Int)).natAbs ≤ 3 by omega) (by decide)
  have b1 : (Str.empty ++ ("Word(" : Str)).length ≤ 1000000 := by rw [ap]; omega
  have b2 : (Str.empty ++ ("Word(" : Str) ++ intT (x.length : Int)).length ≤ 1000000 := by rw [ap, ap]; omega
  have b3 : ((reprW x.length).length ≤ 1000000) = True := eq_true (by unfold reprW; rw [ap, ap, ap]; omega)
  have fs : ∀ k : Int, Str.ofString (toString k) = intT k := fun k => rfl
  have em : Str.empty ++ ("Word(" : Str) ++ intT (x.length : Int) ++ " moves)" = reprW x.length := rfl
  have ul : fCB oLen (fCons (fUn (oFld ["Word"] "steps") (fVar 0)) fNil) [some (.d (wD x))] m = .ok (.d (.int (x.length : Int))) m := by simp
  unfold b_Word___repr__
  refine es_ret ?_
  rw [e_joined, e_js_cons]
  simp only [e_fmt, e_c, R.bind_ok, ul, if_pos nb, fs, if_pos b1, e_js_cons, if_pos b2, em, b3, e_js_nil, if_true]
theorem movesM_eq (x : List Mv) (m : Mem) : m_Word_moves__M [.d (wD x)] m = .ok (.m m.length) (m ++ [.lst (x.map Mv.D)]) := by
  have h : b_Word_moves__M ([W.d (wD x)].map some ++ List.replicate (1 - [W.d (wD x)].length) none) m = .rt (.m m.length) (m ++ [.lst (x.map Mv.D)]) := by
    have q : oList true [.d (.tup (x.map Mv.D))] m = .ok (.m m.length) (m ++ [.lst (x.map Mv.D)]) := rfl
    simp [b_Word_moves__M, q]
  unfold m_Word_moves__M
  rw [fn_ret (mu := true) (np := 1) (N := 1) (ws := [.d (wD x)]) rfl h]
  simp [leave]
theorem lend_eq {i k : Nat} {xs : List D} {t : EvT} {ρ : Env} {m m' : Mem} {b : Bool} (h1 : ρ[i]? = some (some (.m k))) (h2 : m[k]? = some (.lst xs)) (h3 : t ((hideE ρ).set i (some (.d (.lst xs)))) [] = .ok b m') : gLend i t ρ m = .ok b m := by
  unfold gLend
  rw [h1]
  dsimp only
  rw [h2]
  dsimp only
  rw [h3]
theorem test_eq (x : List Mv) (hw : Wok x) (hl : x.length ≤ 3) (ρ : Env) : ρ[3]? = some (some (.d (.lst (x.map Mv.D)))) → ρ[4]? = some (some (.d (wD x))) → ρ[7]? = some (some (.d (.lst (x.map Mv.D)))) → (gNot (gTest (fCall (m__law_same 6) (fCons (fLst (fCons (fVar 7) (fCons (fCB (oLenO [("Word", m_Word___len__)]) (fCons (fVar 4) fNil)) (fCons (fUn (oProp [("Word", m_Word_reach)]) (fVar 4)) (fCons (fCB (oReprO [("Word", m_Word___repr__)]) (fCons (fVar 4) fNil)) fNil))))) (fCons (fLst (fCons (fVar 3) (fCons (fCB oLen (fCons (fVar 3) fNil)) (fCons (fCall m__law_reach (fCons (fVar 3) fNil)) (fCons (fOp oAdd (fOp oAdd (fC (.str "Word(")) (fCB oStrB (fCons (fCB oLen (fCons (fVar 3) fNil)) fNil))) (fC (.str " moves)"))) fNil))))) fNil))))) ρ [] = .ok false [] := fun h3 h4 h7 => by
  have e1 := wlen_eq x []
  have e2 := wreach_eq x [] (by omega)
  have e3 := lreach_eq x [] (by omega)
  have e4 := repr_eq x hl []
  have lo : oLenO [("Word", m_Word___len__)] [.d (wD x)] [] = .ok (.d (.int (x.length : Int))) [] := by
    have q : (0 : Int) ≤ (x.length : Int) ∧ (x.length : Int) < 2 ^ 63 := by omega
    have q2 : (x.length : Int) < 9223372036854775808 := by omega
    unfold oLenO own1
    simp [e1, q2]
  have po : oProp [("Word", m_Word_reach)] (.d (wD x)) [] = .ok (.d (.int (reaches x : Int))) [] := by
    unfold oProp
    simp [e2]
  have ro : oReprO [("Word", m_Word___repr__)] [.d (wD x)] [] = .ok (.d (.str (reprW x.length))) [] := by
    unfold oReprO own1
    simp [e4]
  have sb := strB_int (k := (x.length : Int)) (by omega) []
  have ap : ∀ a b : Str, (a ++ b).length = a.length + b.length := fun a b => by rw [len_tl, tl_append, List.length_append, ← len_tl, ← len_tl]
  have lD : (intT (x.length : Int)).length ≤ 32 := intT_len (by omega)
  have k1 : ("Word(" : Str).length = 5 := by decide +kernel
  have k2 : (" moves)" : Str).length = 7 := by decide +kernel
  have c1 := add_s (a := "Word(") (b := intT (x.length : Int)) (by omega) []
  have c2 := add_s (a := ("Word(" : Str) ++ intT (x.length : Int)) (b := " moves)") (by rw [ap]; omega) []
  have er : ("Word(" : Str) ++ intT (x.length : Int) ++ " moves)" = reprW x.length := by
    unfold reprW
    refine ext_tl ?_
    simp only [tl_append]
    have z : tl Str.empty = [] := rfl
    rw [z, List.nil_append]
  rw [er] at c2
  have s1 := same_refl 6 (.lst [.lst (x.map Mv.D), .int (x.length : Int), .int (reaches x : Int), .str (reprW x.length)]) [] (by
    simp [plainD]
    exact ⟨by omega, fun mv _ => plain_mv mv 1⟩)
  have ln : oLen [.d (.lst (x.map Mv.D))] [] = .ok (.d (.int (x.length : Int))) [] := by simp
  have up : fUn (oProp [("Word", m_Word_reach)]) (fVar 4) ρ [] = .ok (.d (.int (reaches x : Int))) [] := by
    rw [e_un, ev_var h4, GD.R.bind_ok]
    exact po
  exact et_not (et_test (ev_call (ev_cons (ev_lst (ev_cons (ev_var h7) (ev_cons (ev_cb (ev_cons (ev_var h4) ev_nil) lo) (ev_cons up (ev_cons (ev_cb (ev_cons (ev_var h4) ev_nil) ro) ev_nil)))) rfl (by simp)) (ev_cons (ev_lst (ev_cons (ev_var h3) (ev_cons (ev_cb (ev_cons (ev_var h3) ev_nil) ln) (ev_cons (ev_call (ev_cons (ev_var h3) ev_nil) e3) (ev_cons (ev_op (ev_op ev_c (ev_cb (ev_cons (ev_cb (ev_cons (ev_var h3) ev_nil) ln) ev_nil) sb) c1) ev_c c2) ev_nil)))) rfl (by simp)) ev_nil)) s1) rfl)
theorem step1 (Z : LamZ) (P : Addr) (x : List Mv) (hw : Wok x) (hl : x.length ≤ 3) (b : Bag) (R : Mem) (o0 o2 o6 o7 o8 o9 o10 o11 : Option W) : L1_law Z P [o0, some (.m 0), o2, some (.d (.lst (x.map Mv.D))), some (.d (wD x)), some (.d (wD x)), o6, o7, o8, o9, o10, o11] (b.mo :: R) = .nx [o0, some (.m 0), o2, some (.d (.lst (x.map Mv.D))), some (.d (wD x)), some (.d (wD x)), o6, some (.m (R.length + 1)), o8, o9, o10, o11] (b.mo :: (R ++ [.lst (x.map Mv.D ++ [.tup [.str "over"]])])) := by
  have dm : ¬ (("moves" : Str) = "steps") := by decide +kernel
  have mm := movesM_eq x (b.mo :: R)
  have T0 : (sAsg (fMeth [("Word", m_Word_moves__M)] "moves" (fVar 4) fNil) (tgName 7)) [o0, some (.m 0), o2, some (.d (.lst (x.map Mv.D))), some (.d (wD x)), some (.d (wD x)), o6, o7, o8, o9, o10, o11] (b.mo :: R) = .nx [o0, some (.m 0), o2, some (.d (.lst (x.map Mv.D))), some (.d (wD x)), some (.d (wD x)), o6, some (.m (R.length + 1)), o8, o9, o10, o11] (b.mo :: (R ++ [.lst (x.map Mv.D)])) := by
    simp [mm, dm]
  have T1 : (sIf (gLend 7 (gNot (gTest (fCall (m__law_same 6) (fCons (fLst (fCons (fVar 7) (fCons (fCB (oLenO [("Word", m_Word___len__)]) (fCons (fVar 4) fNil)) (fCons (fUn (oProp [("Word", m_Word_reach)]) (fVar 4)) (fCons (fCB (oReprO [("Word", m_Word___repr__)]) (fCons (fVar 4) fNil)) fNil))))) (fCons (fLst (fCons (fVar 3) (fCons (fCB oLen (fCons (fVar 3) fNil)) (fCons (fCall m__law_reach (fCons (fVar 3) fNil)) (fCons (fOp oAdd (fOp oAdd (fC (.str "Word(")) (fCB oStrB (fCons (fCB oLen (fCons (fVar 3) fNil)) fNil))) (fC (.str " moves)"))) fNil))))) fNil)))))) (sRet (fC (.bl false))) sNext) [o0, some (.m 0), o2, some (.d (.lst (x.map Mv.D))), some (.d (wD x)), some (.d (wD x)), o6, some (.m (R.length + 1)), o8, o9, o10, o11] (b.mo :: (R ++ [.lst (x.map Mv.D)])) = .nx [o0, some (.m 0), o2, some (.d (.lst (x.map Mv.D))), some (.d (wD x)), some (.d (wD x)), o6, some (.m (R.length + 1)), o8, o9, o10, o11] (b.mo :: (R ++ [.lst (x.map Mv.D)])) := by
    have te := fun (ρ : Env) => test_eq x hw hl ρ
    have le : gLend 7 (gNot (gTest (fCall (m__law_same 6) (fCons (fLst (fCons (fVar 7) (fCons (fCB (oLenO [("Word", m_Word___len__)]) (fCons (fVar 4) fNil)) (fCons (fUn (oProp [("Word", m_Word_reach)]) (fVar 4)) (fCons (fCB (oReprO [("Word", m_Word___repr__)]) (fCons (fVar 4) fNil)) fNil))))) (fCons (fLst (fCons (fVar 3) (fCons (fCB oLen (fCons (fVar 3) fNil)) (fCons (fCall m__law_reach (fCons (fVar 3) fNil)) (fCons (fOp oAdd (fOp oAdd (fC (.str "Word(")) (fCB oStrB (fCons (fCB oLen (fCons (fVar 3) fNil)) fNil))) (fC (.str " moves)"))) fNil))))) fNil))))) [o0, some (.m 0), o2, some (.d (.lst (x.map Mv.D))), some (.d (wD x)), some (.d (wD x)), o6, some (.m (R.length + 1)), o8, o9, o10, o11] (b.mo :: (R ++ [.lst (x.map Mv.D)])) = .ok false (b.mo :: (R ++ [.lst (x.map Mv.D)])) := by
      have gk : (b.mo :: (R ++ [MO.lst (x.map Mv.D)]))[R.length + 1]? = some (.lst (x.map Mv.D)) := by simp
      exact lend_eq (k := R.length + 1) (xs := x.map Mv.D) rfl gk (te _ rfl rfl rfl)
    exact es_ifF le es_next
  have T2 : (sDrop (fBM isL oAppend (fVar 7) (fCons (fTup (fCons (fC (.str "over")) fNil)) fNil))) [o0, some (.m 0), o2, some (.d (.lst (x.map Mv.D))), some (.d (wD x)), some (.d (wD x)), o6, some (.m (R.length + 1)), o8, o9, o10, o11] (b.mo :: (R ++ [.lst (x.map Mv.D)])) = .nx [o0, some (.m 0), o2, some (.d (.lst (x.map Mv.D))), some (.d (wD x)), some (.d (wD x)), o6, some (.m (R.length + 1)), o8, o9, o10, o11] (b.mo :: (R ++ [.lst (x.map Mv.D ++ [.tup [.str "over"]])])) := by
    have ap := app_last (b.mo :: R) (x.map Mv.D) (.tup [.str "over"]) (by simp; omega)
    have il : isL (.m (R.length + 1)) (b.mo :: (R ++ [.lst (x.map Mv.D)])) = true := by simp [isL, lstOf]
    have ap : oAppend (.m (R.length + 1)) [.d (.tup [.str "over"])] (b.mo :: (R ++ [.lst (x.map Mv.D)])) = .ok (.d .non) (b.mo :: (R ++ [.lst (x.map Mv.D ++ [.tup [.str "over"]])])) := ap
    simp [fBM, il, ap]
  unfold L1_law
  rw [e_seq, T0, seq_nx, e_seq, T1, seq_nx, T2]
/-- a word of small moves is not the word of one great face -/
theorem face_no (x : List Mv) (hb : ∀ mv ∈ x, mv.bnd 4) : eqvW (.tup (x.map Mv.D)) (.tup [Mv.D (.face true 59)]) = false := by
  match x, hb with
  | [], _ => rfl
  | [a], hb =>
    have h1 := Mv.bnd_reach (hb a (List.mem_singleton_self _))
    rw [List.map_cons, eqvW_tc]
    have z : eqvW a.D (Mv.D (.face true 59)) = false := by
      cases a with
      | swap => rw [Mv.D, Mv.D, eqvW_tc, eqvW_ss, show (("swap" : Str) == ("face" : Str)) = false by decide +kernel, Bool.false_and]
      | carry => rw [Mv.D, Mv.D, eqvW_tc, eqvW_ss, show (("carry" : Str) == ("face" : Str)) = false by decide +kernel, Bool.false_and]
      | cut => rw [Mv.D, Mv.D, eqvW_tc, eqvW_ss, show (("cut" : Str) == ("face" : Str)) = false by decide +kernel, Bool.false_and]
      | turn => rw [Mv.D, Mv.D, eqvW_tc, eqvW_ss, show (("turn" : Str) == ("face" : Str)) = false by decide +kernel, Bool.false_and]
      | over => rw [Mv.D, Mv.D, eqvW_tc, eqvW_ss, show (("over" : Str) == ("face" : Str)) = false by decide +kernel, Bool.false_and]
      | face e d =>
        have hd : d + 1 ≤ 5 := h1
        have q : (((d : Nat) : Int) == ((59 : Nat) : Int)) = false := beq_false_of_ne (by omega)
        have q2 : eqvW (.tup [.int (d : Int)]) (.tup [.int ((59 : Nat) : Int)]) = false := by rw [eqvW_tc, eqvW_ii, q, Bool.false_and]
        have q3 : eqvW (eD e d) (eD true 59) = false := by
          show eqvW (.tup [.str (endS e), .int (d : Int)]) (.tup [.str (endS true), .int ((59 : Nat) : Int)]) = false
          rw [eqvW_tc, q2, Bool.and_false]
        rw [Mv.D, Mv.D, eqvW_tc]
        have q4 : eqvW (.tup [eD e d]) (.tup [eD true 59]) = false := by rw [eqvW_tc, q3, Bool.false_and]
        rw [q4, Bool.and_false]
    rw [z, Bool.false_and]
  | a :: b :: r, _ =>
    rw [List.map_cons, List.map_cons, eqvW_tc, eqvW_tcn, Bool.and_false]
theorem word_no (x : List Mv) (y : D) (hy : declD y = true) (m : Mem) : m_Word___eq__ [.d (wD x), .d y] m = .ok (.d (.bl false)) m := by
  refine e_fnr (ws := [.d (wD x), .d y]) _ ?_ rfl
  show b_Word___eq__ [some (.d (wD x)), some (.d y)] m = _
  have q : oIsiC "Word" [.d y, .d (.gl "Word")] m = .ok (.d (.bl false)) m := by
    cases y <;> first | rfl | cases hy
  unfold b_Word___eq__
  refine es_ret ?_
  rw [e_and, ev_cb (ev_cons (ev_var rfl) (ev_cons ev_c ev_nil)) q]
  rfl
theorem in_no (x : List Mv) (S : Str) (m : Mem) : oInOwnX [("Word", m_Word___eq__)] (.d (wD x)) (.d (.lst [.non, .str "", .tup [], .lst (x.map Mv.D), .tup (x.map Mv.D), .str S])) m = .ok (.d (.bl false)) m := by
  have z : wD x = .obj "Word" ["steps"] [.tup (x.map Mv.D)] := rfl
  have n1 := word_no x .non rfl m
  have n2 := fun z => word_no x (.str z) rfl m
  have n3 := fun z => word_no x (.tup z) rfl m
  have n4 := fun z => word_no x (.lst z) rfl m
  have d1 : declD .non = true := rfl
  have d2 : ∀ z, declD (.str z) = true := fun _ => rfl
  have d3 : ∀ z, declD (.tup z) = true := fun _ => rfl
  have d4 : ∀ z, declD (.lst z) = true := fun _ => rfl
  unfold oInOwnX oInOwn
  rw [z] at n1 n2 n3 n4 ⊢
  simp [ownIn, n1, n2, n3, n4, d1, d2, d3, d4]
theorem step3 (Z : LamZ) (P : Addr) (x : List Mv) (hw : Wok x) (hl : x.length ≤ 3) (hb : ∀ mv ∈ x, mv.bnd 4) (m : Mem) (o0 o2 o6 o7 o8 o9 o10 o11 : Option W) : (sIf (gOr (gNot (gBool (fOp (oOwnEq [("Word", m_Word___eq__)]) (fVar 4) (fVar 5)))) (gOr (gBool (fOp (oOwnEq [("Word", m_Word___eq__)]) (fVar 4) (fCall m_Word (fCons (fTup (fCons (fC (.str "face")) (fCons (fTup (fCons (fC (.str "top")) (fCons (fC (.int 59)) fNil))) fNil))) fNil)))) (gBool (fOp (oInOwnX [("Word", m_Word___eq__)]) (fVar 4) (fLst (fCons (fC .non) (fCons (fC (.str "")) (fCons (fTup fNil) (fCons (fVar 3) (fCons (fCB oTuple (fCons (fVar 3) fNil)) (fCons (fCB (oStrO [("Word", m_Word___str__)]) (fCons (fVar 4) fNil)) fNil))))))))))) (sRet (fC (.bl false))) sNext) [o0, some (.m 0), o2, some (.d (.lst (x.map Mv.D))), some (.d (wD x)), some (.d (wD x)), o6, o7, o8, o9, o10, o11] m = .nx [o0, some (.m 0), o2, some (.d (.lst (x.map Mv.D))), some (.d (wD x)), some (.d (wD x)), o6, o7, o8, o9, o10, o11] m := by
  have wf : Wok [Mv.face true 59] := ⟨fun z hz => by rw [List.mem_singleton.mp hz]; simp [Mv.ok], by simp, by simp [reaches, Mv.reach]⟩
  have n := new_eq [Mv.face true 59] wf m
  have n : m_Word [.d (.tup [.str "face", .tup [.str "top", .int 59]])] m = .ok (.d (wD [Mv.face true 59])) m := n
  have h1 : eqP 6 (.tup (x.map Mv.D)) = true := by
    simp only [eqP, List.all_map, List.all_eq_true]
    intro mv _
    exact mv.eqP
  have h2 : eqP 6 (.tup [Mv.D (.face true 59)]) = true := by
    simp only [eqP, List.all_cons, List.all_nil, Bool.and_true]
    exact (Mv.face true 59).eqP
  have oe := oEq_P (m := m) h1 h2 (by decide)
  rw [face_no x hb] at oe
  have we := weq_eq x [Mv.face true 59] m false oe
  have wo : oOwnEq [("Word", m_Word___eq__)] (.d (wD x)) (.d (wD [Mv.face true 59])) m = .ok (.d (.bl false)) m := by
    unfold oOwnEq oOwn
    simp [we]
  have rf := oOwnEq_refl x m (by omega)
  have io := in_no x (textW x) m
  have ws := wstr_eq x hw.ok (by omega) m
  have so : oStrO [("Word", m_Word___str__)] [.d (wD x)] m = .ok (.d (.str (textW x))) m := by
    unfold oStrO own1
    simp [ws]
  have tu : oTuple [.d (.lst (x.map Mv.D))] m = .ok (.d (.tup (x.map Mv.D))) m := rfl
  have fa : fTup (fCons (fC (.str "face")) (fCons (fTup (fCons (fC (.str "top")) (fCons (fC (.int 59)) fNil))) fNil)) [o0, some (.m 0), o2, some (.d (.lst (x.map Mv.D))), some (.d (wD x)), some (.d (wD x)), o6, o7, o8, o9, o10, o11] m = .ok (.d (.tup [.str "face", .tup [.str "top", .int 59]])) m := rfl
  have e0 : fTup fNil [o0, some (.m 0), o2, some (.d (.lst (x.map Mv.D))), some (.d (wD x)), some (.d (wD x)), o6, o7, o8, o9, o10, o11] m = .ok (.d (.tup [])) m := rfl
  exact es_ifF (et_orF (et_not (et_bool (ev_op (ev_var rfl) (ev_var rfl) rf))) (et_orF (et_bool (ev_op (ev_var rfl) (ev_call (ev_cons fa ev_nil) n) wo)) (et_bool (ev_op (ev_var rfl) (ev_lst (ev_cons ev_c (ev_cons ev_c (ev_cons e0 (ev_cons (ev_var rfl) (ev_cons (ev_cb (ev_cons (ev_var rfl) ev_nil) tu) (ev_cons (ev_cb (ev_cons (ev_var rfl) ev_nil) so) ev_nil)))))) rfl (by simp)) io)))) es_next
/-- the two looks -/
theorem looks (Z : LamZ) (P : Addr) (x : List Mv) (hw : Wok x) (hl : x.length ≤ 3) (b : Bag) (R : Mem) (o0 o2 o6 o7 o8 o9 o10 o11 : Option W) : ∃ p6 p7, (sFor (iRange1 (fCons (fC (.int 2)) fNil)) (tgName 6) (L1_law Z P)) [o0, some (.m 0), o2, some (.d (.lst (x.map Mv.D))), some (.d (wD x)), some (.d (wD x)), o6, o7, o8, o9, o10, o11] (b.mo :: R) = .nx [o0, some (.m 0), o2, some (.d (.lst (x.map Mv.D))), some (.d (wD x)), some (.d (wD x)), p6, p7, o8, o9, o10, o11] (b.mo :: (R ++ [.lst (x.map Mv.D ++ [.tup [.str "over"]]), .lst (x.map Mv.D ++ [.tup [.str "over"]])])) := by
  have s0 := step1 Z P x hw hl b R o0 o2 (some (.d (.int ((0 : Nat) : Int)))) o7 o8 o9 o10 o11
  have s1 := step1 Z P x hw hl b (R ++ [.lst (x.map Mv.D ++ [.tup [.str "over"]])]) o0 o2 (some (.d (.int ((1 : Nat) : Int)))) (some (.m (R.length + 1))) o8 o9 o10 o11
  rw [List.append_assoc] at s1
  refine ⟨some (.d (.int ((1 : Nat) : Int))), some (.m ((R ++ [MO.lst (x.map Mv.D ++ [.tup [.str "over"]])]).length + 1)), ?_⟩
  exact es_for (rng_eq 2 (by decide) (ev_cons ev_c ev_nil)) (loop_cons (g := tgName 6) (w := .d (.int ((0 : Nat) : Int))) rfl s0 (loop_cons (w := .d (.int ((1 : Nat) : Int))) rfl s1 loop_nil))
theorem last_ok (ρ : Env) (m : Mem) : (sRet (fAnd (fOp oEq (fLst (fCons (fCVal "Word" 40 (fC (.gl "Word"))) (fCons (fCVal "Word" 60 (fC (.gl "Word"))) (fCons (fUn (oCon [("Word", .int 60)] "MOST_REACH") (fCall m_Word fNil)) fNil)))) (fLst (fCons (fC (.int 40)) (fCons (fC (.int 60)) (fCons (fC (.int 60)) fNil))))) (fOp (oOwnNe [("Word", m_Word___eq__)]) (fCall m_Word (fCons (fTup (fCons (fC (.str "cut")) (fCons (fC (.int 1)) fNil))) fNil)) (fCall m_Word (fCons (fTup (fCons (fC (.str "cut")) (fCons (fUn oNeg (fC (.int 1))) fNil))) fNil))))) ρ m = .rt (.d (.bl true)) m := by
  have w1 : Wok [Mv.cut 1] := ⟨fun z hz => by rw [List.mem_singleton.mp hz]; simp [Mv.ok], by simp, by simp [reaches, Mv.reach]⟩
  have w2 : Wok [Mv.cut (-1)] := ⟨fun z hz => by rw [List.mem_singleton.mp hz]; simp [Mv.ok], by simp, by simp [reaches, Mv.reach]⟩
  have w0 : Wok [] := ⟨(fun z hz => by cases hz), (by simp), (by simp [reaches])⟩
  have n0 : m_Word [] m = .ok (.d (wD [])) m := new_eq [] w0 m
  have n1 : m_Word [.d (.tup [.str "cut", .int 1])] m = .ok (.d (wD [Mv.cut 1])) m := new_eq [Mv.cut 1] w1 m
  have n2 : m_Word [.d (.tup [.str "cut", .int (-1)])] m = .ok (.d (wD [Mv.cut (-1)])) m := new_eq [Mv.cut (-1)] w2 m
  have h1 : ∀ k : Int, eqP 6 (.tup ([Mv.cut k].map Mv.D)) = true := fun k => by
    simp only [List.map_cons, List.map_nil, eqP, List.all_cons, List.all_nil, Bool.and_true]
    exact (Mv.cut k).eqP
  have oe := oEq_P (m := m) (h1 1) (h1 (-1)) (by decide)
  have ff : eqvW (.tup ([Mv.cut 1].map Mv.D)) (.tup ([Mv.cut (-1)].map Mv.D)) = false := by
    have q : eqvW (Mv.cut 1).D (Mv.cut (-1)).D = false := by
      have q2 : eqvW (.tup [.int 1]) (.tup [.int (-1)]) = false := by rw [eqvW_tc, eqvW_ii, show ((1 : Int) == -1) = false by decide, Bool.false_and]
      rw [Mv.D, Mv.D, eqvW_tc, q2, Bool.and_false]
    rw [List.map_cons, List.map_cons, eqvW_tc, q, Bool.false_and]
  rw [ff] at oe
  have we := weq_eq [Mv.cut 1] [Mv.cut (-1)] m false oe
  have wo : oOwnNe [("Word", m_Word___eq__)] (.d (wD [Mv.cut 1])) (.d (wD [Mv.cut (-1)])) m = .ok (.d (.bl true)) m := by
    unfold oOwnNe oOwn
    simp [we]
  have c1 : fCVal "Word" 40 (fC (.gl "Word")) ρ m = .ok (.d (.int 40)) m := rfl
  have c2 : fCVal "Word" 60 (fC (.gl "Word")) ρ m = .ok (.d (.int 60)) m := rfl
  have c3 : oCon [("Word", .int 60)] "MOST_REACH" (.d (wD [])) m = .ok (.d (.int 60)) m := rfl
  have q1 : oEq (.d (.lst [.int 40, .int 60, .int 60])) (.d (.lst [.int 40, .int 60, .int 60])) m = .ok (.d (.bl true)) m := rfl
  have f1 : fTup (fCons (fC (.str "cut")) (fCons (fC (.int 1)) fNil)) ρ m = .ok (.d (.tup [.str "cut", .int 1])) m := rfl
  have f2 : fTup (fCons (fC (.str "cut")) (fCons (fUn oNeg (fC (.int 1))) fNil)) ρ m = .ok (.d (.tup [.str "cut", .int (-1)])) m := rfl
  refine es_ret ?_
  rw [e_and, ev_op (ev_lst (ev_cons c1 (ev_cons c2 (ev_cons (ev_un (ev_call ev_nil n0) c3) ev_nil))) rfl) (ev_lst (ev_cons ev_c (ev_cons ev_c (ev_cons ev_c ev_nil))) rfl) q1]
  exact ev_op (ev_call (ev_cons f1 ev_nil) n1) (ev_call (ev_cons f2 ev_nil) n2) wo
theorem bentM (xs : List D) (a l : Nat) (bad : D) (ha : a < xs.length) : (xs.set a bad).set (max a l) bad = xs.take a ++ bad :: ((xs.set a bad).set (max a l) bad).drop (a + 1) := by
  obtain ⟨Q, hQ⟩ : ∃ Q, Q = (xs.set a bad).set (max a l) bad := ⟨_, rfl⟩
  have lQ : Q.length = xs.length := by rw [hQ]; simp
  have q1 : Q.take a = xs.take a := by rw [hQ, List.take_set_of_le (by omega), List.take_set_of_le (by omega)]
  have q2 : Q[a]'(by omega) = bad := by
    subst hQ
    rw [List.getElem_set]
    split
    · rfl
    · rw [List.getElem_set_self]
  rw [← hQ, ← q1, ← q2, ← List.drop_eq_getElem_cons (by omega), List.take_append_drop]
theorem sub_at (k : Nat) (xs : List D) (i : Nat) (d : D) (fi : Ev) (ρ : Env) (m : Mem) (h : i < xs.length) (h8 : ρ[8]? = some (some (.m k))) (hk : m[k]? = some (.lst xs)) (hi : fi ρ m = .ok (.d (.int (i : Int))) m) : tgSub (fVar 8) fi (.d d) ρ m = .ok ρ (m.set k (.lst (xs.set i d))) := by
  unfold tgSub
  rw [ev_var h8, R.bind_ok, hi, R.bind_ok]
  dsimp only
  rw [hk]
  dsimp only
  have q : ixN xs.length (i : Int) = some i := by
    unfold ixN
    simp [h]
  rw [q]
theorem step6 (Z : LamZ) (P : Addr) (x : List Mv) (hw : Wok x) (hl : x.length ≤ 3) (b : Bag) (R : Mem) (hr : R.length ≤ 14) (at_ : Nat) (ha : at_ < max 1 x.length) (bad : D) (hbad : bad ∈ oddM) (o0 o2 o6 o7 o11 : Option W) : ∃ (b' : Bag) (last : MO) (p8 p11 : Option W), (sIf (gBool (fOp oNe (fVar 3) (fLst fNil))) (sSeq (sAsg (fVar 10) (tgSub (fVar 8) (fVar 9))) (sSeq (sAsg (fCall m__law_pull (fCons (fVar 1) (fCons (fCB oLen (fCons (fVar 3) fNil)) fNil))) (tgName 11)) (sSeq (sFrz 8 (sAsg (fVar 10) (tgSub (fVar 8) (fCB oMax (fCons (fVar 9) (fCons (fVar 11) fNil)))))) (sIf (gBool (fOp oNe (fTry errs m__law_field Z (lams_law Z P) (fLam 1 P "law.<locals>.<lambda>" Z 0)) (fTup (fCons (fC (.str "BadMove")) (fCons (fVar 9) fNil))))) (sRet (fC (.bl false))) sNext)))) sNext) [o0, some (.m 0), o2, some (.d (.lst (x.map Mv.D))), some (.d (wD x)), some (.d (wD x)), o6, o7, some (.m (R.length + 2)), some (.d (.int (at_ : Int))), some (.d bad), o11] (b.mo :: (.tab P nmL :: R ++ [.lst (x.map Mv.D)])) = .nx [o0, some (.m 0), o2, some (.d (.lst (x.map Mv.D))), some (.d (wD x)), some (.d (wD x)), o6, o7, p8, some (.d (.int (at_ : Int))), some (.d bad), p11] (b'.mo :: (.tab P nmL :: R ++ [last])) := by
  cases hx : x with
  | nil =>
    have ne : oNe (.d (.lst [])) (.d (.lst [])) (b.mo :: (.tab P nmL :: R ++ [.lst []])) = .ok (.d (.bl false)) (b.mo :: (.tab P nmL :: R ++ [.lst []])) := rfl
    exact ⟨b, .lst [], some (.m (R.length + 2)), o11, es_ifF (et_bool (ev_op (ev_var rfl) (ev_lst ev_nil rfl) ne)) es_next⟩
  | cons x0 x1 =>
    rw [← hx]
    have l1 : 0 < x.length := by rw [hx]; simp
    have la : at_ < x.length := by omega
    have ne : oNe (.d (.lst (x.map Mv.D))) (.d (.lst [])) (b.mo :: (.tab P nmL :: R ++ [.lst (x.map Mv.D)])) = .ok (.d (.bl true)) (b.mo :: (.tab P nmL :: R ++ [.lst (x.map Mv.D)])) := by
      have h1 : eqP 6 (.lst (x.map Mv.D)) = true := by
        simp only [eqP, List.all_map, List.all_eq_true]
        intro mv _
        exact mv.eqP
      rw [oNe_P h1 (n := 6) rfl (by decide), hx, List.map_cons, eqvW_lcn]
      rfl
    have gm : ∀ (c : Bag) (L : MO), (c.mo :: (.tab P nmL :: R ++ [L]))[R.length + 2]? = some L := fun c L => by simp
    have sm_ : ∀ (c : Bag) (L L' : MO), (c.mo :: (.tab P nmL :: R ++ [L])).set (R.length + 2) L' = c.mo :: (.tab P nmL :: R ++ [L']) := fun c L L' => by simp
    have lD : (x.map Mv.D).length = x.length := by simp
    have J0 : (sAsg (fVar 10) (tgSub (fVar 8) (fVar 9))) [o0, some (.m 0), o2, some (.d (.lst (x.map Mv.D))), some (.d (wD x)), some (.d (wD x)), o6, o7, some (.m (R.length + 2)), some (.d (.int (at_ : Int))), some (.d bad), o11] (b.mo :: (.tab P nmL :: R ++ [.lst (x.map Mv.D)])) = .nx [o0, some (.m 0), o2, some (.d (.lst (x.map Mv.D))), some (.d (wD x)), some (.d (wD x)), o6, o7, some (.m (R.length + 2)), some (.d (.int (at_ : Int))), some (.d bad), o11] (b.mo :: (.tab P nmL :: R ++ [.lst ((x.map Mv.D).set at_ bad)])) := by
      have q := sub_at (R.length + 2) (x.map Mv.D) at_ bad (fVar 9) [o0, some (.m 0), o2, some (.d (.lst (x.map Mv.D))), some (.d (wD x)), some (.d (wD x)), o6, o7, some (.m (R.length + 2)), some (.d (.int (at_ : Int))), some (.d bad), o11] (b.mo :: (.tab P nmL :: R ++ [.lst (x.map Mv.D)])) (by omega) rfl (gm b _) (ev_var rfl)
      rw [sm_] at q
      exact es_asg (ev_var rfl) q
    obtain ⟨b4, l_, d4, l0, l2⟩ := pull_any b (.tab P nmL :: R ++ [.lst ((x.map Mv.D).set at_ bad)]) ((x.length : Nat) : Int) (by omega) (by omega)
    obtain ⟨l, rfl⟩ := Int.eq_ofNat_of_zero_le l0
    have ll : l < x.length := by omega
    have J1 : (sAsg (fCall m__law_pull (fCons (fVar 1) (fCons (fCB oLen (fCons (fVar 3) fNil)) fNil))) (tgName 11)) [o0, some (.m 0), o2, some (.d (.lst (x.map Mv.D))), some (.d (wD x)), some (.d (wD x)), o6, o7, some (.m (R.length + 2)), some (.d (.int (at_ : Int))), some (.d bad), o11] (b.mo :: (.tab P nmL :: R ++ [.lst ((x.map Mv.D).set at_ bad)])) = .nx [o0, some (.m 0), o2, some (.d (.lst (x.map Mv.D))), some (.d (wD x)), some (.d (wD x)), o6, o7, some (.m (R.length + 2)), some (.d (.int (at_ : Int))), some (.d bad), some (.d (.int (l : Int)))] (b4.mo :: (.tab P nmL :: R ++ [.lst ((x.map Mv.D).set at_ bad)])) := by
      have q : oLen [.d (.lst (x.map Mv.D))] (b.mo :: (.tab P nmL :: R ++ [.lst ((x.map Mv.D).set at_ bad)])) = .ok (.d (.int ((x.length : Nat) : Int))) (b.mo :: (.tab P nmL :: R ++ [.lst ((x.map Mv.D).set at_ bad)])) := by simp
      exact es_asg (ev_call (ev_cons (ev_var rfl) (ev_cons (ev_cb (ev_cons (ev_var rfl) ev_nil) q) ev_nil)) d4) rfl
    obtain ⟨Q, hQ⟩ : ∃ Q, Q = ((x.map Mv.D).set at_ bad).set (max at_ l) bad := ⟨_, rfl⟩
    have lQ : Q.length = x.length := by rw [hQ]; simp
    have J2 : (sFrz 8 (sAsg (fVar 10) (tgSub (fVar 8) (fCB oMax (fCons (fVar 9) (fCons (fVar 11) fNil)))))) [o0, some (.m 0), o2, some (.d (.lst (x.map Mv.D))), some (.d (wD x)), some (.d (wD x)), o6, o7, some (.m (R.length + 2)), some (.d (.int (at_ : Int))), some (.d bad), some (.d (.int (l : Int)))] (b4.mo :: (.tab P nmL :: R ++ [.lst ((x.map Mv.D).set at_ bad)])) = .nx [o0, some (.m 0), o2, some (.d (.lst (x.map Mv.D))), some (.d (wD x)), some (.d (wD x)), o6, o7, some (.d (.lst Q)), some (.d (.int (at_ : Int))), some (.d bad), some (.d (.int (l : Int)))] (b4.mo :: (.tab P nmL :: R ++ [.dead])) := by
      have mx : oMax [.d (.int (at_ : Int)), .d (.int (l : Int))] (b4.mo :: (.tab P nmL :: R ++ [.lst ((x.map Mv.D).set at_ bad)])) = .ok (.d (.int ((max at_ l : Nat) : Int))) (b4.mo :: (.tab P nmL :: R ++ [.lst ((x.map Mv.D).set at_ bad)])) := by
        rw [oMax_ii]
        have e : (if (l : Int) > (at_ : Int) then (l : Int) else (at_ : Int)) = ((max at_ l : Nat) : Int) := by split <;> omega
        rw [e]
      have q := sub_at (R.length + 2) ((x.map Mv.D).set at_ bad) (max at_ l) bad (fCB oMax (fCons (fVar 9) (fCons (fVar 11) fNil))) [o0, some (.m 0), o2, some (.d (.lst (x.map Mv.D))), some (.d (wD x)), some (.d (wD x)), o6, o7, some (.m (R.length + 2)), some (.d (.int (at_ : Int))), some (.d bad), some (.d (.int (l : Int)))] (b4.mo :: (.tab P nmL :: R ++ [.lst ((x.map Mv.D).set at_ bad)])) (by simp; omega) rfl (gm b4 _) (ev_cb (ev_cons (ev_var rfl) (ev_cons (ev_var rfl) ev_nil)) mx)
      rw [sm_, ← hQ] at q
      have z := es_frz (i := 8) (es_asg (ev_var (n := 10) (w := .d bad) rfl) q) (k := R.length + 2) (xs := Q) rfl (gm b4 _)
      rw [sm_] at z
      exact z
    obtain ⟨M, hM⟩ : ∃ M, M = b4.mo :: (.tab P nmL :: R ++ [.dead]) := ⟨_, rfl⟩
    have bq := bentM (x.map Mv.D) at_ l bad (by omega)
    rw [← hQ] at bq
    have nb := new_bad (x.take at_) (fun mv hm => hw.ok mv (List.mem_of_mem_take hm)) bad (Q.drop (at_ + 1)) (by simp; omega) M (by
      rw [hM]
      exact odd_badN hbad b4.mo (.tab P nmL) (R ++ [.dead] ++ [.ins "Word" [] []]) (by simp; omega))
    rw [List.map_take, ← bq, List.length_take, Nat.min_eq_left (by omega)] at nb
    have wx := word_of_x Q (fun e => by rw [e] at lQ; simp at lQ; omega) (by omega) M _ _ _ nb
    have t0 : fTry errs m__law_field Z (lams_law Z P) (fLam 1 P "law.<locals>.<lambda>" Z 0) [o0, some (.m 0), o2, some (.d (.lst (x.map Mv.D))), some (.d (wD x)), some (.d (wD x)), o6, o7, some (.d (.lst Q)), some (.d (.int (at_ : Int))), some (.d bad), some (.d (.int (l : Int)))] M = .ok (.d (.tup [.str "BadMove", .int (at_ : Int)])) M := by
      refine e_try (i := 0) (f := ml_law_0) (m' := M) (by rw [hM]; simp) rfl (try_BadMove ?_ (by decide +kernel))
      exact ev_call (ev_cons (ev_var rfl) ev_nil) wx
    have du : fTup (fCons (fC (.str "BadMove")) (fCons (fVar 9) fNil)) [o0, some (.m 0), o2, some (.d (.lst (x.map Mv.D))), some (.d (wD x)), some (.d (wD x)), o6, o7, some (.d (.lst Q)), some (.d (.int (at_ : Int))), some (.d bad), some (.d (.int (l : Int)))] M = .ok (.d (.tup [.str "BadMove", .int (at_ : Int)])) M := rfl
    have nr := oNe_refl (m := M) (eqP_code "BadMove" (by decide +kernel) (at_ : Int)) (by decide)
    refine ⟨b4, .dead, some (.d (.lst Q)), some (.d (.int (l : Int))), es_ifT (et_bool (ev_op (ev_var rfl) (ev_lst ev_nil rfl) ne)) ?_⟩
    rw [e_seq, J0, seq_nx, e_seq, J1, seq_nx, e_seq, J2, seq_nx, ← hM]
    exact es_ifF (et_bool (ev_op t0 du nr)) es_next
theorem envL8 {ρ : Env} (hl : ρ.length = 12) (h1 : ρ[1]? = some (some (.m 0))) : ∃ o0 o2 o3 o4 o5 o6 o7 o8 o9 o10 o11, ρ = [o0, some (.m 0), o2, o3, o4, o5, o6, o7, o8, o9, o10, o11] := by
  match ρ, hl, h1 with
  | [o0, o1, o2, o3, o4, o5, o6, o7, o8, o9, o10, o11], _, h1 =>
    have q : o1 = some (.m 0) := Option.some.inj h1
    subst q
    exact ⟨_, _, _, _, _, _, _, _, _, _, _, rfl⟩
/-- the second try -/
theorem step7 (Z : LamZ) (P : Addr) (b : Bag) (R : Mem) (hr : R.length ≤ 15) (bad : D) (hbad : bad ∈ oddM) (o0 o2 o3 o4 o5 o6 o7 o8 o9 o11 : Option W) : (sIf (gBool (fOp oNe (fTry errs m__law_field Z (lams_law Z P) (fLam 1 P "law.<locals>.<lambda>" Z 1)) (fTup (fCons (fC (.str "BadMove")) (fCons (fC (.int 1)) fNil))))) (sRet (fC (.bl false))) sNext) [o0, some (.m 0), o2, o3, o4, o5, o6, o7, o8, o9, some (.d bad), o11] (b.mo :: (.tab P nmL :: R)) = .nx [o0, some (.m 0), o2, o3, o4, o5, o6, o7, o8, o9, some (.d bad), o11] (b.mo :: (.tab P nmL :: R)) := by
  obtain ⟨M, hM⟩ : ∃ M, M = b.mo :: (MO.tab P nmL :: R) := ⟨_, rfl⟩
  have nb := new_bad [.over] (fun mv hm => by rw [List.mem_singleton.mp hm]; trivial) bad [] (by simp) M (by
    rw [hM]
    exact odd_badN hbad b.mo (.tab P nmL) (R ++ [.ins "Word" [] []]) (by simp; omega))
  have nb : m_Word [.d (.tup [.str "over"]), .d bad] M = .exc "BadMove" ["at", "code"] [.int 1, .str "BadMove"] M := nb
  have t0 : fTry errs m__law_field Z (lams_law Z P) (fLam 1 P "law.<locals>.<lambda>" Z 1) [o0, some (.m 0), o2, o3, o4, o5, o6, o7, o8, o9, some (.d bad), o11] M = .ok (.d (.tup [.str "BadMove", .int 1])) M := by
    refine e_try (i := 1) (f := ml_law_1) (m' := M) (by rw [hM]; simp) rfl (try_BadMove ?_ (by decide +kernel))
    have f1 : fTup (fCons (fC (.str "over")) fNil) [o0, some (.m 0), o2, o3, o4, o5, o6, o7, o8, o9, some (.d bad), o11] M = .ok (.d (.tup [.str "over"])) M := rfl
    exact ev_call (ev_cons f1 (ev_cons (ev_var rfl) ev_nil)) nb
  have du : fTup (fCons (fC (.str "BadMove")) (fCons (fC (.int 1)) fNil)) [o0, some (.m 0), o2, o3, o4, o5, o6, o7, o8, o9, some (.d bad), o11] M = .ok (.d (.tup [.str "BadMove", .int 1])) M := rfl
  have nr := oNe_refl (m := M) (eqP_code "BadMove" (by decide +kernel) 1) (by decide)
  rw [← hM]
  exact es_ifF (et_bool (ev_op t0 du nr)) es_next
def JT (P : Addr) (i : Nat) (R : Mem) : Prop := ∃ R', R = .tab P nmL :: R' ∧ R'.length ≤ 3 * i
theorem turn_ok (Z : LamZ) (P : Addr) : TurnOkN 12 5 (L2_law Z P) (JT P) := by
  intro i hi b0 rest ρ hJ hl h1
  obtain ⟨R, rfl, lR⟩ := hJ
  obtain ⟨o0, o2, o3, o4, o5, o6, o7, o8, o9, o10, o11, rfl⟩ := envL8 hl h1
  obtain ⟨b1, x, d1, lx, cx⟩ := moves_drawn b0 (.tab P nmL :: R) 3 4 (by decide) (by decide)
  have wx : Wok x := Wok.of (k := 3) (d := 4) lx cx (by decide) (by decide) (by decide)
  have T0 : (sAsg (fCall m__law_moves (fCons (fVar 1) (fCons (fC (.int 3)) (fCons (fC (.int 4)) fNil)))) (tgName 3)) [o0, some (.m 0), o2, o3, o4, o5, o6, o7, o8, o9, o10, o11] (b0.mo :: (.tab P nmL :: R)) = .nx [o0, some (.m 0), o2, some (.d (.lst (x.map Mv.D))), o4, o5, o6, o7, o8, o9, o10, o11] (b1.mo :: (.tab P nmL :: R)) :=
    es_asg (ev_call (ev_cons (ev_var rfl) (ev_cons ev_c (ev_cons ev_c ev_nil))) d1) rfl
  have T1 : (sPar 4 5 (fCons (fCall m__law_word_of (fCons (fVar 3) fNil)) (fCons (fCall m__law_word_of (fCons (fVar 3) fNil)) fNil))) [o0, some (.m 0), o2, some (.d (.lst (x.map Mv.D))), o4, o5, o6, o7, o8, o9, o10, o11] (b1.mo :: (.tab P nmL :: R)) = .nx [o0, some (.m 0), o2, some (.d (.lst (x.map Mv.D))), some (.d (wD x)), some (.d (wD x)), o6, o7, o8, o9, o10, o11] (b1.mo :: (.tab P nmL :: R)) := by
    have z := word_of_eq x wx lx (b1.mo :: (.tab P nmL :: R))
    simp [z]
  obtain ⟨p6, p7, T2⟩ := looks Z P x wx lx b1 (.tab P nmL :: R) o0 o2 o6 o7 o8 o9 o10 o11
  obtain ⟨L, hL⟩ : ∃ L, L = MO.lst (x.map Mv.D ++ [.tup [.str "over"]]) := ⟨_, rfl⟩
  rw [← hL] at T2
  have T3 := step3 Z P x wx lx cx (b1.mo :: (.tab P nmL :: R ++ [L, L])) o0 o2 p6 p7 o8 o9 o10 o11
  obtain ⟨b2, a_, d2, a0, a1⟩ := pull_any b1 (.tab P nmL :: R ++ [L, L] ++ [.lst (x.map Mv.D)]) ((max 1 x.length : Nat) : Int) (by omega) (by omega)
  obtain ⟨at_, rfl⟩ := Int.eq_ofNat_of_zero_le a0
  obtain ⟨R2, hR2⟩ : ∃ R2, R2 = R ++ [L, L] := ⟨_, rfl⟩
  have lR2 : R2.length ≤ 3 * i + 2 := by rw [hR2]; simp; omega
  have eR : (MO.tab P nmL :: R ++ [L, L] : Mem) = .tab P nmL :: R2 := by rw [hR2]; rfl
  rw [eR] at T2 T3 d2
  have T4 : (sParG [8, 9] (fCons (fCB (oList true) (fCons (fVar 3) fNil)) (fCons (fCall m__law_pull (fCons (fVar 1) (fCons (fCB oMax (fCons (fC (.int 1)) (fCons (fCB oLen (fCons (fVar 3) fNil)) fNil))) fNil))) fNil))) [o0, some (.m 0), o2, some (.d (.lst (x.map Mv.D))), some (.d (wD x)), some (.d (wD x)), p6, p7, o8, o9, o10, o11] (b1.mo :: (.tab P nmL :: R2)) = .nx [o0, some (.m 0), o2, some (.d (.lst (x.map Mv.D))), some (.d (wD x)), some (.d (wD x)), p6, p7, some (.m (R2.length + 2)), some (.d (.int (at_ : Int))), o10, o11] (b2.mo :: (.tab P nmL :: R2 ++ [.lst (x.map Mv.D)])) := by
    have q1 : oList true [.d (.lst (x.map Mv.D))] (b1.mo :: (.tab P nmL :: R2)) = .ok (.m (R2.length + 2)) (b1.mo :: (.tab P nmL :: R2 ++ [.lst (x.map Mv.D)])) := rfl
    have q2 : oLen [.d (.lst (x.map Mv.D))] (b1.mo :: (.tab P nmL :: R2 ++ [.lst (x.map Mv.D)])) = .ok (.d (.int ((x.length : Nat) : Int))) (b1.mo :: (.tab P nmL :: R2 ++ [.lst (x.map Mv.D)])) := by simp
    have q3 : oMax [.d (.int 1), .d (.int ((x.length : Nat) : Int))] (b1.mo :: (.tab P nmL :: R2 ++ [.lst (x.map Mv.D)])) = .ok (.d (.int ((max 1 x.length : Nat) : Int))) (b1.mo :: (.tab P nmL :: R2 ++ [.lst (x.map Mv.D)])) := by
      rw [oMax_ii]
      have e : (if (x.length : Int) > 1 then (x.length : Int) else 1) = ((max 1 x.length : Nat) : Int) := by split <;> omega
      rw [e]
    have z := ev_cons (ev_cb (ev_cons (ev_var (n := 3) (ρ := [o0, some (.m 0), o2, some (.d (.lst (x.map Mv.D))), some (.d (wD x)), some (.d (wD x)), p6, p7, o8, o9, o10, o11]) rfl) ev_nil) q1) (ev_cons (ev_call (ev_cons (ev_var (n := 1) rfl) (ev_cons (ev_cb (ev_cons ev_c (ev_cons (ev_cb (ev_cons (ev_var (n := 3) rfl) ev_nil) q2) ev_nil)) q3) ev_nil)) d2) ev_nil)
    unfold sParG
    rw [z]
    rfl
  obtain ⟨b3, bad, d3, hbad⟩ := of_any b2 (.tab P nmL :: R2 ++ [.lst (x.map Mv.D)]) oddM (by decide) (by decide)
  have od := odd_eqN b2.mo (.tab P nmL) (R2 ++ [.lst (x.map Mv.D)]) (by simp; omega)
  have T5 : (sAsg (fCall m__law_of (fCons (fVar 1) (fCons (fCall m__law_odd_moves fNil) fNil))) (tgName 10)) [o0, some (.m 0), o2, some (.d (.lst (x.map Mv.D))), some (.d (wD x)), some (.d (wD x)), p6, p7, some (.m (R2.length + 2)), some (.d (.int (at_ : Int))), o10, o11] (b2.mo :: (.tab P nmL :: R2 ++ [.lst (x.map Mv.D)])) = .nx [o0, some (.m 0), o2, some (.d (.lst (x.map Mv.D))), some (.d (wD x)), some (.d (wD x)), p6, p7, some (.m (R2.length + 2)), some (.d (.int (at_ : Int))), some (.d bad), o11] (b3.mo :: (.tab P nmL :: R2 ++ [.lst (x.map Mv.D)])) :=
    es_asg (ev_call (ev_cons (ev_var rfl) (ev_cons (ev_call ev_nil od) ev_nil)) d3) rfl
  obtain ⟨b4, last, p8, p11, T6⟩ := step6 Z P x wx lx b3 R2 (by omega) at_ (by omega) bad hbad o0 o2 p6 p7 o11
  have T7 := step7 Z P b4 (R2 ++ [last]) (by simp; omega) bad hbad o0 o2 (some (.d (.lst (x.map Mv.D)))) (some (.d (wD x))) (some (.d (wD x))) p6 p7 p8 (some (.d (.int (at_ : Int)))) p11
  refine Post.eq (r' := .nx [o0, some (.m 0), o2, some (.d (.lst (x.map Mv.D))), some (.d (wD x)), some (.d (wD x)), p6, p7, p8, some (.d (.int (at_ : Int))), some (.d bad), p11] (b4.mo :: (.tab P nmL :: (R2 ++ [last])))) ?_ ⟨b4, _, _, rfl, ⟨R2 ++ [last], rfl, by simp; omega⟩, rfl, rfl⟩
  unfold L2_law
  rw [e_seq, T0, seq_nx, e_seq, T1, seq_nx, e_seq, T2, seq_nx, e_seq, T3, seq_nx, e_seq, T4, seq_nx, e_seq, T5, seq_nx, e_seq, T6, seq_nx]
  exact T7
theorem main_law (Z : LamZ) (P : Addr) : ∀ ns : List Int, ns.length ≤ 63 → ∃ m, fnOf false 1 12 (b_law Z P) [.d (.fls (ns.map .int))] [] = .ok (.d (.bl true)) m := by
  unfold b_law
  exact main_turnsNT (T := 5) (by decide) (by decide) (turn_ok Z P) ⟨[], rfl, by simp⟩ fun ρ b rest _ _ _ => ⟨_, last_ok ρ _⟩
end GD
/-! GFC: the keys of a written dict, told by the run of the top. -/
namespace GD
open PySem PySem.Spec PyProof.Rows L2 He5 He
section
variable {h : Heap} {w : World} {K : PySem.W.Frag} {mg : Str → Option Value} {fa : List Fg} {fn : List DefG} {ts : List TabG}
theorem nbs_of (X : K.In h) (G : h.Ns mainGlobals mg) {c : Str} (h1 : (Fg.glo c).ok K = true) (z : (Fg.nbs c).ok K = true) : NoBase K mg c := by
  obtain ⟨z1, z2⟩ := ba z
  obtain ⟨a1, a2⟩ := ba z1
  obtain ⟨a3, a4⟩ := ba z2
  exact ⟨_, He.glo_ok X G h1, of_decide_eq_true a1, of_decide_eq_true a2, of_decide_eq_true a3, of_decide_eq_true a4⟩
end
end GD
namespace GD
open PySem PySem.Spec PyProof.Rows L2
abbrev N_Word___eq__ : List Str := ["self", "other"]
theorem sc_Word___eq__ : FnScope N_Word___eq__ ["self", "other"] (defScope s_Word___eq__) := ⟨rfl, rfl, rfl, by decide +kernel, rfl, by decide +kernel, by decide +kernel⟩
abbrev N_depth_of : List Str := ["move"]
theorem sc_depth_of : FnScope N_depth_of ["move"] (defScope s_depth_of) := ⟨rfl, rfl, rfl, by decide +kernel, rfl, by decide +kernel, by decide +kernel⟩
abbrev N_is_item : List Str := ["sign", "item"]
theorem sc_is_item : FnScope N_is_item ["sign", "item"] (defScope s_is_item) := ⟨rfl, rfl, rfl, by decide +kernel, rfl, by decide +kernel, by decide +kernel⟩
abbrev N_is_move : List Str := ["move", "sign", "item"]
theorem sc_is_move : FnScope N_is_move ["move"] (defScope s_is_move) := ⟨rfl, rfl, rfl, by decide +kernel, rfl, by decide +kernel, by decide +kernel⟩
abbrev N_Word___init__ : List Str := ["self", "moves", "at", "move"]
theorem sc_Word___init__ : FnScope N_Word___init__ ["self", "moves"] (defScope s_Word___init__) := ⟨rfl, rfl, rfl, by decide +kernel, rfl, by decide +kernel, by decide +kernel⟩
abbrev N_Word___len__ : List Str := ["self"]
theorem sc_Word___len__ : FnScope N_Word___len__ ["self"] (defScope s_Word___len__) := ⟨rfl, rfl, rfl, by decide +kernel, rfl, by decide +kernel, by decide +kernel⟩
abbrev N_Word___repr__ : List Str := ["self"]
theorem sc_Word___repr__ : FnScope N_Word___repr__ ["self"] (defScope s_Word___repr__) := ⟨rfl, rfl, rfl, by decide +kernel, rfl, by decide +kernel, by decide +kernel⟩
abbrev N_need_end_place : List Str := ["end_place", "end", "depth"]
theorem sc_need_end_place : FnScope N_need_end_place ["end_place"] (defScope s_need_end_place) := ⟨rfl, rfl, rfl, by decide +kernel, rfl, by decide +kernel, by decide +kernel⟩
abbrev N_place_text : List Str := ["end_place"]
theorem sc_place_text : FnScope N_place_text ["end_place"] (defScope s_place_text) := ⟨rfl, rfl, rfl, by decide +kernel, rfl, by decide +kernel, by decide +kernel⟩
abbrev N_item_text : List Str := ["sign", "item"]
theorem sc_item_text : FnScope N_item_text ["sign", "item"] (defScope s_item_text) := ⟨rfl, rfl, rfl, by decide +kernel, rfl, by decide +kernel, by decide +kernel⟩
abbrev N_written : List Str := ["move", "sign", "item"]
theorem sc_written : FnScope N_written ["move"] (defScope s_written) := ⟨rfl, rfl, rfl, by decide +kernel, rfl, by decide +kernel, by decide +kernel⟩
abbrev N_Word___str__ : List Str := ["self", "move"]
theorem sc_Word___str__ : FnScope N_Word___str__ ["self"] (defScope s_Word___str__) := ⟨rfl, rfl, rfl, by decide +kernel, rfl, by decide +kernel, by decide +kernel⟩
abbrev N_Word_moves__M : List Str := ["self"]
theorem sc_Word_moves__M : FnScope N_Word_moves__M ["self"] (defScope s_Word_moves__M) := ⟨rfl, rfl, rfl, by decide +kernel, rfl, by decide +kernel, by decide +kernel⟩
abbrev N_Word_reach : List Str := ["self", "move"]
theorem sc_Word_reach : FnScope N_Word_reach ["self"] (defScope s_Word_reach) := ⟨rfl, rfl, rfl, by decide +kernel, rfl, by decide +kernel, by decide +kernel⟩
abbrev N__law_bag : List Str := ["_law_script", "_law_salt", "_law_cell"]
theorem sc__law_bag : FnScope N__law_bag ["_law_script"] (defScope s__law_bag) := ⟨rfl, rfl, rfl, by decide +kernel, rfl, by decide +kernel, by decide +kernel⟩
abbrev N__law_pull : List Str := ["_law_bag_here", "_law_amount", "_law_cell", "_law_got", "_law_seed"]
theorem sc__law_pull : FnScope N__law_pull ["_law_bag_here", "_law_amount"] (defScope s__law_pull) := ⟨rfl, rfl, rfl, by decide +kernel, rfl, by decide +kernel, by decide +kernel⟩
abbrev N__law_of : List Str := ["_law_bag_here", "_law_things"]
theorem sc__law_of : FnScope N__law_of ["_law_bag_here", "_law_things"] (defScope s__law_of) := ⟨rfl, rfl, rfl, by decide +kernel, rfl, by decide +kernel, by decide +kernel⟩
abbrev N__law_end : List Str := ["_law_bag_here", "_law_deep"]
theorem sc__law_end : FnScope N__law_end ["_law_bag_here", "_law_deep"] (defScope s__law_end) := ⟨rfl, rfl, rfl, by decide +kernel, rfl, by decide +kernel, by decide +kernel⟩
abbrev N__law_move : List Str := ["_law_bag_here", "_law_deep", "_law_pick"]
theorem sc__law_move : FnScope N__law_move ["_law_bag_here", "_law_deep"] (defScope s__law_move) := ⟨rfl, rfl, rfl, by decide +kernel, rfl, by decide +kernel, by decide +kernel⟩
abbrev N__law_moves : List Str := ["_law_bag_here", "_law_most", "_law_deep", "_law_k"]
theorem sc__law_moves : FnScope N__law_moves ["_law_bag_here", "_law_most", "_law_deep"] (defScope s__law_moves) := ⟨rfl, rfl, rfl, by decide +kernel, rfl, by decide +kernel, by decide +kernel⟩
abbrev N__law_odd_moves : List Str := ["_law_one", "_law_far", "_law_found"]
theorem sc__law_odd_moves : FnScope N__law_odd_moves [] (defScope s__law_odd_moves) := ⟨rfl, rfl, rfl, by decide +kernel, rfl, by decide +kernel, by decide +kernel⟩
abbrev N__law_depth : List Str := ["_law_move_here", "_law_spot"]
theorem sc__law_depth : FnScope N__law_depth ["_law_move_here"] (defScope s__law_depth) := ⟨rfl, rfl, rfl, by decide +kernel, rfl, by decide +kernel, by decide +kernel⟩
abbrev N__law_reach : List Str := ["_law_moves_here", "_law_move_here"]
theorem sc__law_reach : FnScope N__law_reach ["_law_moves_here"] (defScope s__law_reach) := ⟨rfl, rfl, rfl, by decide +kernel, rfl, by decide +kernel, by decide +kernel⟩
abbrev N__law_same : List Str := ["_law_found", "_law_due", "_law_one", "_law_other", "_law_key"]
theorem sc__law_same : FnScope N__law_same ["_law_found", "_law_due"] (defScope s__law_same) := ⟨rfl, rfl, rfl, by decide +kernel, rfl, by decide +kernel, by decide +kernel⟩
abbrev N__law_word_of : List Str := ["_law_some"]
theorem sc__law_word_of : FnScope N__law_word_of ["_law_some"] (defScope s__law_word_of) := ⟨rfl, rfl, rfl, by decide +kernel, rfl, by decide +kernel, by decide +kernel⟩
abbrev N_law : List Str := ["_law_script", "_law_bag_here", "_law_turn", "_law_some", "_law_word", "_law_other", "_law_again", "_law_found", "_law_bent", "_law_at", "_law_bad", "_law_later"]
theorem sc_law : FnScope N_law ["_law_script"] (defScope s_law) := ⟨rfl, rfl, rfl, by decide +kernel, rfl, by decide +kernel, by decide +kernel⟩
abbrev N__law_field : List Str := ["_law_e"]
theorem sc__law_field : FnScope N__law_field ["_law_e"] (defScope s__law_field) := ⟨rfl, rfl, rfl, by decide +kernel, rfl, by decide +kernel, by decide +kernel⟩
abbrev N__law_try : List Str := ["_law_ask", "_law_e"]
theorem sc__law_try : FnScope N__law_try ["_law_ask"] (defScope s__law_try) := ⟨rfl, rfl, rfl, by decide +kernel, rfl, by decide +kernel, by decide +kernel⟩
theorem et_BadMove : ErrT PGM s_err_BadMove "BadMove" "at" := ⟨⟨_, _, _, _, _, _, _, _, _, _, _, _, _, _, _, _, _, _, _, _, rfl, rfl, rfl⟩, by decide +kernel, ⟨_, rfl, rfl⟩, (fun _ _ _ _ _ _ _ _ us hl => match us, hl with | [_, _], _ => rfl), rfl, by decide +kernel, by decide⟩
theorem et_TooLong : ErrT PGM s_err_TooLong "TooLong" "limit" := ⟨⟨_, _, _, _, _, _, _, _, _, _, _, _, _, _, _, _, _, _, _, _, rfl, rfl, rfl⟩, by decide +kernel, ⟨_, rfl, rfl⟩, (fun _ _ _ _ _ _ _ _ us hl => match us, hl with | [_, _], _ => rfl), rfl, by decide +kernel, by decide⟩
theorem et_BadPlace : ErrT PGM s_err_BadPlace "BadPlace" "place" := ⟨⟨_, _, _, _, _, _, _, _, _, _, _, _, _, _, _, _, _, _, _, _, rfl, rfl, rfl⟩, by decide +kernel, ⟨_, rfl, rfl⟩, (fun _ _ _ _ _ _ _ _ us hl => match us, hl with | [_, _], _ => rfl), rfl, by decide +kernel, by decide⟩
structure Txt (P : Program) (K : PySem.W.Frag) (mg : Str → Option Value) (w : World) : Prop where
  er_BadMove : ∀ base : Heap, ErrOk P w K mg base "BadMove" (some "at")
  er_TooLong : ∀ base : Heap, ErrOk P w K mg base "TooLong" (some "limit")
  er_BadPlace : ∀ base : Heap, ErrOk P w K mg base "BadPlace" (some "place")
  d__law_try : TopDef K mg "_law_try" s__law_try
  d__law_field : TopDef K mg "_law_field" s__law_field
  cp : ∃ C1 C2, mg "PileError" = some (.ref C1) ∧ mg "Missing" = some (.ref C2)
  tc_BadMove : TryC K mg "PileError" "Missing" ats "BadMove"
  tc_TooLong : TryC K mg "PileError" "Missing" ats "TooLong"
  tc_BadPlace : TryC K mg "PileError" "Missing" ats "BadPlace"
  b_abs : mg "abs" = none
  b_all : mg "all" = none
  b_bool : mg "bool" = none
  b_dict : mg "dict" = none
  b_enumerate : mg "enumerate" = none
  b_int : mg "int" = none
  b_isinstance : mg "isinstance" = none
  b_len : mg "len" = none
  b_list : mg "list" = none
  b_max : mg "max" = none
  b_range : mg "range" = none
  b_repr : mg "repr" = none
  b_sorted : mg "sorted" = none
  b_str : mg "str" = none
  b_sum : mg "sum" = none
  b_tuple : mg "tuple" = none
  b_zip : mg "zip" = none
  g_MOST_BLOCK : ∃ t, mg "MOST_BLOCK" = some (.int (400) t)
  g_MOST_DEPTH : ∃ t, mg "MOST_DEPTH" = some (.int (399) t)
  t_SHAPES : DictTab K mg w "SHAPES" [("swap", "pp"), ("carry", "pp"), ("cut", "k"), ("turn", "eb"), ("over", ""), ("face", "p")]
  t_ENDS : DictTab K mg w "ENDS" [("top", "t"), ("bottom", "b")]
  me_Word_moves : MethAt K mg "Word" "moves" "moves" "Word.moves" s_Word_moves
  ow_Word___repr__ : OwnAt K mg "Word" "__repr__" "__repr__" "Word.__repr__" s_Word___repr__
  pr_Word_reach : PropAt K mg "Word" "reach" "reach" "Word.reach" s_Word_reach
  ow_Word___len__ : OwnAt K mg "Word" "__len__" "__len__" "Word.__len__" s_Word___len__
  ow_Word___eq__ : OwnAt K mg "Word" "__eq__" "__eq__" "Word.__eq__" s_Word___eq__
  nw_Word : NewAt K mg "Word" "__init__" "Word.__init__" s_Word___init__
  ow_Word___str__ : OwnAt K mg "Word" "__str__" "__str__" "Word.__str__" s_Word___str__
  nbs_Word : NoBase K mg "Word"
  co_Word_MOST_REACH_60 : ConOk K mg "Word" "MOST_REACH" (.int 60)
  cl_Word : ClsAt K mg "Word"
  cv_Word_MOST_REACH_60 : CValOk K mg "Word" "MOST_REACH" (60)
  cv_Word_MOST_MOVES_40 : CValOk K mg "Word" "MOST_MOVES" (40)
  nb_Word : NeAt K mg "Word"
  is_Word : IsiOk K mg "Word"
  fl_Word_steps : FldOk K mg "Word" "steps"
  co_Word_MOST_MOVES_40 : ConOk K mg "Word" "MOST_MOVES" (.int 40)
  d_depth_of : TopDef K mg "depth_of" s_depth_of
  d_is_item : TopDef K mg "is_item" s_is_item
  d_is_move : TopDef K mg "is_move" s_is_move
  d_need_end_place : TopDef K mg "need_end_place" s_need_end_place
  d_place_text : TopDef K mg "place_text" s_place_text
  d_item_text : TopDef K mg "item_text" s_item_text
  d_written : TopDef K mg "written" s_written
  d__law_bag : TopDef K mg "_law_bag" s__law_bag
  d__law_pull : TopDef K mg "_law_pull" s__law_pull
  d__law_of : TopDef K mg "_law_of" s__law_of
  d__law_end : TopDef K mg "_law_end" s__law_end
  d__law_move : TopDef K mg "_law_move" s__law_move
  d__law_moves : TopDef K mg "_law_moves" s__law_moves
  d__law_odd_moves : TopDef K mg "_law_odd_moves" s__law_odd_moves
  d__law_depth : TopDef K mg "_law_depth" s__law_depth
  d__law_reach : TopDef K mg "_law_reach" s__law_reach
  d__law_same : TopDef K mg "_law_same" s__law_same
  d__law_word_of : TopDef K mg "_law_word_of" s__law_word_of
  d_law : TopDef K mg "law" s_law
section
variable {P : Program} {w : World} {K : PySem.W.Frag} {mg : Str → Option Value} {base : Heap}
theorem ok_field (T : Txt P K mg w) : FieldOk P w K mg base "_law_field" ats 1 m__law_field := field_ok (e := "_law_e") T.d__law_field sc__law_field rfl (fun _ _ _ _ _ _ us hl => match us, hl with | [_], _ => rfl) fun f cdv A outer s H p x c =>
    (pssd_cons (psd_if (ptd_cmp (op_inH c.room) s_in (pd_xf c (by decide) (pd_var (pv 0))) (pd_lst (pad_cons pd_str (pad_cons pd_str pad_nil))) (by rfl))
    (pssd_one (psd_ret (pd_xf c (by decide) (pd_var (pv 0)))))
    pssd_nil)
    (pssd_cons (psd_if (ptd_cmp (op_inH c.room) s_in (pd_xf c (by decide) (pd_var (pv 0))) (pd_lst (pad_cons pd_str (pad_cons pd_str (pad_cons pd_str (pad_cons pd_str pad_nil))))) (by rfl))
    (pssd_one (psd_ret (pd_xf c (by decide) (pd_var (pv 0)))))
    pssd_nil)
    (pssd_cons (psd_if (ptd_cmp (op_inH c.room) s_in (pd_xf c (by decide) (pd_var (pv 0))) (pd_lst (pad_cons pd_str (pad_cons pd_str (pad_cons pd_str (pad_cons pd_str (pad_cons pd_str pad_nil)))))) (by rfl))
    (pssd_one (psd_ret (pd_xf c (by decide) (pd_var (pv 0)))))
    pssd_nil)
    (pssd_cons (psd_if (ptd_cmp (op_inH c.room) s_in (pd_xf c (by decide) (pd_var (pv 0))) (pd_lst (pad_cons pd_str (pad_cons pd_str (pad_cons pd_str (pad_cons pd_str (pad_cons pd_str pad_nil)))))) (by rfl))
    (pssd_one (psd_ret (pd_xf c (by decide) (pd_var (pv 0)))))
    pssd_nil)
    (pssd_cons (psd_if (ptd_cmp (op_inH c.room) s_in (pd_xf c (by decide) (pd_var (pv 0))) (pd_lst (pad_cons pd_str (pad_cons pd_str pad_nil))) (by rfl))
    (pssd_one (psd_ret (pd_xf c (by decide) (pd_var (pv 0)))))
    pssd_nil)
    (pssd_cons (psd_if (ptd_cmp (op_eqH c.room) s_eq (pd_xf c (by decide) (pd_var (pv 0))) pd_str (nomark _))
    (pssd_one (psd_ret (pd_xf c (by decide) (pd_var (pv 0)))))
    pssd_nil)
    (pssd_cons (psd_if (ptd_cmp (op_eqH c.room) s_eq (pd_xf c (by decide) (pd_var (pv 0))) pd_str (nomark _))
    (pssd_one (psd_ret (pd_xf c (by decide) (pd_var (pv 0)))))
    pssd_nil)
    (pssd_cons (psd_if (ptd_cmp (op_eqH c.room) s_eq (pd_xf c (by decide) (pd_var (pv 0))) pd_str (nomark _))
    (pssd_one (psd_ret (pd_xf c (by decide) (pd_var (pv 0)))))
    pssd_nil)
    (pssd_one (psd_ret (pd_if (ptd_cmp (op_eqH c.room) s_eq (pd_xf c (by decide) (pd_var (pv 0))) pd_str (nomark _)) (pd_xf c (by decide) (pd_var (pv 0))) pd_non)))))))))))
theorem ok_try (T : Txt P K mg w) : TryOk P w K mg base "_law_try" errs m__law_field 1 := ⟨"_law_ask", "_law_e", "_law_field", "PileError", "Missing", s__law_try, ats, ⟨T.d__law_try, sc__law_try, (fun _ _ _ _ _ _ us hl => match us, hl with | [_], _ => rfl), ⟨_, _, _, _, _, _, _, _, _, _, _, _, _, _, _, _, _, _, _, _, _, _, _, _, _, _, _, _, rfl⟩, rfl, rfl, rfl, rfl, rfl, by decide, T.cp⟩, ok_field T, by decide, fun c hc => AllC.get (l := errs) (p := TryC K mg "PileError" "Missing" ats) ⟨T.tc_BadMove, T.tc_TooLong, T.tc_BadPlace, trivial⟩ hc⟩
theorem bd_Word___eq__ (T : Txt P K mg w) (f : Addr) (cdv : Value) (A : Around) (outer : List PySem.Env) (s : Shared) (H : Hp) (E : XK) (c : Cc (cxOf (L2.CX P w) P w K mg base N_Word___eq__ "Word.__eq__" (defScope s_Word___eq__) f cdv A outer s H E) (fun c d _ H' => E c d H') 0) :
    PSs (cxOf (L2.CX P w) P w K mg base N_Word___eq__ "Word.__eq__" (defScope s_Word___eq__) f cdv A outer s H E) (defBody s_Word___eq__) (tDS K mg (fun c d _ H' => E c d H') b_Word___eq__) :=
    (pssd_one (psd_ret (pd_and (pd_callB (cr_isiC T.is_Word) (s_isiC T.is_Word) (by rfl) T.b_isinstance (by decide +kernel) (pad_cons (pd_var (pv 1)) (pad_cons (pd_glc T.cl_Word (by rfl)) pad_nil))) (pd_one (pd_cmp (op_eqU c.room) s_eq (pd_fld (cs := ["Word"]) ⟨T.fl_Word_steps, trivial⟩ (pd_var (pv 0))) (pd_fld (cs := ["Word"]) ⟨T.fl_Word_steps, trivial⟩ (pd_var (pv 1))) (nomark _))))))
theorem is_Word___eq__ (T : Txt P K mg w) : DefIs P w K mg base "__eq__" "Word.__eq__" s_Word___eq__ 1 m_Word___eq__ := fun _ _ F => fnr_ok false F sc_Word___eq__ rfl rfl (fun _ _ _ _ _ _ us hl => match us, hl with | [_, _], _ => rfl) (bd_Word___eq__ T)
theorem bd_depth_of (T : Txt P K mg w) (f : Addr) (cdv : Value) (A : Around) (outer : List PySem.Env) (s : Shared) (H : Hp) (E : XK) (c : Cc (cxOf (L2.CX P w) P w K mg base N_depth_of "depth_of" (defScope s_depth_of) f cdv A outer s H E) (fun c d _ H' => E c d H') 0) :
    PSs (cxOf (L2.CX P w) P w K mg base N_depth_of "depth_of" (defScope s_depth_of) f cdv A outer s H E) (defBody s_depth_of) (tDS K mg (fun c d _ H' => E c d H') b_depth_of) :=
    (pssd_cons (psd_match (pd_ix (pd_var (pv 0)) pd_int (fun _ _ => rfl)) (MdOk.cons PatOf.two (pssd_one (psd_ret (pd_op op_addU s_add (pd_callB (CallR.or (call_max2 c.calm) (cr_max c.calm)) s_max (by rfl) T.b_max (by decide +kernel) (pad_cons (pd_ix (pd_ix (pd_var (pv 0)) pd_int (fun _ _ => rfl)) pd_int (fun _ _ => rfl)) (pad_cons (pd_ix (pd_ix (pd_var (pv 0)) pd_int (fun _ _ => rfl)) pd_int (fun _ _ => rfl)) pad_nil))) pd_int)))
    (MdOk.cons PatOf.one (pssd_one (psd_ret (pd_op op_addU s_add (pd_ix (pd_ix (pd_var (pv 0)) pd_int (fun _ _ => rfl)) pd_int (fun _ _ => rfl)) pd_int)))
    (MdOk.cons PatOf.one (pssd_one (psd_ret (pd_callB call_abs s_abs (by rfl) T.b_abs (by decide +kernel) (pad_cons (pd_ix (pd_var (pv 0)) pd_int (fun _ _ => rfl)) pad_nil))))
    (MdOk.cons PatOf.one (pssd_one (psd_ret (pd_ix (pd_var (pv 0)) pd_int (fun _ _ => rfl))))
    MdOk.nil)))))
    (pssd_one (psd_ret pd_int)))
theorem is_depth_of (T : Txt P K mg w) : DefIs P w K mg base "depth_of" "depth_of" s_depth_of 1 m_depth_of := fun _ _ F => fnr_ok false F sc_depth_of rfl rfl (fun _ _ _ _ _ _ us hl => match us, hl with | [_], _ => rfl) (bd_depth_of T)
theorem ok_depth_of (T : Txt P K mg w) : DefOk P w K mg base "depth_of" 1 m_depth_of := T.d_depth_of.ok (is_depth_of T)
theorem bd_is_item (T : Txt P K mg w) (f : Addr) (cdv : Value) (A : Around) (outer : List PySem.Env) (s : Shared) (H : Hp) (E : XK) (c : Cc (cxOf (L2.CX P w) P w K mg base N_is_item "is_item" (defScope s_is_item) f cdv A outer s H E) (fun c d _ H' => E c d H') 0) :
    PSs (cxOf (L2.CX P w) P w K mg base N_is_item "is_item" (defScope s_is_item) f cdv A outer s H E) (defBody s_is_item) (tDS K mg (fun c d _ H' => E c d H') b_is_item) :=
    (pssd_cons (psd_if (ptd_cmp (op_eqU c.room) s_eq (pd_var (pv 0)) pd_str (nomark _))
    (pssd_one (psd_ret (pd_and (pd_callB call_isi s_isi (by rfl) T.b_isinstance (by decide +kernel) (pad_cons (pd_var (pv 1)) (pad_cons (pd_c (pe_bltn (v := .ty "tuple") (by rfl) T.b_tuple (by decide +kernel) rfl) (fun _ => .ty "tuple")) pad_nil))) (pd_and (pd_cmp (op_eqU c.room) s_eq (pd_callB call_len s_len (by rfl) T.b_len (by decide +kernel) (pad_cons (pd_var (pv 1)) pad_nil)) pd_int (nomark _)) (pd_and (pd_inT (room65 c.room) T.t_ENDS (pd_ix (pd_var (pv 1)) pd_int (fun _ _ => rfl)) (pd_gl T.t_ENDS (by rfl)) (by rfl)) (pd_one (pd_chain op_le s_le op_le s_le pd_int (pd_ix (pd_var (pv 1)) pd_int (fun _ _ => rfl)) (pd_gint T.g_MOST_DEPTH (by rfl)))))))))
    pssd_nil)
    (pssd_cons (psd_if (ptd_cmp (op_eqU c.room) s_eq (pd_var (pv 0)) pd_str (nomark _))
    (pssd_one (psd_ret (pd_inT (room65 c.room) T.t_ENDS (pd_var (pv 1)) (pd_gl T.t_ENDS (by rfl)) (by rfl))))
    pssd_nil)
    (pssd_one (psd_ret (pd_and (pd_callB call_isi s_isi (by rfl) T.b_isinstance (by decide +kernel) (pad_cons (pd_var (pv 1)) (pad_cons (pd_c (pe_bltn (v := .ty "int") (by rfl) T.b_int (by decide +kernel) rfl) (fun _ => .ty "int")) pad_nil))) (pd_one (pd_chain op_le s_le op_le s_le (pd_if (ptd_cmp (op_eqU c.room) s_eq (pd_var (pv 0)) pd_str (nomark _)) (pd_un un_neg s_neg (pd_gint T.g_MOST_BLOCK (by rfl))) pd_int) (pd_var (pv 1)) (pd_gint T.g_MOST_BLOCK (by rfl)))))))))
theorem is_is_item (T : Txt P K mg w) : DefIs P w K mg base "is_item" "is_item" s_is_item 1 m_is_item := fun _ _ F => fnr_ok false F sc_is_item rfl rfl (fun _ _ _ _ _ _ us hl => match us, hl with | [_, _], _ => rfl) (bd_is_item T)
theorem ok_is_item (T : Txt P K mg w) : DefOk P w K mg base "is_item" 1 m_is_item := T.d_is_item.ok (is_is_item T)
theorem bd_is_move (T : Txt P K mg w) (f : Addr) (cdv : Value) (A : Around) (outer : List PySem.Env) (s : Shared) (H : Hp) (E : XK) (c : Cc (cxOf (L2.CX P w) P w K mg base N_is_move "is_move" (defScope s_is_move) f cdv A outer s H E) (fun c d _ H' => E c d H') 1) :
    PSs (cxOf (L2.CX P w) P w K mg base N_is_move "is_move" (defScope s_is_move) f cdv A outer s H E) (defBody s_is_move) (tDS K mg (fun c d _ H' => E c d H') b_is_move) :=
    (pssd_cons (psd_if (PW.pt (pwd_or (ptd_cmp (op_eqU c.room) s_eq (pd_var (pv 0)) (pd_tup pad_nil) (nomark _)) (pwd_or (ptd_ninT (room65 c.room) T.t_SHAPES (pd_ix (pd_var (pv 0)) pd_int (fun _ _ => rfl)) (pd_gl T.t_SHAPES (by rfl)) (by rfl)) (pwd_or1 (ptd_cmp (op_neU c.room) s_ne (pd_callB call_len s_len (by rfl) T.b_len (by decide +kernel) (pad_cons (pd_var (pv 0)) pad_nil)) (pd_op op_addU s_add (pd_callB call_len s_len (by rfl) T.b_len (by decide +kernel) (pad_cons (pd_ixT T.t_SHAPES (pd_gl T.t_SHAPES (by rfl)) (pd_ix (pd_var (pv 0)) pd_int (fun _ _ => rfl)) (fun _ _ => rfl)) pad_nil)) pd_int) (nomark _))))))
    (pssd_one (psd_ret pd_bl))
    pssd_nil)
    (pssd_one (psd_ret (pd_callB (cr_all c.calm) s_all (by rfl) T.b_all (by decide +kernel) (pad_cons (pd_lc (own := [("sign", 1), ("item", 2)]) c.calm c.nd (pid_zipA (by rfl) T.b_zip (pad_cons (pd_ixT T.t_SHAPES (pd_gl T.t_SHAPES (by rfl)) (pd_ix (pd_var (pv 0)) pd_int (fun _ _ => rfl)) (fun _ _ => rfl)) (pad_cons (pd_slice (mu := false) (pd_var (pv 0)) (pod_some pd_int) pod_none) pad_nil))) (blkOk_by (own := [("sign", 1), ("item", 2)]) (N := N_is_move) (sc := defScope s_is_move) (by decide +kernel)) (fun s0 H0 C0 cl0 fp0 => (pgv_tup (c.blk s0 H0 _ _ fp0).calm (pgsv_cons (pgv_name (pg_name (i := 1) (c.blk s0 H0 _ _ fp0).nd rfl (Or.inl rfl)) (by decide)) (pgsv_cons (pgv_name (pg_name (i := 2) (c.blk s0 H0 _ _ fp0).nd rfl (Or.inl rfl)) (by decide)) pgsv_nil)))) (fun s0 H0 C0 cl0 fp0 => ptsd_nil) (fun s0 H0 C0 cl0 fp0 => (pd_call (c.blk s0 H0 _ _ fp0) (ok_is_item T) (by decide) (by rfl) (pad_cons (pd_var (pv 1)) (pad_cons (pd_var (pv 2)) pad_nil))))) pad_nil)))))
theorem is_is_move (T : Txt P K mg w) : DefIs P w K mg base "is_move" "is_move" s_is_move 2 m_is_move := fun _ _ F => fnr_ok false F sc_is_move rfl rfl (fun _ _ _ _ _ _ us hl => match us, hl with | [_], _ => rfl) (bd_is_move T)
theorem ok_is_move (T : Txt P K mg w) : DefOk P w K mg base "is_move" 2 m_is_move := T.d_is_move.ok (is_is_move T)
theorem bd_Word___init__ (T : Txt P K mg w) (f : Addr) (cdv : Value) (A : Around) (outer : List PySem.Env) (s : Shared) (H : Hp) (E : XK) (c : Cc (cxOf (L2.CX P w) P w K mg base N_Word___init__ "Word.__init__" (defScope s_Word___init__) f cdv A outer s H E) (fun c d _ H' => E c d H') 2) :
    PSs (cxOf (L2.CX P w) P w K mg base N_Word___init__ "Word.__init__" (defScope s_Word___init__) f cdv A outer s H E) (defBody s_Word___init__) (tDS K mg (fun c d _ H' => E c d H') b_Word___init__) :=
    (pssd_cons (psd_for c.hp c.calm (pid_enumA (by rfl) T.b_enumerate (pad_cons (pd_var (pv 1)) pad_nil)) (pgd_un c.calm (pgsd_cons (pgd_name (pg_name (i := 2) c.nd rfl (Or.inl rfl))) (pgsd_cons (pgd_name (pg_name (i := 3) c.nd rfl (Or.inl rfl))) pgsd_nil)))
    (pssd_one (psd_if (ptd_not (ptd_truth (pd_call c (ok_is_move T) (by decide) (by rfl) (pad_cons (pd_var (pv 3)) pad_nil))))
    (pssd_one (psd_raise c (T.er_BadMove _) (by decide) (by rfl) (pd_var (pv 2))))
    pssd_nil)))
    (pssd_cons (psd_if (ptd_cmp op_gt s_gt (pd_callB call_len s_len (by rfl) T.b_len (by decide +kernel) (pad_cons (pd_var (pv 1)) pad_nil)) (pd_con ⟨T.co_Word_MOST_MOVES_40, trivial⟩ (pd_var (pv 0))) (nomark _))
    (pssd_one (psd_raise c (T.er_TooLong _) (by decide) (by rfl) (pd_con ⟨T.co_Word_MOST_MOVES_40, trivial⟩ (pd_var (pv 0)))))
    pssd_nil)
    (pssd_cons (psd_if (ptd_cmp op_gt s_gt (pd_callB (cr_sum c.calm) s_sum (by rfl) T.b_sum (by decide +kernel) (pad_cons (pd_lc (own := [("move", 3)]) c.calm c.nd (pid_seq (pd_var (pv 1))) (blkOk_by (own := [("move", 3)]) (N := N_Word___init__) (sc := defScope s_Word___init__) (by decide +kernel)) (fun s0 H0 C0 cl0 fp0 => (pgv_name (pg_name (i := 3) (c.blk s0 H0 _ _ fp0).nd rfl (Or.inl rfl)) (by decide))) (fun s0 H0 C0 cl0 fp0 => ptsd_nil) (fun s0 H0 C0 cl0 fp0 => (pd_call (c.blk s0 H0 _ _ fp0) (ok_depth_of T) (by decide) (by rfl) (pad_cons (pd_var (pv 3)) pad_nil)))) pad_nil)) (pd_con ⟨T.co_Word_MOST_REACH_60, trivial⟩ (pd_var (pv 0))) (nomark _))
    (pssd_one (psd_raise c (T.er_TooLong _) (by decide) (by rfl) (pd_con ⟨T.co_Word_MOST_REACH_60, trivial⟩ (pd_var (pv 0)))))
    pssd_nil)
    (pssd_one (psd_fld ⟨T.fl_Word_steps, trivial⟩ (pd_callTy call_tuple_of s_tuple (by rfl) T.b_tuple (by decide +kernel) (pad_cons (pd_var (pv 1)) pad_nil)) (pd_var (pv 0)))))))
theorem is_Word___init__ (T : Txt P K mg w) : DefIs P w K mg base "__init__" "Word.__init__" s_Word___init__ 3 m_Word___init__ := fun _ _ F => fnr_star (ps := ["self"]) false F sc_Word___init__ rfl rfl (fun _ _ _ _ _ _ us rest hl => match us, rest, hl with | [_], [], _ => rfl | [_], _ :: _, _ => rfl) (bd_Word___init__ T)
theorem ok_Word (T : Txt P K mg w) : DefOk P w K mg base "Word" 4 m_Word := T.nw_Word.ok true (is_Word___init__ T)
theorem bd_Word___len__ (T : Txt P K mg w) (f : Addr) (cdv : Value) (A : Around) (outer : List PySem.Env) (s : Shared) (H : Hp) (E : XK) (c : Cc (cxOf (L2.CX P w) P w K mg base N_Word___len__ "Word.__len__" (defScope s_Word___len__) f cdv A outer s H E) (fun c d _ H' => E c d H') 0) :
    PSs (cxOf (L2.CX P w) P w K mg base N_Word___len__ "Word.__len__" (defScope s_Word___len__) f cdv A outer s H E) (defBody s_Word___len__) (tDS K mg (fun c d _ H' => E c d H') b_Word___len__) :=
    (pssd_one (psd_ret (pd_callB call_len s_len (by rfl) T.b_len (by decide +kernel) (pad_cons (pd_fld (cs := ["Word"]) ⟨T.fl_Word_steps, trivial⟩ (pd_var (pv 0))) pad_nil))))
theorem is_Word___len__ (T : Txt P K mg w) : DefIs P w K mg base "__len__" "Word.__len__" s_Word___len__ 1 m_Word___len__ := fun _ _ F => fnr_ok false F sc_Word___len__ rfl rfl (fun _ _ _ _ _ _ us hl => match us, hl with | [_], _ => rfl) (bd_Word___len__ T)
theorem bd_Word___repr__ (T : Txt P K mg w) (f : Addr) (cdv : Value) (A : Around) (outer : List PySem.Env) (s : Shared) (H : Hp) (E : XK) (c : Cc (cxOf (L2.CX P w) P w K mg base N_Word___repr__ "Word.__repr__" (defScope s_Word___repr__) f cdv A outer s H E) (fun c d _ H' => E c d H') 0) :
    PSs (cxOf (L2.CX P w) P w K mg base N_Word___repr__ "Word.__repr__" (defScope s_Word___repr__) f cdv A outer s H E) (defBody s_Word___repr__) (tDS K mg (fun c d _ H' => E c d H') b_Word___repr__) :=
    (pssd_one (psd_ret (pd_joined (.cons pd_str (.cons (pd_fmt (pd_callB call_len s_len (by rfl) T.b_len (by decide +kernel) (pad_cons (pd_fld (cs := ["Word"]) ⟨T.fl_Word_steps, trivial⟩ (pd_var (pv 0))) pad_nil))) (.cons pd_str .nil))))))
theorem is_Word___repr__ (T : Txt P K mg w) : DefIs P w K mg base "__repr__" "Word.__repr__" s_Word___repr__ 1 m_Word___repr__ := fun _ _ F => fnr_ok false F sc_Word___repr__ rfl rfl (fun _ _ _ _ _ _ us hl => match us, hl with | [_], _ => rfl) (bd_Word___repr__ T)
theorem bd_need_end_place (T : Txt P K mg w) (f : Addr) (cdv : Value) (A : Around) (outer : List PySem.Env) (s : Shared) (H : Hp) (E : XK) (c : Cc (cxOf (L2.CX P w) P w K mg base N_need_end_place "need_end_place" (defScope s_need_end_place) f cdv A outer s H E) (fun c d _ H' => E c d H') 2) :
    PSs (cxOf (L2.CX P w) P w K mg base N_need_end_place "need_end_place" (defScope s_need_end_place) f cdv A outer s H E) (defBody s_need_end_place) (tDS K mg (fun c d _ H' => E c d H') b_need_end_place) :=
    (pssd_cons (psd_asg (pd_var (pv 0)) (pgd_un c.calm (pgsd_cons (pgd_name (pg_name (i := 1) c.nd rfl (Or.inl rfl))) (pgsd_cons (pgd_name (pg_name (i := 2) c.nd rfl (Or.inl rfl))) pgsd_nil))))
    (pssd_one (psd_if (PW.pt (pwd_or (ptd_ninT (room65 c.room) T.t_ENDS (pd_var (pv 1)) (pd_gl T.t_ENDS (by rfl)) (by rfl)) (pwd_or1 (ptd_cmp op_lt s_lt (pd_var (pv 2)) pd_int (nomark _)))))
    (pssd_one (psd_raise c (T.er_BadPlace _) (by decide) (by rfl) (pd_var (pv 0))))
    pssd_nil)))
theorem is_need_end_place (T : Txt P K mg w) : DefIs P w K mg base "need_end_place" "need_end_place" s_need_end_place 3 m_need_end_place := fun _ _ F => fnr_ok false F sc_need_end_place rfl rfl (fun _ _ _ _ _ _ us hl => match us, hl with | [_], _ => rfl) (bd_need_end_place T)
theorem ok_need_end_place (T : Txt P K mg w) : DefOk P w K mg base "need_end_place" 3 m_need_end_place := T.d_need_end_place.ok (is_need_end_place T)
theorem bd_place_text (T : Txt P K mg w) (f : Addr) (cdv : Value) (A : Around) (outer : List PySem.Env) (s : Shared) (H : Hp) (E : XK) (c : Cc (cxOf (L2.CX P w) P w K mg base N_place_text "place_text" (defScope s_place_text) f cdv A outer s H E) (fun c d _ H' => E c d H') 3) :
    PSs (cxOf (L2.CX P w) P w K mg base N_place_text "place_text" (defScope s_place_text) f cdv A outer s H E) (defBody s_place_text) (tDS K mg (fun c d _ H' => E c d H') b_place_text) :=
    (pssd_cons (psd_expr (pd_call c (ok_need_end_place T) (by decide) (by rfl) (pad_cons (pd_var (pv 0)) pad_nil)))
    (pssd_one (psd_ret (pd_joined (.cons (pd_fmt (pd_ixT T.t_ENDS (pd_gl T.t_ENDS (by rfl)) (pd_ix (pd_var (pv 0)) pd_int (fun _ _ => rfl)) (fun _ _ => rfl))) (.cons (pd_fmt (pd_ix (pd_var (pv 0)) pd_int (fun _ _ => rfl))) .nil))))))
theorem is_place_text (T : Txt P K mg w) : DefIs P w K mg base "place_text" "place_text" s_place_text 4 m_place_text := fun _ _ F => fnr_ok false F sc_place_text rfl rfl (fun _ _ _ _ _ _ us hl => match us, hl with | [_], _ => rfl) (bd_place_text T)
theorem ok_place_text (T : Txt P K mg w) : DefOk P w K mg base "place_text" 4 m_place_text := T.d_place_text.ok (is_place_text T)
theorem bd_item_text (T : Txt P K mg w) (f : Addr) (cdv : Value) (A : Around) (outer : List PySem.Env) (s : Shared) (H : Hp) (E : XK) (c : Cc (cxOf (L2.CX P w) P w K mg base N_item_text "item_text" (defScope s_item_text) f cdv A outer s H E) (fun c d _ H' => E c d H') 4) :
    PSs (cxOf (L2.CX P w) P w K mg base N_item_text "item_text" (defScope s_item_text) f cdv A outer s H E) (defBody s_item_text) (tDS K mg (fun c d _ H' => E c d H') b_item_text) :=
    (pssd_cons (psd_if (ptd_cmp (op_eqU c.room) s_eq (pd_var (pv 0)) pd_str (nomark _))
    (pssd_one (psd_ret (pd_call c (ok_place_text T) (by decide) (by rfl) (pad_cons (pd_var (pv 1)) pad_nil))))
    pssd_nil)
    (pssd_one (psd_ret (pd_if (ptd_cmp (op_eqU c.room) s_eq (pd_var (pv 0)) pd_str (nomark _)) (pd_ixT T.t_ENDS (pd_gl T.t_ENDS (by rfl)) (pd_var (pv 1)) (fun _ _ => rfl)) (pd_callTy call_strB s_strB (by rfl) T.b_str (by decide +kernel) (pad_cons (pd_var (pv 1)) pad_nil))))))
theorem is_item_text (T : Txt P K mg w) : DefIs P w K mg base "item_text" "item_text" s_item_text 5 m_item_text := fun _ _ F => fnr_ok false F sc_item_text rfl rfl (fun _ _ _ _ _ _ us hl => match us, hl with | [_, _], _ => rfl) (bd_item_text T)
theorem ok_item_text (T : Txt P K mg w) : DefOk P w K mg base "item_text" 5 m_item_text := T.d_item_text.ok (is_item_text T)
theorem bd_written (T : Txt P K mg w) (f : Addr) (cdv : Value) (A : Around) (outer : List PySem.Env) (s : Shared) (H : Hp) (E : XK) (c : Cc (cxOf (L2.CX P w) P w K mg base N_written "written" (defScope s_written) f cdv A outer s H E) (fun c d _ H' => E c d H') 5) :
    PSs (cxOf (L2.CX P w) P w K mg base N_written "written" (defScope s_written) f cdv A outer s H E) (defBody s_written) (tDS K mg (fun c d _ H' => E c d H') b_written) :=
    (pssd_one (psd_ret (pd_bm PySem.F.plainAttrs_str PySem.F.slot_str_join PySem.F.type_str_join mt_join ty_str s_join pd_str (pad_cons (pd_op op_addU s_add (pd_lst (pad_cons (pd_ix (pd_var (pv 0)) pd_int (fun _ _ => rfl)) pad_nil)) (pd_lc (own := [("sign", 1), ("item", 2)]) c.calm c.nd (pid_zipA (by rfl) T.b_zip (pad_cons (pd_ixT T.t_SHAPES (pd_gl T.t_SHAPES (by rfl)) (pd_ix (pd_var (pv 0)) pd_int (fun _ _ => rfl)) (fun _ _ => rfl)) (pad_cons (pd_slice (mu := false) (pd_var (pv 0)) (pod_some pd_int) pod_none) pad_nil))) (blkOk_by (own := [("sign", 1), ("item", 2)]) (N := N_written) (sc := defScope s_written) (by decide +kernel)) (fun s0 H0 C0 cl0 fp0 => (pgv_tup (c.blk s0 H0 _ _ fp0).calm (pgsv_cons (pgv_name (pg_name (i := 1) (c.blk s0 H0 _ _ fp0).nd rfl (Or.inl rfl)) (by decide)) (pgsv_cons (pgv_name (pg_name (i := 2) (c.blk s0 H0 _ _ fp0).nd rfl (Or.inl rfl)) (by decide)) pgsv_nil)))) (fun s0 H0 C0 cl0 fp0 => ptsd_nil) (fun s0 H0 C0 cl0 fp0 => (pd_call (c.blk s0 H0 _ _ fp0) (ok_item_text T) (by decide) (by rfl) (pad_cons (pd_var (pv 1)) (pad_cons (pd_var (pv 2)) pad_nil)))))) pad_nil))))
theorem is_written (T : Txt P K mg w) : DefIs P w K mg base "written" "written" s_written 6 m_written := fun _ _ F => fnr_ok false F sc_written rfl rfl (fun _ _ _ _ _ _ us hl => match us, hl with | [_], _ => rfl) (bd_written T)
theorem ok_written (T : Txt P K mg w) : DefOk P w K mg base "written" 6 m_written := T.d_written.ok (is_written T)
theorem bd_Word___str__ (T : Txt P K mg w) (f : Addr) (cdv : Value) (A : Around) (outer : List PySem.Env) (s : Shared) (H : Hp) (E : XK) (c : Cc (cxOf (L2.CX P w) P w K mg base N_Word___str__ "Word.__str__" (defScope s_Word___str__) f cdv A outer s H E) (fun c d _ H' => E c d H') 6) :
    PSs (cxOf (L2.CX P w) P w K mg base N_Word___str__ "Word.__str__" (defScope s_Word___str__) f cdv A outer s H E) (defBody s_Word___str__) (tDS K mg (fun c d _ H' => E c d H') b_Word___str__) :=
    (pssd_one (psd_ret (pd_bm PySem.F.plainAttrs_str PySem.F.slot_str_join PySem.F.type_str_join mt_join ty_str s_join pd_str (pad_cons (pd_lc (own := [("move", 1)]) c.calm c.nd (pid_seq (pd_fld (cs := ["Word"]) ⟨T.fl_Word_steps, trivial⟩ (pd_var (pv 0)))) (blkOk_by (own := [("move", 1)]) (N := N_Word___str__) (sc := defScope s_Word___str__) (by decide +kernel)) (fun s0 H0 C0 cl0 fp0 => (pgv_name (pg_name (i := 1) (c.blk s0 H0 _ _ fp0).nd rfl (Or.inl rfl)) (by decide))) (fun s0 H0 C0 cl0 fp0 => ptsd_nil) (fun s0 H0 C0 cl0 fp0 => (pd_call (c.blk s0 H0 _ _ fp0) (ok_written T) (by decide) (by rfl) (pad_cons (pd_var (pv 1)) pad_nil)))) pad_nil))))
theorem is_Word___str__ (T : Txt P K mg w) : DefIs P w K mg base "__str__" "Word.__str__" s_Word___str__ 7 m_Word___str__ := fun _ _ F => fnr_ok false F sc_Word___str__ rfl rfl (fun _ _ _ _ _ _ us hl => match us, hl with | [_], _ => rfl) (bd_Word___str__ T)
theorem bd_Word_moves__M (T : Txt P K mg w) (f : Addr) (cdv : Value) (A : Around) (outer : List PySem.Env) (s : Shared) (H : Hp) (E : XK) (c : Cc (cxOf (L2.CX P w) P w K mg base N_Word_moves__M "Word.moves" (defScope s_Word_moves__M) f cdv A outer s H E) (fun c d _ H' => E c d H') 0) :
    PSs (cxOf (L2.CX P w) P w K mg base N_Word_moves__M "Word.moves" (defScope s_Word_moves__M) f cdv A outer s H E) (defBody s_Word_moves__M) (tDS K mg (fun c d _ H' => E c d H') b_Word_moves__M) :=
    (pssd_one (psd_ret (pd_callTy call_list_of (s_list true) (by rfl) T.b_list (by decide +kernel) (pad_cons (pd_fld (cs := ["Word"]) ⟨T.fl_Word_steps, trivial⟩ (pd_var (pv 0))) pad_nil))))
theorem is_Word_moves__M (T : Txt P K mg w) : DefIs P w K mg base "moves" "Word.moves" s_Word_moves 1 m_Word_moves__M := fun _ _ F => fnr_ok true F sc_Word_moves__M rfl rfl (fun _ _ _ _ _ _ us hl => match us, hl with | [_], _ => rfl) (bd_Word_moves__M T)
theorem bd_Word_reach (T : Txt P K mg w) (f : Addr) (cdv : Value) (A : Around) (outer : List PySem.Env) (s : Shared) (H : Hp) (E : XK) (c : Cc (cxOf (L2.CX P w) P w K mg base N_Word_reach "Word.reach" (defScope s_Word_reach) f cdv A outer s H E) (fun c d _ H' => E c d H') 1) :
    PSs (cxOf (L2.CX P w) P w K mg base N_Word_reach "Word.reach" (defScope s_Word_reach) f cdv A outer s H E) (defBody s_Word_reach) (tDS K mg (fun c d _ H' => E c d H') b_Word_reach) :=
    (pssd_one (psd_ret (pd_callB (cr_sum c.calm) s_sum (by rfl) T.b_sum (by decide +kernel) (pad_cons (pd_lc (own := [("move", 1)]) c.calm c.nd (pid_seq (pd_fld (cs := ["Word"]) ⟨T.fl_Word_steps, trivial⟩ (pd_var (pv 0)))) (blkOk_by (own := [("move", 1)]) (N := N_Word_reach) (sc := defScope s_Word_reach) (by decide +kernel)) (fun s0 H0 C0 cl0 fp0 => (pgv_name (pg_name (i := 1) (c.blk s0 H0 _ _ fp0).nd rfl (Or.inl rfl)) (by decide))) (fun s0 H0 C0 cl0 fp0 => ptsd_nil) (fun s0 H0 C0 cl0 fp0 => (pd_call (c.blk s0 H0 _ _ fp0) (ok_depth_of T) (by decide) (by rfl) (pad_cons (pd_var (pv 1)) pad_nil)))) pad_nil))))
theorem is_Word_reach (T : Txt P K mg w) : DefIs P w K mg base "reach" "Word.reach" s_Word_reach 2 m_Word_reach := fun _ _ F => fnr_ok false F sc_Word_reach rfl rfl (fun _ _ _ _ _ _ us hl => match us, hl with | [_], _ => rfl) (bd_Word_reach T)
theorem bd__law_bag (T : Txt P K mg w) (f : Addr) (cdv : Value) (A : Around) (outer : List PySem.Env) (s : Shared) (H : Hp) (E : XK) (c : Cc (cxOf (L2.CX P w) P w K mg base N__law_bag "_law_bag" (defScope s__law_bag) f cdv A outer s H E) (fun c d _ H' => E c d H') 0) :
    PSs (cxOf (L2.CX P w) P w K mg base N__law_bag "_law_bag" (defScope s__law_bag) f cdv A outer s H E) (defBody s__law_bag) (tDS K mg (fun c d _ H' => E c d H') b__law_bag) :=
    (pssd_cons (psd_set (i := 1) c.nd rfl (Or.inl rfl) pd_int)
    (pssd_cons (psd_for c.hp c.calm (pid_seq (pd_slice (mu := false) (pd_var (pv 0)) pod_none (pod_some pd_int))) (pgd_name (pg_name (i := 2) c.nd rfl (Or.inl rfl)))
    (pssd_one (psd_set (i := 1) c.nd rfl (Or.inl rfl) (pd_op op_mod s_mod (pd_callTy call_int1 s_int (by rfl) T.b_int (by decide +kernel) (pad_cons (pd_op op_addU s_add (pd_op op_addU s_add (pd_op op_mulU s_mul (pd_var (pv 1)) pd_int) (pd_op op_mod s_mod (pd_callTy call_int1 s_int (by rfl) T.b_int (by decide +kernel) (pad_cons (pd_var (pv 2)) pad_nil)) pd_int)) pd_int) pad_nil)) pd_int))))
    (pssd_one (psd_ret (pd_lstM (pad_cons (pd_callTy call_list_of (s_list false) (by rfl) T.b_list (by decide +kernel) (pad_cons (pd_slice (mu := false) (pd_var (pv 0)) pod_none (pod_some pd_int)) pad_nil)) (pad_cons pd_int (pad_cons pd_int (pad_cons (pd_var (pv 1)) pad_nil)))))))))
theorem is__law_bag (T : Txt P K mg w) : DefIs P w K mg base "_law_bag" "_law_bag" s__law_bag 1 m__law_bag := fun _ _ F => fnr_ok true F sc__law_bag rfl rfl (fun _ _ _ _ _ _ us hl => match us, hl with | [_], _ => rfl) (bd__law_bag T)
theorem ok__law_bag (T : Txt P K mg w) : DefOk P w K mg base "_law_bag" 1 m__law_bag := T.d__law_bag.ok (is__law_bag T)
theorem bd__law_pull (T : Txt P K mg w) (f : Addr) (cdv : Value) (A : Around) (outer : List PySem.Env) (s : Shared) (H : Hp) (E : XK) (c : Cc (cxOf (L2.CX P w) P w K mg base N__law_pull "_law_pull" (defScope s__law_pull) f cdv A outer s H E) (fun c d _ H' => E c d H') 0) :
    PSs (cxOf (L2.CX P w) P w K mg base N__law_pull "_law_pull" (defScope s__law_pull) f cdv A outer s H E) (defBody s__law_pull) (tDS K mg (fun c d _ H' => E c d H') b__law_pull) :=
    (pssd_cons (psd_if (PW.pt (pwd_and (ptd_cmp (op_eqU c.room) s_eq (pd_ix (pd_var (pv 0)) pd_int (fun _ _ => rfl)) pd_int (nomark _)) (pwd_and1 (ptd_cmp op_lt s_lt (pd_ix (pd_var (pv 0)) pd_int (fun _ _ => rfl)) (pd_callB call_len s_len (by rfl) T.b_len (by decide +kernel) (pad_cons (pd_ix (pd_var (pv 0)) pd_int (fun _ _ => rfl)) pad_nil)) (nomark _)))))
    (pssd_cons (psd_set (i := 2) c.nd rfl (Or.inl rfl) (pd_ix (pd_ix (pd_var (pv 0)) pd_int (fun _ _ => rfl)) (pd_ix (pd_var (pv 0)) pd_int (fun _ _ => rfl)) (fun _ _ => rfl)))
    (pssd_cons (psd_asg (pd_op op_addU s_add (pd_ix (pd_var (pv 0)) pd_int (fun _ _ => rfl)) pd_int) (pgd_sub (pd_var (pv 0)) pd_int))
    (pssd_one (psd_if (ptd_cmp op_ge s_ge (pd_var (pv 2)) (pd_op op_powW s_pow pd_int pd_int) (nomark _))
    (pssd_one (psd_asg (pd_var (pv 2)) (pgd_sub (pd_var (pv 0)) pd_int)))
    (pssd_one (psd_asg (pd_op op_mod s_mod (pd_callTy call_int1 s_int (by rfl) T.b_int (by decide +kernel) (pad_cons (pd_op op_addU s_add (pd_op op_addU s_add (pd_op op_mulU s_mul (pd_ix (pd_var (pv 0)) pd_int (fun _ _ => rfl)) pd_int) (pd_op op_mulU s_mul (pd_op op_mod s_mod (pd_callTy call_int1 s_int (by rfl) T.b_int (by decide +kernel) (pad_cons (pd_var (pv 2)) pad_nil)) pd_int) pd_int)) pd_int) pad_nil)) pd_int) (pgd_sub (pd_var (pv 0)) pd_int)))))))
    pssd_nil)
    (pssd_cons (psd_if (ptd_cmp op_gt s_gt (pd_ix (pd_var (pv 0)) pd_int (fun _ _ => rfl)) pd_int (nomark _))
    (pssd_cons (psd_set (i := 3) c.nd rfl (Or.inl rfl) (pd_op op_mod s_mod (pd_callTy call_int1 s_int (by rfl) T.b_int (by decide +kernel) (pad_cons (pd_ix (pd_var (pv 0)) pd_int (fun _ _ => rfl)) pad_nil)) (pd_var (pv 1))))
    (pssd_cons (psd_asg (pd_op op_fdivW s_div (pd_ix (pd_var (pv 0)) pd_int (fun _ _ => rfl)) (pd_var (pv 1))) (pgd_sub (pd_var (pv 0)) pd_int))
    (pssd_one (psd_ret (pd_var (pv 3))))))
    pssd_nil)
    (pssd_cons (psd_set (i := 4) c.nd rfl (Or.inl rfl) (pd_ix (pd_var (pv 0)) pd_int (fun _ _ => rfl)))
    (pssd_cons (psd_asg (pd_op op_mod s_mod (pd_callTy call_int1 s_int (by rfl) T.b_int (by decide +kernel) (pad_cons (pd_op op_addU s_add (pd_op op_addU s_add (pd_op op_mulU s_mul (pd_var (pv 4)) (pd_var (pv 4))) (pd_op op_mulU s_mul (pd_var (pv 4)) pd_int)) pd_int) pad_nil)) pd_int) (pgd_sub (pd_var (pv 0)) pd_int))
    (pssd_one (psd_ret (pd_op op_mod s_mod (pd_callTy call_int1 s_int (by rfl) T.b_int (by decide +kernel) (pad_cons (pd_op op_addU s_add (pd_op op_fdivW s_div (pd_ix (pd_var (pv 0)) pd_int (fun _ _ => rfl)) pd_int) (pd_op op_mulU s_mul (pd_op op_mod s_mod (pd_callTy call_int1 s_int (by rfl) T.b_int (by decide +kernel) (pad_cons (pd_ix (pd_var (pv 0)) pd_int (fun _ _ => rfl)) pad_nil)) pd_int) pd_int)) pad_nil)) (pd_var (pv 1)))))))))
theorem is__law_pull (T : Txt P K mg w) : DefIs P w K mg base "_law_pull" "_law_pull" s__law_pull 1 m__law_pull := fun _ _ F => fnr_ok false F sc__law_pull rfl rfl (fun _ _ _ _ _ _ us hl => match us, hl with | [_, _], _ => rfl) (bd__law_pull T)
theorem ok__law_pull (T : Txt P K mg w) : DefOk P w K mg base "_law_pull" 1 m__law_pull := T.d__law_pull.ok (is__law_pull T)
theorem bd__law_of (T : Txt P K mg w) (f : Addr) (cdv : Value) (A : Around) (outer : List PySem.Env) (s : Shared) (H : Hp) (E : XK) (c : Cc (cxOf (L2.CX P w) P w K mg base N__law_of "_law_of" (defScope s__law_of) f cdv A outer s H E) (fun c d _ H' => E c d H') 1) :
    PSs (cxOf (L2.CX P w) P w K mg base N__law_of "_law_of" (defScope s__law_of) f cdv A outer s H E) (defBody s__law_of) (tDS K mg (fun c d _ H' => E c d H') b__law_of) :=
    (pssd_one (psd_ret (pd_ix (pd_var (pv 1)) (pd_call c (ok__law_pull T) (by decide) (by rfl) (pad_cons (pd_var (pv 0)) (pad_cons (pd_callB call_len s_len (by rfl) T.b_len (by decide +kernel) (pad_cons (pd_var (pv 1)) pad_nil)) pad_nil))) (fun _ _ => rfl))))
theorem is__law_of (T : Txt P K mg w) : DefIs P w K mg base "_law_of" "_law_of" s__law_of 2 m__law_of := fun _ _ F => fnr_ok false F sc__law_of rfl rfl (fun _ _ _ _ _ _ us hl => match us, hl with | [_, _], _ => rfl) (bd__law_of T)
theorem ok__law_of (T : Txt P K mg w) : DefOk P w K mg base "_law_of" 2 m__law_of := T.d__law_of.ok (is__law_of T)
theorem bd__law_end (T : Txt P K mg w) (f : Addr) (cdv : Value) (A : Around) (outer : List PySem.Env) (s : Shared) (H : Hp) (E : XK) (c : Cc (cxOf (L2.CX P w) P w K mg base N__law_end "_law_end" (defScope s__law_end) f cdv A outer s H E) (fun c d _ H' => E c d H') 2) :
    PSs (cxOf (L2.CX P w) P w K mg base N__law_end "_law_end" (defScope s__law_end) f cdv A outer s H E) (defBody s__law_end) (tDS K mg (fun c d _ H' => E c d H') b__law_end) :=
    (pssd_one (psd_ret (pd_tup (pad_cons (pd_call c (ok__law_of T) (by decide) (by rfl) (pad_cons (pd_var (pv 0)) (pad_cons (pd_lst (pad_cons pd_str (pad_cons pd_str pad_nil))) pad_nil))) (pad_cons (pd_call c (ok__law_pull T) (by decide) (by rfl) (pad_cons (pd_var (pv 0)) (pad_cons (pd_op op_addU s_add (pd_var (pv 1)) pd_int) pad_nil))) pad_nil)))))
theorem is__law_end (T : Txt P K mg w) : DefIs P w K mg base "_law_end" "_law_end" s__law_end 3 m__law_end := fun _ _ F => fnr_ok false F sc__law_end rfl rfl (fun _ _ _ _ _ _ us hl => match us, hl with | [_, _], _ => rfl) (bd__law_end T)
theorem ok__law_end (T : Txt P K mg w) : DefOk P w K mg base "_law_end" 3 m__law_end := T.d__law_end.ok (is__law_end T)
theorem bd__law_move (T : Txt P K mg w) (f : Addr) (cdv : Value) (A : Around) (outer : List PySem.Env) (s : Shared) (H : Hp) (E : XK) (c : Cc (cxOf (L2.CX P w) P w K mg base N__law_move "_law_move" (defScope s__law_move) f cdv A outer s H E) (fun c d _ H' => E c d H') 3) :
    PSs (cxOf (L2.CX P w) P w K mg base N__law_move "_law_move" (defScope s__law_move) f cdv A outer s H E) (defBody s__law_move) (tDS K mg (fun c d _ H' => E c d H') b__law_move) :=
    (pssd_cons (psd_set (i := 2) c.nd rfl (Or.inl rfl) (pd_call c (ok__law_pull T) (by decide) (by rfl) (pad_cons (pd_var (pv 0)) (pad_cons pd_int pad_nil))))
    (pssd_cons (psd_if (ptd_cmp op_lt s_lt (pd_var (pv 2)) pd_int (nomark _))
    (pssd_one (psd_ret (pd_tup (pad_cons (pd_ix (pd_lst (pad_cons pd_str (pad_cons pd_str (pad_cons pd_str pad_nil)))) (pd_var (pv 2)) (fun _ _ => rfl)) (pad_cons (pd_call c (ok__law_end T) (by decide) (by rfl) (pad_cons (pd_var (pv 0)) (pad_cons (pd_var (pv 1)) pad_nil))) (pad_cons (pd_call c (ok__law_end T) (by decide) (by rfl) (pad_cons (pd_var (pv 0)) (pad_cons (pd_var (pv 1)) pad_nil))) pad_nil))))))
    pssd_nil)
    (pssd_cons (psd_if (ptd_cmp op_lt s_lt (pd_var (pv 2)) pd_int (nomark _))
    (pssd_one (psd_ret (pd_tup (pad_cons pd_str (pad_cons (pd_op op_sub s_sub (pd_op op_sub s_sub (pd_call c (ok__law_pull T) (by decide) (by rfl) (pad_cons (pd_var (pv 0)) (pad_cons (pd_op op_addU s_add (pd_op op_mulU s_mul pd_int (pd_var (pv 1))) pd_int) pad_nil))) (pd_var (pv 1))) pd_int) pad_nil)))))
    pssd_nil)
    (pssd_cons (psd_if (ptd_cmp (op_eqU c.room) s_eq (pd_var (pv 2)) pd_int (nomark _))
    (pssd_one (psd_ret (pd_tup (pad_cons pd_str (pad_cons (pd_call c (ok__law_of T) (by decide) (by rfl) (pad_cons (pd_var (pv 0)) (pad_cons (pd_lst (pad_cons pd_str (pad_cons pd_str pad_nil))) pad_nil))) (pad_cons (pd_call c (ok__law_pull T) (by decide) (by rfl) (pad_cons (pd_var (pv 0)) (pad_cons (pd_op op_addU s_add (pd_var (pv 1)) pd_int) pad_nil))) pad_nil))))))
    pssd_nil)
    (pssd_one (psd_ret (pd_if (ptd_cmp (op_eqU c.room) s_eq (pd_var (pv 2)) pd_int (nomark _)) (pd_tup (pad_cons pd_str pad_nil)) (pd_tup (pad_cons pd_str (pad_cons (pd_call c (ok__law_end T) (by decide) (by rfl) (pad_cons (pd_var (pv 0)) (pad_cons (pd_var (pv 1)) pad_nil))) pad_nil))))))))))
theorem is__law_move (T : Txt P K mg w) : DefIs P w K mg base "_law_move" "_law_move" s__law_move 4 m__law_move := fun _ _ F => fnr_ok false F sc__law_move rfl rfl (fun _ _ _ _ _ _ us hl => match us, hl with | [_, _], _ => rfl) (bd__law_move T)
theorem ok__law_move (T : Txt P K mg w) : DefOk P w K mg base "_law_move" 4 m__law_move := T.d__law_move.ok (is__law_move T)
theorem bd__law_moves (T : Txt P K mg w) (f : Addr) (cdv : Value) (A : Around) (outer : List PySem.Env) (s : Shared) (H : Hp) (E : XK) (c : Cc (cxOf (L2.CX P w) P w K mg base N__law_moves "_law_moves" (defScope s__law_moves) f cdv A outer s H E) (fun c d _ H' => E c d H') 4) :
    PSs (cxOf (L2.CX P w) P w K mg base N__law_moves "_law_moves" (defScope s__law_moves) f cdv A outer s H E) (defBody s__law_moves) (tDS K mg (fun c d _ H' => E c d H') b__law_moves) :=
    (pssd_one (psd_ret (pd_lc (own := [("_law_k", 3)]) c.calm c.nd (pid_range1 (by rfl) T.b_range (pad_cons (pd_call c (ok__law_pull T) (by decide) (by rfl) (pad_cons (pd_var (pv 0)) (pad_cons (pd_op op_addU s_add (pd_var (pv 1)) pd_int) pad_nil))) pad_nil)) (blkOk_by (own := [("_law_k", 3)]) (N := N__law_moves) (sc := defScope s__law_moves) (by decide +kernel)) (fun s0 H0 C0 cl0 fp0 => (pgv_name (pg_name (i := 3) (c.blk s0 H0 _ _ fp0).nd rfl (Or.inl rfl)) (by decide))) (fun s0 H0 C0 cl0 fp0 => ptsd_nil) (fun s0 H0 C0 cl0 fp0 => (pd_call (c.blk s0 H0 _ _ fp0) (ok__law_move T) (by decide) (by rfl) (pad_cons (pd_var (pv 0)) (pad_cons (pd_var (pv 2)) pad_nil)))))))
theorem is__law_moves (T : Txt P K mg w) : DefIs P w K mg base "_law_moves" "_law_moves" s__law_moves 5 m__law_moves := fun _ _ F => fnr_ok false F sc__law_moves rfl rfl (fun _ _ _ _ _ _ us hl => match us, hl with | [_, _, _], _ => rfl) (bd__law_moves T)
theorem ok__law_moves (T : Txt P K mg w) : DefOk P w K mg base "_law_moves" 5 m__law_moves := T.d__law_moves.ok (is__law_moves T)
theorem bd__law_odd_moves (T : Txt P K mg w) (f : Addr) (cdv : Value) (A : Around) (outer : List PySem.Env) (s : Shared) (H : Hp) (E : XK) (c : Cc (cxOf (L2.CX P w) P w K mg base N__law_odd_moves "_law_odd_moves" (defScope s__law_odd_moves) f cdv A outer s H E) (fun c d _ H' => E c d H') 0) :
    PSs (cxOf (L2.CX P w) P w K mg base N__law_odd_moves "_law_odd_moves" (defScope s__law_odd_moves) f cdv A outer s H E) (defBody s__law_odd_moves) (tDS K mg (fun c d _ H' => E c d H') b__law_odd_moves) :=
    (pssd_cons (psd_asg (pd_tup (pad_cons (pd_tup (pad_cons pd_str (pad_cons pd_int pad_nil))) (pad_cons (pd_tup (pad_cons pd_str (pad_cons pd_int pad_nil))) pad_nil))) (pgd_un c.calm (pgsd_cons (pgd_name (pg_name (i := 0) c.nd rfl (Or.inl rfl))) (pgsd_cons (pgd_name (pg_name (i := 1) c.nd rfl (Or.inl rfl))) pgsd_nil))))
    (pssd_cons (psd_set (i := 2) c.nd rfl (Or.inl rfl) (pd_lst (pad_cons (pd_tup pad_nil) (pad_cons (pd_tup (pad_cons pd_str pad_nil)) (pad_cons (pd_tup (pad_cons pd_str (pad_cons (pd_var (pv 0)) pad_nil))) (pad_cons (pd_tup (pad_cons pd_str (pad_cons (pd_var (pv 0)) (pad_cons (pd_tup (pad_cons pd_str (pad_cons pd_int pad_nil))) pad_nil)))) (pad_cons (pd_tup (pad_cons pd_str (pad_cons (pd_var (pv 0)) (pad_cons (pd_var (pv 1)) pad_nil)))) (pad_cons (pd_tup (pad_cons pd_str (pad_cons (pd_tup (pad_cons pd_str (pad_cons (pd_un un_neg s_neg pd_int) pad_nil))) (pad_cons (pd_var (pv 0)) pad_nil)))) pad_nil))))))))
    (pssd_cons (psd_set (i := 2) c.nd rfl (Or.inl rfl) (pd_op op_addU s_add (pd_var (pv 2)) (pd_lst (pad_cons (pd_tup (pad_cons pd_str (pad_cons (pd_var (pv 0)) (pad_cons (pd_var (pv 0)) (pad_cons (pd_var (pv 0)) pad_nil))))) (pad_cons (pd_tup (pad_cons pd_str (pad_cons (pd_var (pv 1)) (pad_cons (pd_var (pv 0)) pad_nil)))) (pad_cons (pd_tup (pad_cons pd_str (pad_cons pd_int pad_nil))) (pad_cons (pd_tup (pad_cons pd_str (pad_cons (pd_un un_neg s_neg pd_int) pad_nil))) (pad_cons (pd_tup (pad_cons pd_str pad_nil)) (pad_cons (pd_tup (pad_cons pd_str (pad_cons pd_int (pad_cons pd_int pad_nil)))) pad_nil)))))))))
    (pssd_cons (psd_set (i := 2) c.nd rfl (Or.inl rfl) (pd_op op_addU s_add (pd_var (pv 2)) (pd_lst (pad_cons (pd_tup (pad_cons pd_str (pad_cons pd_str (pad_cons pd_int pad_nil)))) (pad_cons (pd_tup (pad_cons pd_str (pad_cons pd_str (pad_cons (pd_un un_neg s_neg pd_int) pad_nil)))) (pad_cons (pd_tup (pad_cons pd_str (pad_cons pd_str (pad_cons pd_int pad_nil)))) (pad_cons (pd_tup (pad_cons pd_str (pad_cons pd_str pad_nil))) (pad_cons (pd_tup (pad_cons pd_str (pad_cons pd_int (pad_cons pd_int pad_nil)))) pad_nil))))))))
    (pssd_cons (psd_set (i := 2) c.nd rfl (Or.inl rfl) (pd_op op_addU s_add (pd_var (pv 2)) (pd_lst (pad_cons (pd_tup (pad_cons pd_str (pad_cons pd_int pad_nil))) (pad_cons (pd_tup (pad_cons pd_str (pad_cons pd_str pad_nil))) (pad_cons (pd_tup (pad_cons pd_str pad_nil)) (pad_cons (pd_tup (pad_cons pd_str (pad_cons (pd_var (pv 1)) pad_nil))) (pad_cons (pd_tup (pad_cons pd_str (pad_cons pd_int pad_nil))) (pad_cons (pd_tup (pad_cons pd_str (pad_cons (pd_var (pv 0)) pad_nil))) (pad_cons (pd_tup (pad_cons pd_str (pad_cons (pd_var (pv 0)) pad_nil))) pad_nil))))))))))
    (pssd_cons (psd_set (i := 2) c.nd rfl (Or.inl rfl) (pd_op op_addU s_add (pd_var (pv 2)) (pd_lst (pad_cons (pd_tup (pad_cons pd_str (pad_cons pd_str pad_nil))) (pad_cons (pd_tup (pad_cons pd_str (pad_cons pd_str (pad_cons pd_str pad_nil)))) (pad_cons (pd_tup (pad_cons pd_str (pad_cons (pd_var (pv 0)) pad_nil))) (pad_cons (pd_tup (pad_cons pd_str (pad_cons (pd_var (pv 0)) (pad_cons pd_int pad_nil)))) (pad_cons (pd_tup (pad_cons pd_int (pad_cons pd_int pad_nil))) (pad_cons (pd_tup (pad_cons (pd_var (pv 0)) pad_nil)) (pad_cons (pd_tup (pad_cons (pd_var (pv 0)) (pad_cons (pd_var (pv 0)) pad_nil))) pad_nil))))))))))
    (pssd_one (psd_ret (pd_op op_addU s_add (pd_var (pv 2)) (pd_lst (pad_cons (pd_tup (pad_cons pd_str (pad_cons pd_str (pad_cons pd_str pad_nil)))) (pad_cons (pd_tup (pad_cons pd_str (pad_cons pd_str (pad_cons (pd_var (pv 0)) pad_nil)))) (pad_cons (pd_tup (pad_cons pd_str (pad_cons pd_str pad_nil))) (pad_cons (pd_tup (pad_cons pd_str (pad_cons pd_int (pad_cons pd_int pad_nil)))) (pad_cons (pd_tup (pad_cons pd_str pad_nil)) (pad_cons (pd_tup (pad_cons pd_str pad_nil)) pad_nil))))))))))))))))
theorem is__law_odd_moves (T : Txt P K mg w) : DefIs P w K mg base "_law_odd_moves" "_law_odd_moves" s__law_odd_moves 1 m__law_odd_moves := fun _ _ F => fnr_ok false F sc__law_odd_moves rfl rfl (fun _ _ _ _ _ _ us hl => match us, hl with | [], _ => rfl) (bd__law_odd_moves T)
theorem ok__law_odd_moves (T : Txt P K mg w) : DefOk P w K mg base "_law_odd_moves" 1 m__law_odd_moves := T.d__law_odd_moves.ok (is__law_odd_moves T)
theorem bd__law_depth (T : Txt P K mg w) (f : Addr) (cdv : Value) (A : Around) (outer : List PySem.Env) (s : Shared) (H : Hp) (E : XK) (c : Cc (cxOf (L2.CX P w) P w K mg base N__law_depth "_law_depth" (defScope s__law_depth) f cdv A outer s H E) (fun c d _ H' => E c d H') 0) :
    PSs (cxOf (L2.CX P w) P w K mg base N__law_depth "_law_depth" (defScope s__law_depth) f cdv A outer s H E) (defBody s__law_depth) (tDS K mg (fun c d _ H' => E c d H') b__law_depth) :=
    (pssd_cons (psd_if (ptd_cmp (op_eqU c.room) s_eq (pd_ix (pd_var (pv 0)) pd_int (fun _ _ => rfl)) pd_str (nomark _))
    (pssd_one (psd_ret pd_int))
    pssd_nil)
    (pssd_cons (psd_if (ptd_cmp (op_eqU c.room) s_eq (pd_ix (pd_var (pv 0)) pd_int (fun _ _ => rfl)) pd_str (nomark _))
    (pssd_one (psd_ret (pd_callB call_abs s_abs (by rfl) T.b_abs (by decide +kernel) (pad_cons (pd_ix (pd_var (pv 0)) pd_int (fun _ _ => rfl)) pad_nil))))
    pssd_nil)
    (pssd_cons (psd_if (ptd_cmp (op_eqU c.room) s_eq (pd_ix (pd_var (pv 0)) pd_int (fun _ _ => rfl)) pd_str (nomark _))
    (pssd_one (psd_ret (pd_ix (pd_var (pv 0)) pd_int (fun _ _ => rfl))))
    pssd_nil)
    (pssd_one (psd_ret (pd_op op_addU s_add (pd_callB (CallR.or (call_max2 c.calm) (cr_max c.calm)) s_max (by rfl) T.b_max (by decide +kernel) (pad_cons (pd_lc (own := [("_law_spot", 1)]) c.calm c.nd (pid_seq (pd_slice (mu := false) (pd_var (pv 0)) (pod_some pd_int) pod_none)) (blkOk_by (own := [("_law_spot", 1)]) (N := N__law_depth) (sc := defScope s__law_depth) (by decide +kernel)) (fun s0 H0 C0 cl0 fp0 => (pgv_name (pg_name (i := 1) (c.blk s0 H0 _ _ fp0).nd rfl (Or.inl rfl)) (by decide))) (fun s0 H0 C0 cl0 fp0 => ptsd_nil) (fun s0 H0 C0 cl0 fp0 => (pd_ix (pd_var (pv 1)) pd_int (fun _ _ => rfl)))) pad_nil)) pd_int))))))
theorem is__law_depth (T : Txt P K mg w) : DefIs P w K mg base "_law_depth" "_law_depth" s__law_depth 1 m__law_depth := fun _ _ F => fnr_ok false F sc__law_depth rfl rfl (fun _ _ _ _ _ _ us hl => match us, hl with | [_], _ => rfl) (bd__law_depth T)
theorem ok__law_depth (T : Txt P K mg w) : DefOk P w K mg base "_law_depth" 1 m__law_depth := T.d__law_depth.ok (is__law_depth T)
theorem bd__law_reach (T : Txt P K mg w) (f : Addr) (cdv : Value) (A : Around) (outer : List PySem.Env) (s : Shared) (H : Hp) (E : XK) (c : Cc (cxOf (L2.CX P w) P w K mg base N__law_reach "_law_reach" (defScope s__law_reach) f cdv A outer s H E) (fun c d _ H' => E c d H') 1) :
    PSs (cxOf (L2.CX P w) P w K mg base N__law_reach "_law_reach" (defScope s__law_reach) f cdv A outer s H E) (defBody s__law_reach) (tDS K mg (fun c d _ H' => E c d H') b__law_reach) :=
    (pssd_one (psd_ret (pd_callB (cr_sum c.calm) s_sum (by rfl) T.b_sum (by decide +kernel) (pad_cons (pd_lc (own := [("_law_move_here", 1)]) c.calm c.nd (pid_seq (pd_var (pv 0))) (blkOk_by (own := [("_law_move_here", 1)]) (N := N__law_reach) (sc := defScope s__law_reach) (by decide +kernel)) (fun s0 H0 C0 cl0 fp0 => (pgv_name (pg_name (i := 1) (c.blk s0 H0 _ _ fp0).nd rfl (Or.inl rfl)) (by decide))) (fun s0 H0 C0 cl0 fp0 => ptsd_nil) (fun s0 H0 C0 cl0 fp0 => (pd_call (c.blk s0 H0 _ _ fp0) (ok__law_depth T) (by decide) (by rfl) (pad_cons (pd_var (pv 1)) pad_nil)))) pad_nil))))
theorem is__law_reach (T : Txt P K mg w) : DefIs P w K mg base "_law_reach" "_law_reach" s__law_reach 2 m__law_reach := fun _ _ F => fnr_ok false F sc__law_reach rfl rfl (fun _ _ _ _ _ _ us hl => match us, hl with | [_], _ => rfl) (bd__law_reach T)
theorem ok__law_reach (T : Txt P K mg w) : DefOk P w K mg base "_law_reach" 2 m__law_reach := T.d__law_reach.ok (is__law_reach T)
theorem bd__law_same (T : Txt P K mg w) (n : Nat) (ih : DefOk P w K mg base "_law_same" (n + 0) (m__law_same n)) (f : Addr) (cdv : Value) (A : Around) (outer : List PySem.Env) (s : Shared) (H : Hp) (E : XK) (c : Cc (cxOf (L2.CX P w) P w K mg base N__law_same "_law_same" (defScope s__law_same) f cdv A outer s H E) (fun c d _ H' => E c d H') (n + 0)) :
    PSs (cxOf (L2.CX P w) P w K mg base N__law_same "_law_same" (defScope s__law_same) f cdv A outer s H E) (defBody s__law_same) (tDS K mg (fun c d _ H' => E c d H') (bR__law_same (m__law_same n))) :=
    (pssd_cons (psd_if (PW.pt (pwd_or (ptd_truth (pd_callB call_isi s_isi (by rfl) T.b_isinstance (by decide +kernel) (pad_cons (pd_var (pv 1)) (pad_cons (pd_c (pe_bltn (v := .ty "list") (by rfl) T.b_list (by decide +kernel) rfl) (fun _ => .ty "list")) pad_nil)))) (pwd_or1 (ptd_truth (pd_callB call_isi s_isi (by rfl) T.b_isinstance (by decide +kernel) (pad_cons (pd_var (pv 1)) (pad_cons (pd_c (pe_bltn (v := .ty "tuple") (by rfl) T.b_tuple (by decide +kernel) rfl) (fun _ => .ty "tuple")) pad_nil)))))))
    (pssd_cons (psd_if (PW.pt (pwd_or (ptd_cmp (op_neU c.room) s_ne (pd_callB call_isi s_isi (by rfl) T.b_isinstance (by decide +kernel) (pad_cons (pd_var (pv 0)) (pad_cons (pd_c (pe_bltn (v := .ty "list") (by rfl) T.b_list (by decide +kernel) rfl) (fun _ => .ty "list")) pad_nil))) (pd_callB call_isi s_isi (by rfl) T.b_isinstance (by decide +kernel) (pad_cons (pd_var (pv 1)) (pad_cons (pd_c (pe_bltn (v := .ty "list") (by rfl) T.b_list (by decide +kernel) rfl) (fun _ => .ty "list")) pad_nil))) (nomark _)) (pwd_or1 (ptd_cmp (op_neU c.room) s_ne (pd_callB call_isi s_isi (by rfl) T.b_isinstance (by decide +kernel) (pad_cons (pd_var (pv 0)) (pad_cons (pd_c (pe_bltn (v := .ty "tuple") (by rfl) T.b_tuple (by decide +kernel) rfl) (fun _ => .ty "tuple")) pad_nil))) (pd_callB call_isi s_isi (by rfl) T.b_isinstance (by decide +kernel) (pad_cons (pd_var (pv 1)) (pad_cons (pd_c (pe_bltn (v := .ty "tuple") (by rfl) T.b_tuple (by decide +kernel) rfl) (fun _ => .ty "tuple")) pad_nil))) (nomark _)))))
    (pssd_one (psd_ret pd_bl))
    pssd_nil)
    (pssd_one (psd_ret (pd_and (pd_cmp (op_eqU c.room) s_eq (pd_callB call_len s_len (by rfl) T.b_len (by decide +kernel) (pad_cons (pd_var (pv 0)) pad_nil)) (pd_callB call_len s_len (by rfl) T.b_len (by decide +kernel) (pad_cons (pd_var (pv 1)) pad_nil)) (nomark _)) (pd_one (pd_callB (cr_all c.calm) s_all (by rfl) T.b_all (by decide +kernel) (pad_cons (pd_lc (own := [("_law_one", 2), ("_law_other", 3)]) c.calm c.nd (pid_zip (by rfl) T.b_zip (pad_cons (pd_var (pv 0)) (pad_cons (pd_var (pv 1)) pad_nil))) (blkOk_by (own := [("_law_one", 2), ("_law_other", 3)]) (N := N__law_same) (sc := defScope s__law_same) (by decide +kernel)) (fun s0 H0 C0 cl0 fp0 => (pgv_tup (c.blk s0 H0 _ _ fp0).calm (pgsv_cons (pgv_name (pg_name (i := 2) (c.blk s0 H0 _ _ fp0).nd rfl (Or.inl rfl)) (by decide)) (pgsv_cons (pgv_name (pg_name (i := 3) (c.blk s0 H0 _ _ fp0).nd rfl (Or.inl rfl)) (by decide)) pgsv_nil)))) (fun s0 H0 C0 cl0 fp0 => ptsd_nil) (fun s0 H0 C0 cl0 fp0 => (pd_call (c.blk s0 H0 _ _ fp0) ih (by omega) (by rfl) (pad_cons (pd_var (pv 2)) (pad_cons (pd_var (pv 3)) pad_nil))))) pad_nil)))))))
    pssd_nil)
    (pssd_cons (psd_if (ptd_truth (pd_callB call_isi s_isi (by rfl) T.b_isinstance (by decide +kernel) (pad_cons (pd_var (pv 1)) (pad_cons (pd_c (pe_bltn (v := .ty "dict") (by rfl) T.b_dict (by decide +kernel) rfl) (fun _ => .ty "dict")) pad_nil))))
    (pssd_one (psd_ret (pd_and (pd_callB call_isi s_isi (by rfl) T.b_isinstance (by decide +kernel) (pad_cons (pd_var (pv 0)) (pad_cons (pd_c (pe_bltn (v := .ty "dict") (by rfl) T.b_dict (by decide +kernel) rfl) (fun _ => .ty "dict")) pad_nil))) (pd_and (pd_call c ih (by omega) (by rfl) (pad_cons (pd_callB (cr_sortD c) s_sorted (by rfl) T.b_sorted (by decide +kernel) (pad_cons (pd_callTy call_list_of (s_list false) (by rfl) T.b_list (by decide +kernel) (pad_cons (pd_var (pv 0)) pad_nil)) pad_nil)) (pad_cons (pd_callB (cr_sortD c) s_sorted (by rfl) T.b_sorted (by decide +kernel) (pad_cons (pd_callTy call_list_of (s_list false) (by rfl) T.b_list (by decide +kernel) (pad_cons (pd_var (pv 1)) pad_nil)) pad_nil)) pad_nil))) (pd_one (pd_callB (cr_all c.calm) s_all (by rfl) T.b_all (by decide +kernel) (pad_cons (pd_lc (own := [("_law_key", 4)]) c.calm c.nd (pid_seq (pd_callTy call_list_of (s_list false) (by rfl) T.b_list (by decide +kernel) (pad_cons (pd_var (pv 1)) pad_nil))) (blkOk_by (own := [("_law_key", 4)]) (N := N__law_same) (sc := defScope s__law_same) (by decide +kernel)) (fun s0 H0 C0 cl0 fp0 => (pgv_name (pg_name (i := 4) (c.blk s0 H0 _ _ fp0).nd rfl (Or.inl rfl)) (by decide))) (fun s0 H0 C0 cl0 fp0 => ptsd_nil) (fun s0 H0 C0 cl0 fp0 => (pd_call (c.blk s0 H0 _ _ fp0) ih (by omega) (by rfl) (pad_cons (pd_ix (pd_var (pv 0)) (pd_var (pv 4)) (fun _ _ => rfl)) (pad_cons (pd_ix (pd_var (pv 1)) (pd_var (pv 4)) (fun _ _ => rfl)) pad_nil))))) pad_nil)))))))
    pssd_nil)
    (pssd_cons (psd_if (PW.pt (pwd_or (ptd_cmp op_isU s_is (pd_var (pv 1)) pd_non (nomark _)) (pwd_or1 (ptd_cmp op_isU s_is (pd_var (pv 0)) pd_non (nomark _)))))
    (pssd_one (psd_ret (pd_and (pd_cmp op_isU s_is (pd_var (pv 1)) pd_non (nomark _)) (pd_one (pd_cmp op_isU s_is (pd_var (pv 0)) pd_non (nomark _))))))
    pssd_nil)
    (pssd_cons (psd_if (PW.pt (pwd_or (ptd_cmp (op_neU c.room) s_ne (pd_callB call_isi s_isi (by rfl) T.b_isinstance (by decide +kernel) (pad_cons (pd_var (pv 0)) (pad_cons (pd_c (pe_bltn (v := .ty "bool") (by rfl) T.b_bool (by decide +kernel) rfl) (fun _ => .ty "bool")) pad_nil))) (pd_callB call_isi s_isi (by rfl) T.b_isinstance (by decide +kernel) (pad_cons (pd_var (pv 1)) (pad_cons (pd_c (pe_bltn (v := .ty "bool") (by rfl) T.b_bool (by decide +kernel) rfl) (fun _ => .ty "bool")) pad_nil))) (nomark _)) (pwd_or1 (ptd_cmp (op_neU c.room) s_ne (pd_callB call_isi s_isi (by rfl) T.b_isinstance (by decide +kernel) (pad_cons (pd_var (pv 0)) (pad_cons (pd_c (pe_bltn (v := .ty "int") (by rfl) T.b_int (by decide +kernel) rfl) (fun _ => .ty "int")) pad_nil))) (pd_callB call_isi s_isi (by rfl) T.b_isinstance (by decide +kernel) (pad_cons (pd_var (pv 1)) (pad_cons (pd_c (pe_bltn (v := .ty "int") (by rfl) T.b_int (by decide +kernel) rfl) (fun _ => .ty "int")) pad_nil))) (nomark _)))))
    (pssd_one (psd_ret pd_bl))
    pssd_nil)
    (pssd_one (psd_ret (pd_and (pd_cmp (op_eqU c.room) s_eq (pd_callB call_isi s_isi (by rfl) T.b_isinstance (by decide +kernel) (pad_cons (pd_var (pv 0)) (pad_cons (pd_c (pe_bltn (v := .ty "str") (by rfl) T.b_str (by decide +kernel) rfl) (fun _ => .ty "str")) pad_nil))) (pd_callB call_isi s_isi (by rfl) T.b_isinstance (by decide +kernel) (pad_cons (pd_var (pv 1)) (pad_cons (pd_c (pe_bltn (v := .ty "str") (by rfl) T.b_str (by decide +kernel) rfl) (fun _ => .ty "str")) pad_nil))) (nomark _)) (pd_one (pd_cmp (op_eqU c.room) s_eq (pd_var (pv 0)) (pd_var (pv 1)) (nomark _))))))))))
theorem ok__law_same (T : Txt P K mg w) : ∀ n, DefOk P w K mg base "_law_same" (n + 0) (m__law_same n)
  | 0 => def_bad T.d__law_same
  | n + 1 => by
    have h := def_ok (k := n + 0) false T.d__law_same sc__law_same rfl rfl (fun _ _ _ _ _ _ us hl => match us, hl with | [_, _], _ => rfl) (bd__law_same T n (ok__law_same T n))
    have e : n + 0 + 1 = n + 1 + 0 := by omega
    rw [e] at h
    exact h
theorem bd__law_word_of (T : Txt P K mg w) (f : Addr) (cdv : Value) (A : Around) (outer : List PySem.Env) (s : Shared) (H : Hp) (E : XK) (c : Cc (cxOf (L2.CX P w) P w K mg base N__law_word_of "_law_word_of" (defScope s__law_word_of) f cdv A outer s H E) (fun c d _ H' => E c d H') 4) :
    PSs (cxOf (L2.CX P w) P w K mg base N__law_word_of "_law_word_of" (defScope s__law_word_of) f cdv A outer s H E) (defBody s__law_word_of) (tDS K mg (fun c d _ H' => E c d H') b__law_word_of) :=
    (pssd_cons (psd_if (ptd_cmp (op_eqU c.room) s_eq (pd_callB call_len s_len (by rfl) T.b_len (by decide +kernel) (pad_cons (pd_var (pv 0)) pad_nil)) pd_int (nomark _))
    (pssd_one (psd_ret (pd_call0 c (ok_Word T) (by decide) (by rfl))))
    pssd_nil)
    (pssd_cons (psd_if (ptd_cmp (op_eqU c.room) s_eq (pd_callB call_len s_len (by rfl) T.b_len (by decide +kernel) (pad_cons (pd_var (pv 0)) pad_nil)) pd_int (nomark _))
    (pssd_one (psd_ret (pd_call c (ok_Word T) (by decide) (by rfl) (pad_cons (pd_ix (pd_var (pv 0)) pd_int (fun _ _ => rfl)) pad_nil))))
    pssd_nil)
    (pssd_one (psd_ret (pd_if (ptd_cmp (op_eqU c.room) s_eq (pd_callB call_len s_len (by rfl) T.b_len (by decide +kernel) (pad_cons (pd_var (pv 0)) pad_nil)) pd_int (nomark _)) (pd_call c (ok_Word T) (by decide) (by rfl) (pad_cons (pd_ix (pd_var (pv 0)) pd_int (fun _ _ => rfl)) (pad_cons (pd_ix (pd_var (pv 0)) pd_int (fun _ _ => rfl)) pad_nil))) (pd_call c (ok_Word T) (by decide) (by rfl) (pad_cons (pd_ix (pd_var (pv 0)) pd_int (fun _ _ => rfl)) (pad_cons (pd_ix (pd_var (pv 0)) pd_int (fun _ _ => rfl)) (pad_cons (pd_ix (pd_var (pv 0)) pd_int (fun _ _ => rfl)) pad_nil)))))))))
theorem is__law_word_of (T : Txt P K mg w) : DefIs P w K mg base "_law_word_of" "_law_word_of" s__law_word_of 5 m__law_word_of := fun _ _ F => fnr_ok false F sc__law_word_of rfl rfl (fun _ _ _ _ _ _ us hl => match us, hl with | [_], _ => rfl) (bd__law_word_of T)
theorem ok__law_word_of (T : Txt P K mg w) : DefOk P w K mg base "_law_word_of" 5 m__law_word_of := T.d__law_word_of.ok (is__law_word_of T)
abbrev lamF_law : Nat → LamF := fun i => match i with
  | 0 => lamOf "law.<locals>.<lambda>" (defBody s_law) [1, 6, 3] [0, 1]
  | 1 => lamOf "law.<locals>.<lambda>" (defBody s_law) [1, 7] [0, 1]
  | _ => lamOf "" [] [] []
theorem lam_law_0 (T : Txt P K mg w) (f : Addr) (cdv : Value) (A : Around) (outer : List PySem.Env) (s : Shared) (H : Hp) (E : XK) : LamAt (cxOf (L2.CX P w) P w K mg base N_law "law" (defScope s_law) f cdv A outer s H E) (lamF_law 0) 5 ml_law_0 := ⟨show LamW N_law (defScope s_law) (lamF_law 0).scope from lamW_by (by decide +kernel), .inl ⟨rfl, fun _ _ _ _ => rfl⟩, rfl, fun A outer s H E fa c' c =>
    (pd_call c (ok__law_word_of T) (by decide) (by rfl) (pad_cons (pd_var (pv 8)) pad_nil))⟩
theorem lam_law_1 (T : Txt P K mg w) (f : Addr) (cdv : Value) (A : Around) (outer : List PySem.Env) (s : Shared) (H : Hp) (E : XK) : LamAt (cxOf (L2.CX P w) P w K mg base N_law "law" (defScope s_law) f cdv A outer s H E) (lamF_law 1) 5 ml_law_1 := ⟨show LamW N_law (defScope s_law) (lamF_law 1).scope from lamW_by (by decide +kernel), .inr ⟨List.cons_ne_nil _ _, "_law_a", rfl, fun _ _ _ _ _ => ⟨_, rfl, fun _ => rfl⟩⟩, rfl, fun A outer s H E fa c' c =>
    (pd_call c (ok_Word T) (by decide) (by rfl) (pad_cons (pd_tup (pad_cons pd_str pad_nil)) (pad_cons (pd_var (pv 10)) pad_nil)))⟩
theorem lok_law (T : Txt P K mg w) (f : Addr) (cdv : Value) (A : Around) (outer : List PySem.Env) (s : Shared) (H : Hp) (E : XK) : LamsOk (cxOf (L2.CX P w) P w K mg base N_law "law" (defScope s_law) f cdv A outer s H E) ⟨(cxOf (L2.CX P w) P w K mg base N_law "law" (defScope s_law) f cdv A outer s H E).env.cells, lamF_law⟩ 5 0 (lams_law ⟨(cxOf (L2.CX P w) P w K mg base N_law "law" (defScope s_law) f cdv A outer s H E).env.cells, lamF_law⟩ 0) := ⟨lam_law_0 T f cdv A outer s H E, lam_law_1 T f cdv A outer s H E, trivial⟩
theorem bd_law (T : Txt P K mg w) (TP : Addr) (f : Addr) (cdv : Value) (A : Around) (outer : List PySem.Env) (s : Shared) (H : Hp) (E : XK) (LC : LamC (cxOf (L2.CX P w) P w K mg base N_law "law" (defScope s_law) f cdv A outer s H E) ⟨(cxOf (L2.CX P w) P w K mg base N_law "law" (defScope s_law) f cdv A outer s H E).env.cells, lamF_law⟩ TP) (c : Cc (cxOf (L2.CX P w) P w K mg base N_law "law" (defScope s_law) f cdv A outer s H E) (fun c d _ H' => E c d H') 9) :
    PSs (cxOf (L2.CX P w) P w K mg base N_law "law" (defScope s_law) f cdv A outer s H E) (defBody s_law) (tDP K mg TP (b_law ⟨(cxOf (L2.CX P w) P w K mg base N_law "law" (defScope s_law) f cdv A outer s H E).env.cells, lamF_law⟩ TP)) :=
    (pssd_tab (psd_set (i := 1) c.nd rfl (Or.inl rfl) (pd_call c (ok__law_bag T) (by decide) (by rfl) (pad_cons (pd_var (pv 0)) pad_nil)))
    (pssd_cons (psd_for c.hp c.calm (pid_range1 (by rfl) T.b_range (pad_cons pd_int pad_nil)) (pgd_name (pg_name (i := 2) c.nd rfl (Or.inl rfl)))
    (pssd_cons (psd_set (i := 3) c.nd rfl (Or.inl rfl) (pd_call c (ok__law_moves T) (by decide) (by rfl) (pad_cons (pd_var (pv 1)) (pad_cons pd_int (pad_cons pd_int pad_nil)))))
    (pssd_cons (psd_par (i := 4) (j := 5) (fun _ ha => ps_par c.calm c.nd rfl rfl (by decide) rfl rfl ha (by rfl)) (pad_cons (pd_call c (ok__law_word_of T) (by decide) (by rfl) (pad_cons (pd_var (pv 3)) pad_nil)) (pad_cons (pd_call c (ok__law_word_of T) (by decide) (by rfl) (pad_cons (pd_var (pv 3)) pad_nil)) pad_nil)))
    (pssd_cons (psd_for c.hp c.calm (pid_range1 (by rfl) T.b_range (pad_cons pd_int pad_nil)) (pgd_name (pg_name (i := 6) c.nd rfl (Or.inl rfl)))
    (pssd_cons (psd_set (i := 7) c.nd rfl (Or.inl rfl) (pd_meth0 (j := 1) c ⟨(T.me_Word_moves.ok (is_Word_moves__M T)).mono (by decide), trivial⟩ (by decide) (pd_var (pv 4))))
    (pssd_cons (psd_if (ptd_lend (i := 7) (ptd_not (ptd_truth (pd_call c (ok__law_same T 6) (by decide) (by rfl) (pad_cons (pd_lst (pad_cons (pd_var (pv 7)) (pad_cons (pd_callB (cr_len (tab := [("Word", m_Word___len__)]) (j := 1) c ⟨(T.ow_Word___len__.ok (is_Word___len__ T)).mono (by decide), trivial⟩ (by decide)) sN_own (by rfl) T.b_len (by decide +kernel) (pad_cons (pd_var (pv 4)) pad_nil)) (pad_cons (pd_prop (j := 2) c ⟨(T.pr_Word_reach.ok (is_Word_reach T)).mono (by decide), trivial⟩ (by decide) (pd_var (pv 4))) (pad_cons (pd_callB (cr_repr (tab := [("Word", m_Word___repr__)]) (j := 1) c ⟨(T.ow_Word___repr__.ok (is_Word___repr__ T)).mono (by decide), trivial⟩ (by decide)) sN_own (by rfl) T.b_repr (by decide +kernel) (pad_cons (pd_var (pv 4)) pad_nil)) pad_nil))))) (pad_cons (pd_lst (pad_cons (pd_var (pv 3)) (pad_cons (pd_callB call_len s_len (by rfl) T.b_len (by decide +kernel) (pad_cons (pd_var (pv 3)) pad_nil)) (pad_cons (pd_call c (ok__law_reach T) (by decide) (by rfl) (pad_cons (pd_var (pv 3)) pad_nil)) (pad_cons (pd_op op_addU s_add (pd_op op_addU s_add pd_str (pd_callTy call_strB s_strB (by rfl) T.b_str (by decide +kernel) (pad_cons (pd_callB call_len s_len (by rfl) T.b_len (by decide +kernel) (pad_cons (pd_var (pv 3)) pad_nil)) pad_nil))) pd_str) pad_nil))))) pad_nil))))))
    (pssd_one (psd_ret pd_bl))
    pssd_nil)
    (pssd_one (psd_expr (pd_bm PySem.F.plainAttrs_list PySem.F.slot_list_append PySem.F.type_list_append mt_append ty_list s_append (pd_var (pv 7)) (pad_cons (pd_tup (pad_cons pd_str pad_nil)) pad_nil)))))))
    (pssd_cons (psd_if (PW.pt (pwd_or (ptd_not (ptd_cmp (op_own (tab := [("Word", m_Word___eq__)]) (j := 1) c ⟨(T.ow_Word___eq__.ok (is_Word___eq__ T)).mono (by decide), trivial⟩ (by decide)) s2_noX (pd_var (pv 4)) (pd_var (pv 5)) (nomark _))) (pwd_or (ptd_cmp (op_own (tab := [("Word", m_Word___eq__)]) (j := 1) c ⟨(T.ow_Word___eq__.ok (is_Word___eq__ T)).mono (by decide), trivial⟩ (by decide)) s2_noX (pd_var (pv 4)) (pd_call c (ok_Word T) (by decide) (by rfl) (pad_cons (pd_tup (pad_cons pd_str (pad_cons (pd_tup (pad_cons pd_str (pad_cons pd_int pad_nil))) pad_nil))) pad_nil)) (nomark _)) (pwd_or1 (ptd_cmp (op_inOwnX (tab := [("Word", m_Word___eq__)]) (j := 1) c ⟨(T.ow_Word___eq__.ok (is_Word___eq__ T)).mono (by decide), trivial⟩ ⟨T.nbs_Word, trivial⟩ (by decide)) s2_noX (pd_var (pv 4)) (pd_lst (pad_cons pd_non (pad_cons pd_str (pad_cons (pd_tup pad_nil) (pad_cons (pd_var (pv 3)) (pad_cons (pd_callTy call_tuple_of s_tuple (by rfl) T.b_tuple (by decide +kernel) (pad_cons (pd_var (pv 3)) pad_nil)) (pad_cons (pd_callTy (cr_str (tab := [("Word", m_Word___str__)]) (j := 7) c ⟨(T.ow_Word___str__.ok (is_Word___str__ T)).mono (by decide), trivial⟩ (by decide)) sN_own (by rfl) T.b_str (by decide +kernel) (pad_cons (pd_var (pv 4)) pad_nil)) pad_nil))))))) (by rfl))))))
    (pssd_one (psd_ret pd_bl))
    pssd_nil)
    (pssd_cons (psd_parG (js := [8, 9]) c.calm rfl (pgs_cons (pg_name (i := 8) c.nd rfl (Or.inr rfl)) (pgs_cons (pg_name (i := 9) c.nd rfl (Or.inl rfl)) pgs_nil)) (pad_cons (pd_callTy call_list_of (s_list true) (by rfl) T.b_list (by decide +kernel) (pad_cons (pd_var (pv 3)) pad_nil)) (pad_cons (pd_call c (ok__law_pull T) (by decide) (by rfl) (pad_cons (pd_var (pv 1)) (pad_cons (pd_callB (CallR.or (call_max2 c.calm) (cr_max c.calm)) s_max (by rfl) T.b_max (by decide +kernel) (pad_cons pd_int (pad_cons (pd_callB call_len s_len (by rfl) T.b_len (by decide +kernel) (pad_cons (pd_var (pv 3)) pad_nil)) pad_nil))) pad_nil))) pad_nil)))
    (pssd_cons (psd_set (i := 10) c.nd rfl (Or.inr rfl) (pd_call c (ok__law_of T) (by decide) (by rfl) (pad_cons (pd_var (pv 1)) (pad_cons (pd_call0 c (ok__law_odd_moves T) (by decide) (by rfl)) pad_nil))))
    (pssd_cons (psd_if (ptd_cmp (op_neU c.room) s_ne (pd_var (pv 3)) (pd_lst pad_nil) (nomark _))
    (pssd_cons (psd_asg (pd_var (pv 10)) (pgd_sub (pd_var (pv 8)) (pd_var (pv 9))))
    (pssd_cons (psd_set (i := 11) c.nd rfl (Or.inl rfl) (pd_call c (ok__law_pull T) (by decide) (by rfl) (pad_cons (pd_var (pv 1)) (pad_cons (pd_callB call_len s_len (by rfl) T.b_len (by decide +kernel) (pad_cons (pd_var (pv 3)) pad_nil)) pad_nil))))
    (pssd_cons (psd_frz (i := 8) (psd_asg (pd_var (pv 10)) (pgd_sub (pd_var (pv 8)) (pd_callB (CallR.or (call_max2 c.calm) (cr_max c.calm)) s_max (by rfl) T.b_max (by decide +kernel) (pad_cons (pd_var (pv 9)) (pad_cons (pd_var (pv 11)) pad_nil))))))
    (pssd_one (psd_if (ptd_cmp (op_neU c.room) s_ne (pd_try (k := 5) (kf := 1) c (ok_try T) LC (lok_law T f cdv A outer s H E) (by decide) (by decide) (by rfl) (pd_lam (i := 0) (k := 1) LC (by rfl) (by rfl) (show lamFreeB (defScope s_law) (lamF_law 0).scope = true from by decide +kernel) (by rfl) (by rfl))) (pd_tup (pad_cons pd_str (pad_cons (pd_var (pv 9)) pad_nil))) (nomark _))
    (pssd_one (psd_ret pd_bl))
    pssd_nil)))))
    pssd_nil)
    (pssd_one (psd_if (ptd_cmp (op_neU c.room) s_ne (pd_try (k := 5) (kf := 1) c (ok_try T) LC (lok_law T f cdv A outer s H E) (by decide) (by decide) (by rfl) (pd_lam1 (i := 1) (k := 1) (n := 0) LC (by rfl) (by rfl) (show lamFreeB (defScope s_law) (lamF_law 1).scope = true from by decide +kernel) (List.cons_ne_nil _ _) (by rfl))) (pd_tup (pad_cons pd_str (pad_cons pd_int pad_nil))) (nomark _))
    (pssd_one (psd_ret pd_bl))
    pssd_nil))))))))))
    (pssd_one (psd_ret (pd_and (pd_cmp (op_eqU c.room) s_eq (pd_lst (pad_cons (pd_cval T.cv_Word_MOST_MOVES_40 (pd_glc T.cl_Word (by rfl))) (pad_cons (pd_cval T.cv_Word_MOST_REACH_60 (pd_glc T.cl_Word (by rfl))) (pad_cons (pd_con ⟨T.co_Word_MOST_REACH_60, trivial⟩ (pd_call0 c (ok_Word T) (by decide) (by rfl))) pad_nil)))) (pd_lst (pad_cons pd_int (pad_cons pd_int (pad_cons pd_int pad_nil)))) (nomark _)) (pd_one (pd_cmp (op_ownNe (tab := [("Word", m_Word___eq__)]) (j := 1) c ⟨(T.ow_Word___eq__.ok (is_Word___eq__ T)).mono (by decide), trivial⟩ ⟨T.nb_Word, trivial⟩ (by decide)) s2_noX (pd_call c (ok_Word T) (by decide) (by rfl) (pad_cons (pd_tup (pad_cons pd_str (pad_cons pd_int pad_nil))) pad_nil)) (pd_call c (ok_Word T) (by decide) (by rfl) (pad_cons (pd_tup (pad_cons pd_str (pad_cons (pd_un un_neg s_neg pd_int) pad_nil))) pad_nil)) (nomark _))))))))
end
theorem all_mk {w : World} {K : PySem.W.Frag} {h : Heap} {mg : Str → Option Value} {fa : Addr} (X : K.In h) (G : h.Ns mainGlobals mg) (hfa : mg "law" = some (.ref fa)) (c : SaysH PGM.main.file fcts fns tbs ers tfs w h K) :
    ∃ fd : FuncData, (∀ (s : Shared) (v : Value), BindsTo s fd ⟨[v], []⟩ [("_law_script", v)]) ∧ ∀ base : Heap, K.In base → base.Ns mainGlobals mg → (∀ p ∈ tfs, LamX.TabB base mg (He.cT K p).1 (He.cT K p).2) → FnOk PGM w K mg base (L2.CX PGM w) 10 fa fd ["_law_script"] (spLawT K (He.cT K (("law" : Str), none)).2) := by
  have T : Txt PGM K mg w := ⟨(fun base => err_of (h := h) X G (c.err 0).1 (c.err 0).2 et_BadMove (free_of X G (c.g.fact 0)) (c.g.fact 1) (c.g.fact 2)),
    (fun base => err_of (h := h) X G (c.err 1).1 (c.err 1).2 et_TooLong (free_of X G (c.g.fact 0)) (c.g.fact 3) (c.g.fact 4)),
    (fun base => err_of (h := h) X G (c.err 2).1 (c.err 2).2 et_BadPlace (free_of X G (c.g.fact 0)) (c.g.fact 5) (c.g.fact 6)),
    top_of X G (c.g.fact 7) (c.g.fun_ 0),
    top_of X G (c.g.fact 8) (c.g.fun_ 1),
    ⟨_, _, glo_of X G (c.g.fact 9), glo_of X G (c.g.fact 10)⟩,
    tryc_of X G (c.g.fact 11) (c.g.fact 9) (c.g.fact 10) (c.g.fact 12) (c.g.fact 13),
    tryc_of X G (c.g.fact 14) (c.g.fact 9) (c.g.fact 10) (c.g.fact 15) (c.g.fact 16),
    tryc_of X G (c.g.fact 17) (c.g.fact 9) (c.g.fact 10) (c.g.fact 18) (c.g.fact 19),
    free_of X G (c.g.fact 20),
    free_of X G (c.g.fact 21),
    free_of X G (c.g.fact 22),
    free_of X G (c.g.fact 23),
    free_of X G (c.g.fact 24),
    free_of X G (c.g.fact 25),
    free_of X G (c.g.fact 26),
    free_of X G (c.g.fact 27),
    free_of X G (c.g.fact 28),
    free_of X G (c.g.fact 29),
    free_of X G (c.g.fact 30),
    free_of X G (c.g.fact 31),
    free_of X G (c.g.fact 32),
    free_of X G (c.g.fact 33),
    free_of X G (c.g.fact 34),
    free_of X G (c.g.fact 35),
    free_of X G (c.g.fact 36),
    int_of X G (c.g.fact 37),
    int_of X G (c.g.fact 38),
    c.g.tab X G 0 39,
    c.g.tab X G 1 40,
    met_of X G (c.g.fact 41) (c.g.fact 42) (c.g.fact 43) (c.g.fun_ 2),
    own_of X G (c.g.fact 41) (c.g.fact 44) (c.g.fact 45) (c.g.fact 46) (c.g.fun_ 3),
    prp_of X G (c.g.fact 41) (c.g.fact 42) (c.g.fact 47) (c.g.fun_ 4),
    own_of X G (c.g.fact 41) (c.g.fact 48) (c.g.fact 45) (c.g.fact 49) (c.g.fun_ 5),
    own_of X G (c.g.fact 41) (c.g.fact 50) (c.g.fact 45) (c.g.fact 51) (c.g.fun_ 6),
    new_of X G (c.g.fact 41) (c.g.fact 52) (c.g.fun_ 7),
    own_of X G (c.g.fact 41) (c.g.fact 53) (c.g.fact 45) (c.g.fact 54) (c.g.fun_ 8),
    nbs_of X G (c.g.fact 41) (c.g.fact 55),
    con_of X G (c.g.fact 41) (c.g.fact 42) (c.g.fact 56),
    cls_of X G (c.g.fact 41),
    cvl_of X G (c.g.fact 41) (c.g.fact 57) (c.g.fact 58),
    cvl_of X G (c.g.fact 41) (c.g.fact 57) (c.g.fact 59),
    ne_of X G (c.g.fact 41) (c.g.fact 60),
    isiG_of X G (c.g.fact 41) (c.g.fact 42) (c.g.fact 61),
    fld_of X G (c.g.fact 41) (c.g.fact 42) (c.g.fact 62),
    con_of X G (c.g.fact 41) (c.g.fact 42) (c.g.fact 63),
    top_of X G (c.g.fact 64) (c.g.fun_ 9),
    top_of X G (c.g.fact 65) (c.g.fun_ 10),
    top_of X G (c.g.fact 66) (c.g.fun_ 11),
    top_of X G (c.g.fact 67) (c.g.fun_ 12),
    top_of X G (c.g.fact 68) (c.g.fun_ 13),
    top_of X G (c.g.fact 69) (c.g.fun_ 14),
    top_of X G (c.g.fact 70) (c.g.fun_ 15),
    top_of X G (c.g.fact 71) (c.g.fun_ 16),
    top_of X G (c.g.fact 72) (c.g.fun_ 17),
    top_of X G (c.g.fact 73) (c.g.fun_ 18),
    top_of X G (c.g.fact 74) (c.g.fun_ 19),
    top_of X G (c.g.fact 75) (c.g.fun_ 20),
    top_of X G (c.g.fact 76) (c.g.fun_ 21),
    top_of X G (c.g.fact 77) (c.g.fun_ 22),
    top_of X G (c.g.fact 78) (c.g.fun_ 23),
    top_of X G (c.g.fact 79) (c.g.fun_ 24),
    top_of X G (c.g.fact 80) (c.g.fun_ 25),
    top_of X G (c.g.fact 81) (c.g.fun_ 26),
    top_of X G (c.g.fact 82) (c.g.fun_ 27)⟩
  obtain ⟨fd, F⟩ := (c.g.fun_ 27)
  have e := hfa.symm.trans (glo_of X G (c.g.fact 82))
  cases e
  refine ⟨fd, fun s v => fun_binds1 F (fun _ _ _ _ _ _ _ => rfl) s v, fun base _ _ tb => ?_⟩
  refine law_tab (b := fun Z => b_law Z (He.cT K (("law" : Str), none)).2) F sc_law rfl (fun Z ns hl => main_law Z _ ns hl) fun cdv A outer s H E lk C => ?_
  obtain ⟨oc, od, kV, doc, pm, an, cdv2, ct, osl, rfl, lk2, hcd⟩ := F.ex
  have hc : ∃ c, cdv = .ref c := by
    obtain ⟨oc1, od1, osl1, dV1, kV1, doc1, pm1, an1, ct1, lk1⟩ := lk
    have lk3 := lk2.symm.trans lk1
    cases lk3
    exact He.codeIn_ref hcd
  exact ⟨_, bd_law T _ _ cdv A outer s H E (lamC_law X G (c.g.fact 82) (glo_of X G (c.g.fact 82)) lk hc (tb _ List.mem_cons_self)) C⟩
end GD
open PySem PySem.W PySem.Calls PyProof.Rows
set_option maxRecDepth 100000 in
set_option maxHeartbeats 0 in
theorem PySem.Challenge.cw_pileports_k08_words_as_values_holds : PySem.Challenge.rw_pileports_k08_words_as_values.Holds := by
  w_on; o_law
  refine HandSHeadRun.head_any (r := GD.RR) (q := view GD.RR.prog [44]) (H := GD.hk) (ob := GD.ob) (M := 20000) (loose := GD.loose) (d := HandSHeadRun.topDef GD.RR.prog 44) (kwd := []) GD.ob_eq
    (by kernel_rfl) (fun s => by kernel_rfl) GD.run (by kernel_rfl) (by kernel_rfl) (by kernel_rfl) (by rfl) (by first | assumption | decide +kernel) (by decide +kernel) ⟨rfl, rfl, rfl, rfl, rfl, by decide +kernel⟩ ?hw ?hc
  case hw => w_witness2
  case hc =>
    refine GD.walk_t (l := PySem.Challenge.rw_pileports_k08_words_as_values) (n := 63) (k := 10) (x := "_law_script") rfl (by decide) (by kernel_rfl) ⟨rfl, by decide, by decide⟩ (by kernel_rfl) List.mem_cons_self fun w mg fa h K KX G hmg c => ?_
    exact GD.all_mk KX G hmg c
