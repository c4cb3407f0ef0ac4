import PyProof.Rows.All
import Wide.All
import OpenK.AllK
import Wide.FinOn
import PySem.Challenge.RW_pileports_k34_great_common_remainders
import PyProof.EqLayable
import HandS.ForMost
import HandS.ForExc
import HandS.Star
import HandS.Wide
import HandS.Deep
import HandS.IsInst
import HandS.Style
import HandS.TupAny
import HandS.Zip
import HandS.NoneIn
set_option Elab.async false
set_option linter.all false
set_option maxRecDepth 100000
set_option maxHeartbeats 4000000
/-! GD0: data, results, the mirrors' words. -/
namespace GD
open PySem

/-- data: what is not changed any more -/
inductive D where
  | non | bl (b : Bool) | int (i : Int) | str (x : Str)
  | tup (xs : List D) | lst (xs : List D)
  /-- the script: a list that is never changed -/
  | fls (xs : List D)
  /-- an instance of the class with this global name: the names and values of its attributes -/
  | obj (c : Str) (ns : List Str) (vs : List D)
  /-- what a global name holds (a def, a class) -/
  | gl (x : Str)
  /-- a built-in class -/
  | ty (n : String)
  deriving Inhabited

/-- a value: data, or a changeable object by its number -/
inductive W where
  | d (x : D)
  | m (k : Nat)
  deriving Inhabited

/-- a changeable object -/
inductive MO where
  | lst (xs : List D)
  | ins (c : Str) (ns : List Str) (vs : List D)
  /-- what has become data meanwhile -/
  | dead
  deriving Inhabited
abbrev Mem := List MO

inductive R (α : Type) where
  | ok (a : α) (m : Mem)
  | exc (c : Str) (ns : List Str) (vs : List D) (m : Mem)
  | bad
  deriving Inhabited

def R.bind {α β : Type} (r : R α) (k : α → Mem → R β) : R β :=
  match r with
  | .ok a m => k a m
  | .exc c ns vs m => .exc c ns vs m
  | .bad => .bad
@[simp] theorem R.bind_ok {α β : Type} (a : α) (m : Mem) (k : α → Mem → R β) : (R.ok a m).bind k = k a m := rfl
@[simp] theorem R.bind_exc {α β : Type} (c ns vs) (m : Mem) (k : α → Mem → R β) : (R.exc c ns vs m : R α).bind k = .exc c ns vs m := rfl
@[simp] theorem R.bind_bad {α β : Type} (k : α → Mem → R β) : (R.bad : R α).bind k = .bad := rfl

/-- no error may leave -/
def noX {α : Type} (r : R α) : R α := match r with
  | .exc _ _ _ _ => .bad
  | r => r
abbrev Env := List (Option W)
/-- an expression, an argument list, a test -/
abbrev Ev := Env → Mem → R W
abbrev EvL := Env → Mem → R (List W)
abbrev EvT := Env → Mem → R Bool
/-- where a statement goes -/
inductive RS where
  | nx (ρ : Env) (m : Mem) | rt (w : W) (m : Mem) | bk (ρ : Env) (m : Mem) | ct (ρ : Env) (m : Mem)
  | xc (c : Str) (ns : List Str) (vs : List D) (ρ : Env) (m : Mem)
  | bad
  deriving Inhabited
def R.lift {α : Type} (r : R α) (ρ : Env) (k : α → Mem → RS) : RS := match r with
  | .ok a m => k a m
  | .exc c ns vs m => .xc c ns vs ρ m
  | .bad => .bad
@[simp] theorem R.lift_ok {α : Type} (a : α) (m : Mem) (ρ : Env) (k : α → Mem → RS) : (R.ok a m).lift ρ k = k a m := rfl
@[simp] theorem R.lift_exc {α : Type} (c ns vs) (m : Mem) (ρ : Env) (k : α → Mem → RS) : (R.exc c ns vs m : R α).lift ρ k = .xc c ns vs ρ m := rfl
@[simp] theorem R.lift_bad {α : Type} (ρ : Env) (k : α → Mem → RS) : (R.bad : R α).lift ρ k = .bad := rfl
abbrev Ex := Env → Mem → RS
/-- a def -/
abbrev Fn := List W → Mem → R W

/-! ### data -/
mutual
def D.py : D → Option PyData
  | .non => some .none
  | .bl b => some (.bool b)
  | .int i => some (.int i)
  | .str x => some (.str x)
  | .tup xs => (D.pyL xs).map .tuple
  | .lst xs => (D.pyL xs).map .list
  | .fls _ | .obj _ _ _ | .gl _ | .ty _ => none
def D.pyL : List D → Option (List PyData)
  | [] => some []
  | x :: xs => match D.py x, D.pyL xs with
    | some a, some b => some (a :: b)
    | _, _ => none
end

/-! ### expressions -/
def fBad : Ev := fun _ _ => .bad
def fVar (i : Nat) : Ev := fun ρ m => match ρ[i]? with
  | some (some w) => .ok w m
  | _ => .bad
def fC (x : D) : Ev := fun _ m => .ok (.d x) m
def fNil : EvL := fun _ m => .ok [] m
def fCons (a : Ev) (b : EvL) : EvL := fun ρ m => (a ρ m).bind fun x m => (b ρ m).bind fun xs m => .ok (x :: xs) m
/-- the data of values -/
def dats : List W → Option (List D)
  | [] => some []
  | .d x :: ws => (dats ws).map (x :: ·)
  | .m _ :: _ => none
def fTup (a : EvL) : Ev := fun ρ m => (a ρ m).bind fun ws m => match dats ws with
  | some xs => if xs.length ≤ 100000 then .ok (.d (.tup xs)) m else .bad
  | none => .bad
/-- a list that nobody changes; one that may be changed -/
def fLst (a : EvL) : Ev := fun ρ m => (a ρ m).bind fun ws m => match dats ws with
  | some xs => if xs.length ≤ 100000 then .ok (.d (.lst xs)) m else .bad
  | none => .bad
def fLstM (a : EvL) : Ev := fun ρ m => (a ρ m).bind fun ws m => match dats ws with
  | some xs => if xs.length ≤ 100000 then .ok (.m m.length) (m ++ [.lst xs]) else .bad
  | none => .bad
/-- a two-place operation; a one-place one -/
abbrev O2 := W → W → Mem → R W
abbrev O1 := W → Mem → R W
def fOp (o : O2) (a b : Ev) : Ev := fun ρ m => (a ρ m).bind fun x m => (b ρ m).bind fun y m => o x y m
def fUn (o : O1) (a : Ev) : Ev := fun ρ m => (a ρ m).bind fun x m => o x m

/-! ### tests -/
def truth : W → Mem → Option Bool
  | .d .non, _ => some false
  | .d (.bl b), _ => some b
  | .d (.int i), _ => some (i != 0)
  | .d (.lst xs), _ => some (!xs.isEmpty)
  | .d (.tup xs), _ => some (!xs.isEmpty)
  | .d (.str x), _ => if x.length ≤ 100000 then some (x.length != 0) else none
  | _, _ => none
def gTest (a : Ev) : EvT := fun ρ m => (a ρ m).bind fun x m => match truth x m with
  | some b => .ok b m
  | none => .bad
/-- a comparison as a test: its answer is a truth value -/
def gBool (a : Ev) : EvT := fun ρ m => (a ρ m).bind fun x m => match x with
  | .d (.bl b) => .ok b m
  | _ => .bad
def gAnd (a b : EvT) : EvT := fun ρ m => (a ρ m).bind fun x m => if x then b ρ m else .ok false m
def gOr (a b : EvT) : EvT := fun ρ m => (a ρ m).bind fun x m => if x then .ok true m else b ρ m
def gNot (a : EvT) : EvT := fun ρ m => (a ρ m).bind fun x m => .ok (!x) m
def gBad : EvT := fun _ _ => .bad
def fIf (t : EvT) (a b : Ev) : Ev := fun ρ m => (t ρ m).bind fun x m => if x then a ρ m else b ρ m
/-- a and b, a or b, not a as values, the first one a truth value -/
def fAnd (a b : Ev) : Ev := fun ρ m => (a ρ m).bind fun x m => match x with
  | .d (.bl true) => b ρ m
  | .d (.bl false) => .ok (.d (.bl false)) m
  | _ => .bad
def fOr (a b : Ev) : Ev := fun ρ m => (a ρ m).bind fun x m => match x with
  | .d (.bl true) => .ok (.d (.bl true)) m
  | .d (.bl false) => b ρ m
  | _ => .bad
def fNot (a : Ev) : Ev := fun ρ m => (a ρ m).bind fun x m => match x with
  | .d (.bl b) => .ok (.d (.bl (!b))) m
  | _ => .bad

/-! ### statements -/
def sBad : Ex := fun _ _ => .bad
def sNext : Ex := fun ρ m => .nx ρ m
def sSeq (a b : Ex) : Ex := fun ρ m => match a ρ m with
  | .nx ρ m => b ρ m
  | r => r
def sIf (t : EvT) (a b : Ex) : Ex := fun ρ m => (t ρ m).lift ρ fun x m => if x then a ρ m else b ρ m
def sDrop (a : Ev) : Ex := fun ρ m => (a ρ m).lift ρ fun _ m => .nx ρ m
def sRet (a : Ev) : Ex := fun ρ m => (a ρ m).lift ρ fun w m => .rt w m
def sRetN : Ex := fun _ m => .rt (.d .non) m
def sBrk : Ex := fun ρ m => .bk ρ m
def sCnt : Ex := fun ρ m => .ct ρ m
/-- a target -/
abbrev Tg := W → Env → Mem → R (Env)
abbrev TgL := List W → Env → Mem → R (Env)
def tgName (i : Nat) : Tg := fun w ρ m => .ok (ρ.set i (some w)) m
def tgNil : TgL := fun ws ρ m => match ws with
  | [] => .ok ρ m
  | _ => .bad
def tgCons (a : Tg) (b : TgL) : TgL := fun ws ρ m => match ws with
  | [] => .bad
  | w :: ws => (a w ρ m).bind fun ρ m => b ws ρ m
def tgTup (n : Nat) (a : TgL) : Tg := fun w ρ m => match w with
  | .d (.tup xs) => if xs.length = n then a (xs.map .d) ρ m else .bad
  | _ => .bad
def sAsg (a : Ev) (g : Tg) : Ex := fun ρ m => (a ρ m).lift ρ fun w m => (noX (g w ρ m)).lift ρ fun ρ m => .nx ρ m
def sPar (i j : Nat) (a : EvL) : Ex := fun ρ m => (a ρ m).lift ρ fun ws m => match ws with
  | [x, y] => .nx ((ρ.set i (some x)).set j (some y)) m
  | _ => .bad
/-- a loop over items -/
def loop (g : Tg) (b : Ex) : List W → Ex
  | [] => fun ρ m => .nx ρ m
  | w :: ws => fun ρ m => (noX (g w ρ m)).lift ρ fun ρ m => match b ρ m with
    | .nx ρ m => loop g b ws ρ m
    | .ct ρ m => loop g b ws ρ m
    | .bk ρ m => .nx ρ m
    | r => r
def sFor (it : EvL) (g : Tg) (b : Ex) : Ex := fun ρ m => (it ρ m).lift ρ fun ws m => loop g b ws ρ m
/-- a while of at most n turns -/
def whl (t : EvT) (b : Ex) : Nat → Ex
  | 0 => fun _ _ => .bad
  | n + 1 => fun ρ m => (t ρ m).lift ρ fun x m => if x then (match b ρ m with
    | .nx ρ m => whl t b n ρ m
    | .ct ρ m => whl t b n ρ m
    | .bk ρ m => .nx ρ m
    | r => r) else .nx ρ m
/-- as many turns as the number in slot i says, and k more -/
def fuelI (i k : Nat) : Env → Mem → Nat := fun ρ _ => match ρ[i]? with
  | some (some (.d (.int n))) => n.natAbs + k
  | _ => 0
def sWhile (fuel : Env → Mem → Nat) (t : EvT) (b : Ex) : Ex := fun ρ m => whl t b (fuel ρ m) ρ m

/-- behind the statement the list in slot i is not changed any more -/
def sFrz (i : Nat) (f : Ex) : Ex := fun ρ m => match f ρ m with
  | .nx ρ' m' => match ρ'[i]? with
    | some (some (.m k)) => match m'[k]? with
      | some (.lst xs) => .nx (ρ'.set i (some (.d (.lst xs)))) (m'.set k .dead)
      | _ => .bad
    | _ => .bad
  | r => r

/-! ### comprehensions -/
/-- vs: the slots of the comprehension's own names -/
def wipeE (ρ : Env) : List Nat → Env
  | [] => ρ
  | v :: vs => (wipeE ρ vs).set v none
def lcs (g : Tg) (t : EvT) (e : Ev) (ρ : Env) : List W → List D → Mem → R (List D)
  | [], acc, m => .ok acc m
  | w :: ws, acc, m => (g w ρ m).bind fun ρ' m => (t ρ' m).bind fun b m => if b then (e ρ' m).bind fun x m => match x with
      | .d x => if acc.length < 100000 then lcs g t e ρ ws (acc ++ [x]) m else .bad
      | .m _ => .bad
    else lcs g t e ρ ws acc m
def gYes : EvT := fun _ m => .ok true m
def fLc (it : EvL) (g : Tg) (t : EvT) (e : Ev) (vs : List Nat) : Ev := fun ρ m => (it ρ m).bind fun ws m => (noX (lcs g t e (wipeE ρ vs) ws [] m)).bind fun xs m => .ok (.d (.lst xs)) m
def fLcM (it : EvL) (g : Tg) (t : EvT) (e : Ev) (vs : List Nat) : Ev := fun ρ m => (it ρ m).bind fun ws m => (noX (lcs g t e (wipeE ρ vs) ws [] m)).bind fun xs m => .ok (.m m.length) (m ++ [.lst xs])

/-! ### defs -/
/-- how a def is left: what it made itself becomes data (or, mu, stays changeable) -/
def leave (mu : Bool) (n : Nat) (w : W) (m : Mem) : R W := match w with
  | .d x => .ok (.d x) (m.take n)
  | .m k => if k < n then .ok (.m k) (m.take n) else match m[k]? with
    | some (.lst xs) => if mu then .ok (.m n) (m.take n ++ [.lst xs]) else .ok (.d (.lst xs)) (m.take n)
    | _ => .bad
/-- np parameters, N names -/
def fnOf (mu : Bool) (np N : Nat) (b : Ex) : Fn := fun ws m => if ws.length = np then (match b (ws.map some ++ List.replicate (N - ws.length) none) m with
  | .nx _ m' => leave mu m.length (.d .non) m'
  | .rt w m' => leave mu m.length w m'
  | .xc c ns vs _ m' => .exc c ns vs (m'.take m.length)
  | _ => .bad) else .bad
/-- def f(a, .., *v): np parameters ahead of the star -/
def fnStar (np : Nat) (f : Fn) : Fn := fun ws m => if np ≤ ws.length then (match dats (ws.drop np) with
  | some xs => if xs.length ≤ 100000 then f (ws.take np ++ [.d (.tup xs)]) m else .bad
  | none => .bad) else .bad
/-- def f(a, .., b=d): the defaults ds of the last parameters -/
def fnDef (np : Nat) (ds : List D) (f : Fn) : Fn := fun ws m => if ws.length ≤ np ∧ np ≤ ws.length + ds.length then f (ws ++ (ds.drop (ws.length + ds.length - np)).map .d) m else .bad
def fCall (f : Fn) (a : EvL) : Ev := fun ρ m => (a ρ m).bind fun ws m => f ws m
/-- f(e, .., k = v, ..): g puts the keywords' values in their places -/
def fCallK (f : Fn) (g : List W → List W → List W) (a b : EvL) : Ev := fun ρ m => (a ρ m).bind fun ws m => (b ρ m).bind fun zs m => f (g ws zs) m
/-- *e among arguments -/
def fStar (a : Ev) (b : EvL) : EvL := fun ρ m => (a ρ m).bind fun x m => match x with
  | .d (.tup xs) => (b ρ m).bind fun ys m => .ok (xs.map .d ++ ys) m
  | .d (.lst xs) => (b ρ m).bind fun ys m => .ok (xs.map .d ++ ys) m
  | _ => .bad
end GD

/-! GD1: what represents what; the readings. -/
namespace GD
open PySem PySem.Spec PyProof.Rows L2

abbrev Hx := L2.Same
section
variable (K : PySem.W.Frag) (mg : Str → Option Value)
mutual
inductive Rep : Hp → V → D → Prop
  | non {H} : Rep H .non .non
  | bl {H} (b : Bool) : Rep H (.bl b) (.bl b)
  | int {H} (i : Int) : Rep H (.int i) (.int i)
  | str {H} (x : Str) : Rep H (.str x) (.str x)
  | tup {H} {a : Addr} {vs : List V} {ds : List D} : SqT K H a vs → RepL H vs ds → Rep H (.ref a) (.tup ds)
  | lst {H} {a : Addr} {vs : List V} {ds : List D} : H a = some (.lst vs) → RepL H vs ds → Rep H (.ref a) (.lst ds)
  | fls {H} {a : Addr} {vs : List V} {ds : List D} : SqL K H a vs → RepL H vs ds → Rep H (.ref a) (.fls ds)
  | obj {H} {a C dx : Addr} {c : Str} {ns : List Str} {vs : List V} {ds : List D} : mg c = some (.ref C) → H a = some (.ins C dx (ns.zip vs)) → H dx = some (.own a) → ns.length = vs.length → RepL H vs ds → Rep H (.ref a) (.obj c ns ds)
  | gl {H} {x : Str} {u : Value} {v : V} : mg x = some u → RelV v u → Rep H v (.gl x)
  | ty {H} (n : String) : Rep H (.ty n) (.ty n)
inductive RepL : Hp → List V → List D → Prop
  | nil {H} : RepL H [] []
  | cons {H} {v : V} {vs : List V} {d : D} {ds : List D} : Rep H v d → RepL H vs ds → RepL H (v :: vs) (d :: ds)
end
end

section
variable {K : PySem.W.Frag} {mg : Str → Option Value}
theorem rd_mono {H H' : Hp} {a : Addr} {u : HO} (e : Same H H') (h : Rd H a u) : Rd H' a u := by
  rcases h with h | ⟨o, h⟩
  · exact Or.inl (e a _ h)
  · exact Or.inr ⟨o, e a _ h⟩
theorem sqT_mono {H H' : Hp} {a : Addr} {xs : List V} (e : Same H H') (h : SqT K H a xs) : SqT K H' a xs := by
  rcases h with h | h
  · exact Or.inl (rd_mono e h)
  · exact Or.inr h
theorem sqL_mono {H H' : Hp} {a : Addr} {xs : List V} (e : Same H H') (h : SqL K H a xs) : SqL K H' a xs := by
  rcases h with h | h
  · exact Or.inl (rd_mono e h)
  · exact Or.inr h
mutual
theorem Rep.mono {H H' : Hp} (e : Same H H') : ∀ {v : V} {d : D}, Rep K mg H v d → Rep K mg H' v d
  | _, _, .non => .non
  | _, _, .bl b => .bl b
  | _, _, .int b => .int b
  | _, _, .str b => .str b
  | _, _, .tup s r => .tup (sqT_mono e s) (RepL.mono e r)
  | _, _, .lst s r => .lst (e _ _ s) (RepL.mono e r)
  | _, _, .fls s r => .fls (sqL_mono e s) (RepL.mono e r)
  | _, _, .obj c h1 h2 l r => .obj c (e _ _ h1) (e _ _ h2) l (RepL.mono e r)
  | _, _, .gl a b => .gl a b
  | _, _, .ty n => .ty n
theorem RepL.mono {H H' : Hp} (e : Same H H') : ∀ {vs : List V} {ds : List D}, RepL K mg H vs ds → RepL K mg H' vs ds
  | _, _, .nil => .nil
  | _, _, .cons a b => .cons (Rep.mono e a) (RepL.mono e b)
end
theorem RepL.length {H : Hp} : ∀ {vs : List V} {ds : List D}, RepL K mg H vs ds → vs.length = ds.length
  | _, _, .nil => rfl
  | _, _, .cons _ b => by rw [List.length_cons, List.length_cons, RepL.length b]
theorem RepL.get {H : Hp} : ∀ {vs : List V} {ds : List D} {i : Nat} {d : D}, RepL K mg H vs ds → ds[i]? = some d → ∃ v, vs[i]? = some v ∧ Rep K mg H v d
  | _, _, _, _, .nil, h => by simp at h
  | _, _, 0, _, .cons (v := v) a b, h => ⟨v, rfl, by simp at h; subst h; exact a⟩
  | _, _, i + 1, _, .cons a b, h => by
    obtain ⟨v, h1, h2⟩ := RepL.get (i := i) b (by simpa using h)
    exact ⟨v, by simpa using h1, h2⟩
theorem RepL.append {H : Hp} : ∀ {vs ws : List V} {ds es : List D}, RepL K mg H vs ds → RepL K mg H ws es → RepL K mg H (vs ++ ws) (ds ++ es)
  | _, _, _, _, .nil, h => h
  | _, _, _, _, .cons a b, h => .cons a (RepL.append b h)
theorem RepL.one {H : Hp} {v : V} {d : D} (h : Rep K mg H v d) : RepL K mg H [v] [d] := .cons h .nil
mutual
theorem Rep.dp {H : Hp} : ∀ {v : V} {d : D} {p : PyData}, Rep K mg H v d → d.py = some p → Dp K H v p
  | _, _, _, .non, h => by simp only [D.py, Option.some.injEq] at h; subst h; exact .non
  | _, _, _, .bl b, h => by simp only [D.py, Option.some.injEq] at h; subst h; exact .bl b
  | _, _, _, .int b, h => by simp only [D.py, Option.some.injEq] at h; subst h; exact .int b
  | _, _, _, .str b, h => by simp only [D.py, Option.some.injEq] at h; subst h; exact .str b
  | _, _, _, .tup s r, h => by
    simp only [D.py, Option.map_eq_some_iff] at h
    obtain ⟨ps, h1, h2⟩ := h
    subst h2
    exact .tup s (RepL.dp r h1)
  | _, _, _, .lst s r, h => by
    simp only [D.py, Option.map_eq_some_iff] at h
    obtain ⟨ps, h1, h2⟩ := h
    subst h2
    exact .lst (.inl (.inl s)) (RepL.dp r h1)
  | _, _, _, .fls _ _, h => by simp [D.py] at h
  | _, _, _, .obj _ _ _ _ _, h => by simp [D.py] at h
  | _, _, _, .gl _ _, h => by simp [D.py] at h
  | _, _, _, .ty _, h => by simp [D.py] at h
theorem RepL.dp {H : Hp} : ∀ {vs : List V} {ds : List D} {ps : List PyData}, RepL K mg H vs ds → D.pyL ds = some ps → DpAll K H vs ps
  | _, _, _, .nil, h => by simp only [D.pyL, Option.some.injEq] at h; subst h; exact .nil
  | _, _, _, .cons a b, h => by
    unfold D.pyL at h
    split at h
    · rename_i x y h1 h2
      cases h
      exact .cons (Rep.dp a h1) (RepL.dp b h2)
    · cases h
end
end

/-! ### the state -/
section
variable (K : PySem.W.Frag) (mg : Str → Option Value)
def RepW (Hi : Hp) (ι : List Addr) (v : V) : W → Prop
  | .d x => Rep K mg Hi v x
  | .m k => ∃ a, ι[k]? = some a ∧ v = .ref a
inductive RepWs (Hi : Hp) (ι : List Addr) : List V → List W → Prop
  | nil : RepWs Hi ι [] []
  | cons {v : V} {vs : List V} {w : W} {ws : List W} : RepW K mg Hi ι v w → RepWs Hi ι vs ws → RepWs Hi ι (v :: vs) (w :: ws)
def RepO (Hi : Hp) (H : Hp) (a : Addr) : MO → Prop
  | .lst xs => ∃ vs, H a = some (.lst vs) ∧ RepL K mg Hi vs xs
  | .ins c ns xs => ∃ C dx vs, mg c = some (.ref C) ∧ H a = some (.ins C dx (ns.zip vs)) ∧ Hi dx = some (.own a) ∧ ns.length = vs.length ∧ RepL K mg Hi vs xs
  | .dead => ∃ o, H a = some o
/-- Hi: what is not changed any more; ι: where the changeable objects m stand -/
structure Mok (Hi : Hp) (ι : List Addr) (m : Mem) (H : Hp) : Prop where
  sub : Same Hi H
  len : ι.length = m.length
  nd : ι.Nodup
  free : ∀ (k : Nat) (mo : MO) (a : Addr), m[k]? = some mo → ι[k]? = some a → mo ≠ .dead → Hi a = none
  obj : ∀ (k : Nat) (mo : MO) (a : Addr), m[k]? = some mo → ι[k]? = some a → RepO K mg Hi H a mo
def RepS (Hi : Hp) (ι : List Addr) (ρ : Env) (σ : L2.St) : Prop := ρ.length = σ.length ∧ ∀ (i : Nat) (w : W), ρ[i]? = some (some w) → ∃ v, σ[i]? = some (some v) ∧ RepW K mg Hi ι v w
structure Rel (Hi : Hp) (ι : List Addr) (ρ : Env) (m : Mem) (σ : L2.St) (H : Hp) : Prop where
  mok : Mok K mg Hi ι m H
  slots : RepS K mg Hi ι ρ σ
end
structure Step (Hi : Hp) (ι : List Addr) (H : Hp) (Hi' : Hp) (ι' : List Addr) (H' : Hp) : Prop where
  imm : Same Hi Hi'
  pre : ι <+: ι'
  frm : ∀ a o, H a = some o → a ∉ ι → H' a = some o
  new : ∀ a ∈ ι', a ∉ ι → H a = none
  live : ∀ a, H' a = none → H a = none
  inew : ∀ a, a ∉ ι → Hi a = none → H a ≠ none → Hi' a = none
theorem upd_live {H : Hp} {p a : Addr} {o : HO} (h : upd H p o a = none) : H a = none := by
  by_cases e : a = p
  · subst e; rw [upd_same] at h; cases h
  · rw [upd_ne e] at h; exact h
section
variable {K : PySem.W.Frag} {mg : Str → Option Value} {Hi Hi' Hi2 H H' H2 : Hp} {ι ι' ι2 : List Addr} {ρ ρ' : Env} {m m' : Mem} {σ σ' : L2.St}
theorem Step.refl : Step Hi ι H Hi ι H := ⟨Same.refl _, List.prefix_refl _, fun _ _ h _ => h, fun _ h1 h2 => absurd h1 h2, fun _ h => h, fun _ _ h _ => h⟩
theorem Step.trans (a : Step Hi ι H Hi' ι' H') (b : Step Hi' ι' H' Hi2 ι2 H2) : Step Hi ι H Hi2 ι2 H2 := by
  refine ⟨a.imm.trans b.imm, a.pre.trans b.pre, fun x o h hn => ?_, fun x h1 h2 => ?_, fun x h => a.live x (b.live x h), fun x h0 h1 h2 => b.inew x (fun h3 => h2 (a.new x h3 h0)) (a.inew x h0 h1 h2) fun q => h2 (a.live x q)⟩
  · refine b.frm x o (a.frm x o h hn) fun h3 => ?_
    rw [a.new x h3 hn] at h
    cases h
  · by_cases h3 : x ∈ ι'
    · exact a.new x h3 h2
    · cases e : H x with
      | none => rfl
      | some o =>
        have e1 := a.frm x o e h2
        rw [b.new x h1 h3] at e1
        cases e1
theorem RepW.mono (e : Same Hi Hi') (p : ι <+: ι') : ∀ {v : V} {w : W}, RepW K mg Hi ι v w → RepW K mg Hi' ι' v w
  | _, .d x, h => Rep.mono e h
  | _, .m k, ⟨a, h1, h2⟩ => ⟨a, by
    obtain ⟨t, rfl⟩ := p
    rw [List.getElem?_append_left (List.getElem?_eq_some_iff.mp h1).1]
    exact h1, h2⟩
theorem RepW.step (s : Step Hi ι H Hi' ι' H') {v : V} {w : W} (h : RepW K mg Hi ι v w) : RepW K mg Hi' ι' v w := h.mono s.imm s.pre
theorem RepWs.step (s : Step Hi ι H Hi' ι' H') : ∀ {vs : List V} {ws : List W}, RepWs K mg Hi ι vs ws → RepWs K mg Hi' ι' vs ws
  | _, _, .nil => .nil
  | _, _, .cons a b => .cons (a.step s) (b.step s)
theorem RepWs.length : ∀ {vs : List V} {ws : List W}, RepWs K mg Hi ι vs ws → vs.length = ws.length
  | _, _, .nil => rfl
  | _, _, .cons _ b => by rw [List.length_cons, List.length_cons, RepWs.length b]
theorem RepWs.get : ∀ {vs : List V} {ws : List W} {i : Nat} {w : W}, RepWs K mg Hi ι vs ws → ws[i]? = some w → ∃ v, vs[i]? = some v ∧ RepW K mg Hi ι v w
  | _, _, _, _, .nil, h => by simp at h
  | _, _, 0, _, .cons (v := v) a b, h => ⟨v, rfl, by simp at h; subst h; exact a⟩
  | _, _, i + 1, _, .cons a b, h => by
    obtain ⟨v, h1, h2⟩ := RepWs.get (i := i) b (by simpa using h)
    exact ⟨v, by simpa using h1, h2⟩
theorem RepWs.drop : ∀ {vs : List V} {ws : List W} (n : Nat), RepWs K mg Hi ι vs ws → RepWs K mg Hi ι (vs.drop n) (ws.drop n)
  | _, _, 0, r => r
  | _, _, _ + 1, .nil => .nil
  | _, _, n + 1, .cons _ t => RepWs.drop n t
theorem RepWs.take : ∀ {vs : List V} {ws : List W} (n : Nat), RepWs K mg Hi ι vs ws → RepWs K mg Hi ι (vs.take n) (ws.take n)
  | _, _, 0, _ => .nil
  | _, _, _ + 1, .nil => .nil
  | _, _, n + 1, .cons r t => .cons r (RepWs.take n t)
theorem RepWs.dats : ∀ {vs : List V} {ws : List W} {xs : List D}, RepWs K mg Hi ι vs ws → dats ws = some xs → RepL K mg Hi vs xs
  | _, _, _, .nil, h => by simp only [GD.dats, Option.some.injEq] at h; subst h; exact .nil
  | _, _, xs, .cons (w := .d x) a b, h => by
    simp only [GD.dats, Option.map_eq_some_iff] at h
    obtain ⟨ys, h1, h2⟩ := h
    subst h2
    exact .cons a (RepWs.dats b h1)
  | _, _, _, .cons (w := .m x) a b, h => by simp [GD.dats] at h
theorem RepL.ws {Hi : Hp} {ι : List Addr} : ∀ {vs : List V} {ds : List D}, RepL K mg Hi vs ds → RepWs K mg Hi ι vs (ds.map .d)
  | _, _, .nil => .nil
  | _, _, .cons a b => .cons a (RepL.ws b)
theorem RepS.step (s : Step Hi ι H Hi' ι' H') (h : RepS K mg Hi ι ρ σ) : RepS K mg Hi' ι' ρ σ := ⟨h.1, fun i w e => by
  obtain ⟨v, h1, h2⟩ := h.2 i w e
  exact ⟨v, h1, h2.step s⟩⟩
theorem RepS.set (h : RepS K mg Hi ι ρ σ) {v : V} {w : W} (i : Nat) (r : RepW K mg Hi ι v w) : RepS K mg Hi ι (ρ.set i (some w)) (σ.set i (some v)) := by
  refine ⟨by rw [List.length_set, List.length_set]; exact h.1, fun j w' e => ?_⟩
  by_cases hj : i = j
  · subst hj
    by_cases hl : i < ρ.length
    · rw [List.getElem?_set_self hl] at e
      cases e
      exact ⟨v, List.getElem?_set_self (by rw [← h.1]; exact hl), r⟩
    · rw [List.getElem?_eq_none (by rw [List.length_set]; omega)] at e
      cases e
  · rw [List.getElem?_set_ne hj] at e
    obtain ⟨v', h1, h2⟩ := h.2 j w' e
    exact ⟨v', by rw [List.getElem?_set_ne hj]; exact h1, h2⟩
theorem RepS.forget (h : RepS K mg Hi ι ρ σ) (i : Nat) : RepS K mg Hi ι (ρ.set i none) (σ.set i none) := by
  refine ⟨by rw [List.length_set, List.length_set]; exact h.1, fun j w' e => ?_⟩
  by_cases hj : i = j
  · subst hj
    by_cases hl : i < ρ.length
    · rw [List.getElem?_set_self hl] at e
      cases e
    · rw [List.getElem?_eq_none (by rw [List.length_set]; omega)] at e
      cases e
  · rw [List.getElem?_set_ne hj] at e
    obtain ⟨v', h1, h2⟩ := h.2 j w' e
    exact ⟨v', by rw [List.getElem?_set_ne hj]; exact h1, h2⟩
theorem RepS.wipe (h : RepS K mg Hi ι ρ σ) : ∀ vs : List Nat, RepS K mg Hi ι (wipeE ρ vs) (L2.wipe σ vs)
  | [] => h
  | v :: vs => by
    unfold wipeE L2.wipe
    exact RepS.forget (RepS.wipe h vs) v

/-! ### objects made and changed -/
theorem Mok.live (M : Mok K mg Hi ι m H) {a : Addr} (h : a ∈ ι) : ∃ o, H a = some o := by
  obtain ⟨k, hk⟩ := List.getElem?_of_mem h
  have hl : k < m.length := by rw [← M.len]; exact (List.getElem?_eq_some_iff.mp hk).1
  have q := M.obj k m[k] a (by simp [hl]) hk
  cases e : m[k] with
  | lst xs => rw [e] at q; obtain ⟨vs, q, _⟩ := q; exact ⟨_, q⟩
  | ins c ns xs => rw [e] at q; obtain ⟨C, dx, vs, _, q, _⟩ := q; exact ⟨_, q⟩
  | dead => rw [e] at q; exact q
theorem RepO.mono {a : Addr} {mo : MO} (e : Same Hi Hi') (h : RepO K mg Hi H a mo) (eh : H' a = H a) : RepO K mg Hi' H' a mo := by
  cases mo with
  | lst xs => obtain ⟨vs, h1, h2⟩ := h; exact ⟨vs, by rw [eh]; exact h1, h2.mono e⟩
  | ins c ns xs => obtain ⟨C, dx, vs, h0, h1, h2, h3, h4⟩ := h; exact ⟨C, dx, vs, h0, by rw [eh]; exact h1, e _ _ h2, h3, h4.mono e⟩
  | dead => obtain ⟨o, h⟩ := h; exact ⟨o, by rw [eh]; exact h⟩
/-- a new object of data -/
theorem Mok.newD (M : Mok K mg Hi ι m H) {p : Addr} {o : HO} (hp : H p = none) : Mok K mg (upd Hi p o) ι m (upd H p o) ∧ Step Hi ι H (upd Hi p o) ι (upd H p o) := by
  have hi : Hi p = none := M.sub.free hp
  have nm : ∀ a ∈ ι, a ≠ p := fun a ha e => by
    obtain ⟨o', h⟩ := M.live ha
    rw [e, hp] at h
    cases h
  have im : Same Hi (upd Hi p o) := fun b u q => by rw [upd_ne (ne_of_none q hi)]; exact q
  refine ⟨⟨fun b u q => ?_, M.len, M.nd, fun k mo a h1 h2 h3 => by rw [upd_ne (nm a (List.mem_of_getElem? h2))]; exact M.free k mo a h1 h2 h3, fun k mo a h1 h2 => ?_⟩, im, List.prefix_refl _, fun a u q _ => by rw [upd_ne (ne_of_none q hp)]; exact q, fun a h1 h2 => absurd h1 h2, fun a h => upd_live h, fun a _ h1 h2 => by rw [upd_ne (fun z => h2 (by rw [z]; exact hp))]; exact h1⟩
  · by_cases hb : b = p
    · subst hb; rw [upd_same] at q ⊢; exact q
    · rw [upd_ne hb] at q ⊢; exact M.sub b u q
  · exact (M.obj k mo a h1 h2).mono im (upd_ne (nm a (List.mem_of_getElem? h2)))
/-- a new changeable list -/
theorem Mok.newM (M : Mok K mg Hi ι m H) {p : Addr} {vs : List V} {xs : List D} (hp : H p = none) (r : RepL K mg Hi vs xs) : Mok K mg Hi (ι ++ [p]) (m ++ [.lst xs]) (upd H p (.lst vs)) ∧ Step Hi ι H Hi (ι ++ [p]) (upd H p (.lst vs)) := by
  have hi : Hi p = none := M.sub.free hp
  have nm : ∀ a ∈ ι, a ≠ p := fun a ha e => by
    obtain ⟨o', h⟩ := M.live ha
    rw [e, hp] at h
    cases h
  refine ⟨⟨fun b u q => by rw [upd_ne (ne_of_none q hi)]; exact M.sub b u q, by simp [M.len], ?_, fun k mo a h1 h2 h3 => ?_, fun k mo a h1 h2 => ?_⟩, Same.refl _, List.prefix_append _ _, fun a u q _ => by rw [upd_ne (ne_of_none q hp)]; exact q, fun a h1 h2 => ?_, fun a h => upd_live h, fun a _ h1 _ => h1⟩
  · rw [List.nodup_append]
    exact ⟨M.nd, by simp, fun a ha b hb => by rw [List.mem_singleton] at hb; subst hb; exact nm a ha⟩
  · by_cases hk : k < m.length
    · rw [List.getElem?_append_left hk] at h1
      rw [List.getElem?_append_left (by rw [M.len]; exact hk)] at h2
      exact M.free k mo a h1 h2 h3
    · rw [List.getElem?_append_right (by rw [M.len]; omega)] at h2
      have hm := List.mem_of_getElem? h2
      rw [List.mem_singleton] at hm; subst hm; exact hi
  · by_cases hk : k < m.length
    · rw [List.getElem?_append_left hk] at h1
      rw [List.getElem?_append_left (by rw [M.len]; exact hk)] at h2
      exact (M.obj k mo a h1 h2).mono (Same.refl _) (upd_ne (nm a (List.mem_of_getElem? h2)))
    · rw [List.getElem?_append_right (by omega)] at h1
      rw [List.getElem?_append_right (by rw [M.len]; omega)] at h2
      have ek : k - m.length = 0 := by
        cases e : k - m.length with
        | zero => rfl
        | succ n => rw [e] at h1; simp at h1
      rw [ek] at h1
      rw [M.len, ek] at h2
      simp at h1 h2
      subst h1 h2
      exact ⟨vs, upd_same, r⟩
  · rcases List.mem_append.mp h1 with h1 | h1
    · exact absurd h1 h2
    · rw [List.mem_singleton] at h1; subst h1; exact hp
/-- a changeable list changed -/
theorem Mok.set (M : Mok K mg Hi ι m H) {p : Addr} {k : Nat} {vs : List V} {xs ys : List D} (hk : ι[k]? = some p) (ho : m[k]? = some (.lst ys)) (r : RepL K mg Hi vs xs) : Mok K mg Hi ι (m.set k (.lst xs)) (upd H p (.lst vs)) ∧ Step Hi ι H Hi ι (upd H p (.lst vs)) := by
  have hm : p ∈ ι := List.mem_of_getElem? hk
  have hi := M.free k _ p ho hk (fun q => nomatch q)
  refine ⟨⟨fun b u q => by rw [upd_ne (ne_of_none q hi)]; exact M.sub b u q, by simp [M.len], M.nd, fun j mo a h1 h2 h3 => ?_, fun j mo a h1 h2 => ?_⟩, Same.refl _, List.prefix_refl _, fun a u q hn => ?_, fun a h1 h2 => absurd h1 h2, fun a h => upd_live h, fun a _ h1 _ => h1⟩
  · by_cases hj : k = j
    · subst hj
      rw [hk] at h2
      cases h2
      exact hi
    · rw [List.getElem?_set_ne hj] at h1
      exact M.free j mo a h1 h2 h3
  · by_cases hj : k = j
    · subst hj
      have hl : k < m.length := by rw [← M.len]; exact (List.getElem?_eq_some_iff.mp hk).1
      rw [List.getElem?_set_self hl] at h1
      rw [hk] at h2
      cases h1
      cases h2
      exact ⟨vs, upd_same, r⟩
    · rw [List.getElem?_set_ne hj] at h1
      have ne : a ≠ p := fun e => hj (by
        subst e
        obtain ⟨q1, e1⟩ := List.getElem?_eq_some_iff.mp hk
        obtain ⟨q2, e2⟩ := List.getElem?_eq_some_iff.mp h2
        exact (List.getElem_inj M.nd).mp (e1.trans e2.symm))
      exact (M.obj j mo a h1 h2).mono (Same.refl _) (upd_ne ne)
  · rw [upd_ne (fun e => hn (by rw [e]; exact hm))]
    exact q
/-- a changeable list becomes data; all behind n is let go -/
theorem Mok.cut (M : Mok K mg Hi ι m H) (n : Nat) : Mok K mg Hi (ι.take n) (m.take n) H := by
  refine ⟨M.sub, by rw [List.length_take, List.length_take, M.len], M.nd.sublist (List.take_sublist _ _), fun k mo a h1 h2 h3 => ?_, fun k mo a h1 h2 => ?_⟩
  · by_cases hk : k < n
    · rw [List.getElem?_take_of_lt hk] at h1 h2
      exact M.free k mo a h1 h2 h3
    · rw [List.getElem?_eq_none (by rw [List.length_take]; omega)] at h1
      cases h1
  by_cases hk : k < n
  · rw [List.getElem?_take_of_lt hk] at h1 h2
    exact M.obj k mo a h1 h2
  · rw [List.getElem?_eq_none (by rw [List.length_take]; omega)] at h1
    cases h1
theorem Mok.keep (M : Mok K mg Hi ι m H) {a : Addr} {o : HO} (ho : H a = some o) (hn : a ∉ ι) (hi : Hi a = none) : Mok K mg (upd Hi a o) ι m H := by
  have im : Same Hi (upd Hi a o) := fun b u q => by rw [upd_ne (ne_of_none q hi)]; exact q
  refine ⟨fun b u q => ?_, M.len, M.nd, fun k mo b h1 h2 h3 => ?_, fun k mo b h1 h2 => (M.obj k mo b h1 h2).mono im rfl⟩
  · by_cases hb : b = a
    · subst hb; rw [upd_same] at q; cases q; exact ho
    · rw [upd_ne hb] at q; exact M.sub b u q
  · rw [upd_ne (fun e => hn (by rw [← e]; exact List.mem_of_getElem? h2))]
    exact M.free k mo b h1 h2 h3
/-- a changeable list becomes data -/
theorem Mok.frz (M : Mok K mg Hi ι m H) {k : Nat} {a : Addr} {vs : List V} {xs : List D} (hk : ι[k]? = some a) (ho : m[k]? = some (.lst xs)) (hv : H a = some (.lst vs)) : Mok K mg (upd Hi a (.lst vs)) ι (m.set k .dead) H ∧ Step Hi ι H (upd Hi a (.lst vs)) ι H := by
  have hi := M.free k _ a ho hk (fun q => nomatch q)
  have im : Same Hi (upd Hi a (.lst vs)) := fun b u q => by rw [upd_ne (ne_of_none q hi)]; exact q
  have hl : k < m.length := by rw [← M.len]; exact (List.getElem?_eq_some_iff.mp hk).1
  refine ⟨⟨fun b u q => ?_, by simp [M.len], M.nd, fun j mo b h1 h2 h3 => ?_, fun j mo b h1 h2 => ?_⟩, im, List.prefix_refl _, fun _ _ h _ => h, fun _ h1 h2 => absurd h1 h2, fun _ h => h, fun b h0 h1 _ => ?_⟩
  · by_cases hb : b = a
    · subst hb; rw [upd_same] at q; cases q; exact hv
    · rw [upd_ne hb] at q; exact M.sub b u q
  · by_cases hj : k = j
    · subst hj
      rw [List.getElem?_set_self hl] at h1
      cases h1
      exact absurd rfl h3
    · rw [List.getElem?_set_ne hj] at h1
      have ne : b ≠ a := fun e => hj (by
        subst e
        obtain ⟨q1, e1⟩ := List.getElem?_eq_some_iff.mp hk
        obtain ⟨q2, e2⟩ := List.getElem?_eq_some_iff.mp h2
        exact (List.getElem_inj M.nd).mp (e1.trans e2.symm))
      rw [upd_ne ne]
      exact M.free j mo b h1 h2 h3
  · by_cases hj : k = j
    · subst hj
      rw [List.getElem?_set_self hl] at h1
      cases h1
      exact M.live (List.mem_of_getElem? h2)
    · rw [List.getElem?_set_ne hj] at h1
      exact (M.obj j mo b h1 h2).mono im rfl
  · rw [upd_ne (fun e => h0 (by rw [e]; exact List.mem_of_getElem? hk))]
    exact h1
end
end GD

/-! GD2: the readings of the mirrors; expressions. -/
namespace GD
open PySem PySem.Spec PyProof.Rows L2

section
variable (K : PySem.W.Frag) (mg : Str → Option Value)
/-- what is wanted of an error -/
def GoodX (Wx : WX) (σ : L2.St) (Hi : Hp) (ι : List Addr) (H : Hp) (c : Str) (ns : List Str) (vs : List D) (m' : Mem) : Prop :=
  ∀ (Hi' : Hp) (ι' : List Addr) (H' : Hp) (C dx : Addr) (fs : List V), Step Hi ι H Hi' ι' H' → Mok K mg Hi' ι' m' H' → mg c = some (.ref C) → Hi' dx = some (.xd (ns.zip fs)) → ns.length = fs.length → RepL K mg Hi' fs vs → Wx (.ref C) (some dx) σ H'
def Good {A α : Type} (rep : Hp → List Addr → A → α → Prop) (Wx : WX) (σ : L2.St) (Hi : Hp) (ι : List Addr) (H : Hp) (r : R α) (Q : A → Hp → Prop) : Prop := match r with
  | .ok a m' => ∀ (Hi' : Hp) (ι' : List Addr) (x : A) (H' : Hp), Step Hi ι H Hi' ι' H' → Mok K mg Hi' ι' m' H' → rep Hi' ι' x a → Q x H'
  | .exc c ns vs m' => GoodX K mg Wx σ Hi ι H c ns vs m'
  | .bad => False
def tD (Wx : WX) (f : Ev) : TE := fun σ H Q => ∃ Hi ι ρ m, Rel K mg Hi ι ρ m σ H ∧ Good K mg (RepW K mg) Wx σ Hi ι H (f ρ m) Q
def tDA (Wx : WX) (f : EvL) : TA := fun σ H Q => ∃ Hi ι ρ m, Rel K mg Hi ι ρ m σ H ∧ Good K mg (RepWs K mg) Wx σ Hi ι H (f ρ m) Q
def tDT (Wx : WX) (f : EvT) : TT := fun σ H Q => ∃ Hi ι ρ m, Rel K mg Hi ι ρ m σ H ∧ Good K mg (fun _ _ x a => x = a) Wx σ Hi ι H (f ρ m) Q
end

section
variable {K : PySem.W.Frag} {mg : Str → Option Value} {Wx : WX} {σ : L2.St} {Hi Hi' H H' : Hp} {ι ι' : List Addr} {m m' : Mem} {ρ : Env}
theorem GoodX.step {c : Str} {ns : List Str} {vs : List D} (h : GoodX K mg Wx σ Hi ι H c ns vs m) (s : Step Hi ι H Hi' ι' H') : GoodX K mg Wx σ Hi' ι' H' c ns vs m :=
  fun Hi2 ι2 H2 C dx fs st => h Hi2 ι2 H2 C dx fs (s.trans st)
theorem Good.step {A α : Type} {rep : Hp → List Addr → A → α → Prop} {r : R α} {Q : A → Hp → Prop} (h : Good K mg rep Wx σ Hi ι H r Q) (s : Step Hi ι H Hi' ι' H') : Good K mg rep Wx σ Hi' ι' H' r Q := by
  cases r with
  | ok a m' => exact fun Hi2 ι2 x H2 st => h Hi2 ι2 x H2 (s.trans st)
  | exc c ns vs m' => exact GoodX.step h s
  | bad => exact h
theorem good_bind {A B α β : Type} {rep : Hp → List Addr → A → α → Prop} {rep' : Hp → List Addr → B → β → Prop} {r : R α} {k : α → Mem → R β} {Q : B → Hp → Prop} {Q1 : A → Hp → Prop} (h : Good K mg rep' Wx σ Hi ι H (r.bind k) Q)
    (f : ∀ (a : α) (m' : Mem) (Hi' : Hp) (ι' : List Addr) (x : A) (H' : Hp), Step Hi ι H Hi' ι' H' → Mok K mg Hi' ι' m' H' → rep Hi' ι' x a → Good K mg rep' Wx σ Hi' ι' H' (k a m') Q → Q1 x H') : Good K mg rep Wx σ Hi ι H r Q1 := by
  cases r with
  | ok a m' => exact fun Hi2 ι2 x H2 st M rx => f a m' Hi2 ι2 x H2 st M rx (Good.step h st)
  | exc c ns vs m' => exact h
  | bad => exact h
theorem Good.here {A α : Type} {rep : Hp → List Addr → A → α → Prop} {a : α} {x : A} {Q : A → Hp → Prop} (h : Good K mg rep Wx σ Hi ι H (.ok a m) Q) (M : Mok K mg Hi ι m H) (r : rep Hi ι x a) : Q x H := h Hi ι x H Step.refl M r
theorem Rel.step (R : Rel K mg Hi ι ρ m σ H) (s : Step Hi ι H Hi' ι' H') (M : Mok K mg Hi' ι' m' H') : Rel K mg Hi' ι' ρ m' σ H' := ⟨M, R.slots.step s⟩

theorem PE.imp {X : Cx} {e : Expr} {t t' : TE} (h : PE X e t) (hi : ∀ σ H Q, t' σ H Q → t σ H Q) : PE X e t' := ⟨fun pins s σ H Q I q => h.run pins s σ H Q I (hi σ H Q q)⟩
theorem PT.imp {X : Cx} {e : Expr} {t t' : TT} (h : PT X e t) (hi : ∀ σ H Q, t' σ H Q → t σ H Q) : PT X e t' := ⟨fun pins s σ H Q I q => h.run pins s σ H Q I (hi σ H Q q)⟩
theorem PW.imp {X : Cx} {e : Expr} {t t' : TT} (h : PW X e t) (hi : ∀ σ H Q, t' σ H Q → t σ H Q) : PW X e t' := ⟨fun wh pins s σ H Q I q => h.run wh pins s σ H Q I (hi σ H Q q)⟩
theorem PA.imp {X : Cx} {es : List Expr} {t t' : TA} (h : PA X es t) (hi : ∀ σ H Q, t' σ H Q → t σ H Q) : PA X es t' := ⟨fun p pins s σ H Q I q => h.run p pins s σ H Q I (hi σ H Q q)⟩
theorem OpR.or {X : Cx} {f : Value → Value → Sem Value} {r r' : R2} (h : OpR X f r) (h' : OpR X f r') : OpR X f (fun x y H Q => r x y H Q ∨ r' x y H Q) := fun pins s σ H x y v u Q I rx ry q =>
  q.elim (h pins s σ H x y v u Q I rx ry) (h' pins s σ H x y v u Q I rx ry)
theorem UnR.or {X : Cx} {f : Value → Sem Value} {r r' : V → Hp → VK → Prop} (h : UnR X f r) (h' : UnR X f r') : UnR X f (fun x H Q => r x H Q ∨ r' x H Q) := fun pins s σ H x v Q I rx q =>
  q.elim (h pins s σ H x v Q I rx) (h' pins s σ H x v Q I rx)
theorem CallR.or {X : Cx} {f : Value} {r r' : List V → Hp → VK → Prop} (h : CallR X f r) (h' : CallR X f r') : CallR X f (fun x H Q => r x H Q ∨ r' x H Q) := fun pins s σ H x v Q I rx q =>
  q.elim (h pins s σ H x v Q I rx) (h' pins s σ H x v Q I rx)
end

/-! ### the place where a piece of a def stands -/
structure Cc (X : Cx) (Wx : WX) (k : Nat) : Prop where
  tk : Takes X Wx
  hp : PassesOwn (model X.prog X.w) X.A X.env X.xe
  nd : X.N.Nodup
  calm : X.calm = true
  room : Room k X.A

section
variable {X : Cx} {Wx : WX} {k : Nat}
end

section
variable {X : Cx} {Wx : WX} {kk : Nat}
/-! ### names, constants, displays -/
theorem pd_bad {e : Expr} : PE X e (tD X.K X.mg Wx fBad) := ⟨fun _ _ _ _ _ _ h => by obtain ⟨_, _, _, _, _, g⟩ := h; exact g.elim⟩
theorem pd_var {i : Nat} {x : Str} {pos : Pos} (h : PE X (.Name x pos) (tVar i)) : PE X (.Name x pos) (tD X.K X.mg Wx (fVar i)) := PE.imp h fun σ H Q t => by
  obtain ⟨Hi, ι, ρ, m, R, g⟩ := t
  unfold fVar at g
  split at g
  · rename_i w e
    obtain ⟨v, h1, h2⟩ := R.slots.2 i w e
    exact ⟨v, h1, g.here R.mok h2⟩
  · exact g.elim
theorem pd_c {e : Expr} {v : V} {x : D} (h : PE X e (tC v)) (r : ∀ Hi, Rep X.K X.mg Hi v x) : PE X e (tD X.K X.mg Wx (fC x)) := PE.imp h fun σ H Q t => by
  obtain ⟨Hi, ι, ρ, m, R, g⟩ := t
  exact g.here (rep := RepW X.K X.mg) R.mok (r Hi)
theorem pd_int {i j pos} : PE X (.Constant (.int i) j pos) (tD X.K X.mg Wx (fC (.int i))) := pd_c pe_int fun _ => .int i
theorem pd_bl {i j pos} : PE X (.Constant (.bool i) j pos) (tD X.K X.mg Wx (fC (.bl i))) := pd_c pe_bl fun _ => .bl i
theorem pd_non {j pos} : PE X (.Constant .none j pos) (tD X.K X.mg Wx (fC .non)) := pd_c pe_non fun _ => .non
theorem pd_str {x j pos} : PE X (.Constant (.str x) j pos) (tD X.K X.mg Wx (fC (.str x))) := pd_c pe_str fun _ => .str x
theorem pad_nil : PA X [] (tDA X.K X.mg Wx fNil) := PA.imp pa_nil fun σ H Q t => by
  obtain ⟨Hi, ι, ρ, m, R, g⟩ := t
  exact g.here (rep := RepWs X.K X.mg) R.mok .nil
theorem pad_cons {e : Expr} {es : List Expr} {f : Ev} {g : EvL} (ha : PE X e (tD X.K X.mg Wx f)) (hr : PA X es (tDA X.K X.mg Wx g)) (hs : starEach (e :: es) X.env = (false, eval e X.env) :: starEach es X.env := by rfl) : PA X (e :: es) (tDA X.K X.mg Wx (fCons f g)) :=
  PA.imp (pa_cons ha hr hs) fun σ H Q t => by
    obtain ⟨Hi, ι, ρ, m, R, g⟩ := t
    refine ⟨Hi, ι, ρ, m, R, good_bind g fun w m1 Hi1 ι1 v H1 st M rv g1 => ⟨Hi1, ι1, ρ, m1, R.step st M, good_bind g1 fun ws m2 Hi2 ι2 vs H2 st2 M2 rvs g2 => ?_⟩⟩
    exact g2.here M2 (.cons (rv.step st2) rvs)
end
end GD

/-! GD3: displays, operators, tests, statements. -/
namespace GD
open PySem PySem.Spec PyProof.Rows L2

theorem sz5 {n : Nat} (h : n ≤ 100000) : n ≤ sizeLine := Nat.le_trans h (by decide)
theorem sz5' {n : Nat} (h : n < 100000) : n < sizeLine := Nat.lt_of_lt_of_le h (by decide)

/-! ### operations on values -/
/-- o tells what r gives -/
def S2 (K : PySem.W.Frag) (mg : Str → Option Value) (r : R2) (o : O2) : Prop := ∀ (Wx : WX) (σ : L2.St) (Hi : Hp) (ι : List Addr) (m : Mem) (H : Hp) (x y : V) (a b : W) (Q : VK), Mok K mg Hi ι m H → RepW K mg Hi ι x a → RepW K mg Hi ι y b →
  Good K mg (RepW K mg) Wx σ Hi ι H (o a b m) Q → r x y H Q
def S1 (K : PySem.W.Frag) (mg : Str → Option Value) (r : V → Hp → VK → Prop) (o : O1) : Prop := ∀ (Wx : WX) (σ : L2.St) (Hi : Hp) (ι : List Addr) (m : Mem) (H : Hp) (x : V) (a : W) (Q : VK), Mok K mg Hi ι m H → RepW K mg Hi ι x a →
  Good K mg (RepW K mg) Wx σ Hi ι H (o a m) Q → r x H Q
/-- a call by values -/
abbrev ON := List W → Mem → R W
def SN (K : PySem.W.Frag) (mg : Str → Option Value) (r : List V → Hp → VK → Prop) (o : ON) : Prop := ∀ (Wx : WX) (σ : L2.St) (Hi : Hp) (ι : List Addr) (m : Mem) (H : Hp) (xs : List V) (as : List W) (Q : VK), Mok K mg Hi ι m H → RepWs K mg Hi ι xs as →
  Good K mg (RepW K mg) Wx σ Hi ι H (o as m) Q → r xs H Q
def fCB (o : ON) (a : EvL) : Ev := fun ρ m => (a ρ m).bind fun ws m => o ws m

section
variable {X : Cx} {Wx : WX} {kk : Nat}
theorem pd_tup {es : List Expr} {x1} {pos : Pos} {f : EvL} (h : PA X es (tDA X.K X.mg Wx f)) : PE X (.Tuple es x1 pos) (tD X.K X.mg Wx (fTup f)) := PE.imp (pe_tup h) fun σ H Q t => by
  obtain ⟨Hi, ι, ρ, m, RR, g⟩ := t
  refine ⟨Hi, ι, ρ, m, RR, good_bind g fun ws m1 Hi1 ι1 vs H1 st M rv g1 => ?_⟩
  split at g1
  · rename_i xs e
    split at g1
    · rename_i hl
      have rl := rv.dats e
      refine ⟨sz5 (by rw [rl.length]; exact hl), fun p hp => ?_⟩
      obtain ⟨M2, st2⟩ := M.newD (o := .tup vs) hp
      exact g1 _ _ _ _ st2 M2 (.tup (.inl (.inl upd_same)) (rl.mono st2.imm))
    · exact g1.elim
  · exact g1.elim
theorem pd_lst {es : List Expr} {pos : Pos} {f : EvL} (h : PA X es (tDA X.K X.mg Wx f)) : PE X (.List es pos) (tD X.K X.mg Wx (fLst f)) := PE.imp (pe_lst h) fun σ H Q t => by
  obtain ⟨Hi, ι, ρ, m, RR, g⟩ := t
  refine ⟨Hi, ι, ρ, m, RR, good_bind g fun ws m1 Hi1 ι1 vs H1 st M rv g1 => ?_⟩
  split at g1
  · rename_i xs e
    split at g1
    · rename_i hl
      have rl := rv.dats e
      refine ⟨sz5 (by rw [rl.length]; exact hl), fun p hp => ?_⟩
      obtain ⟨M2, st2⟩ := M.newD (o := .lst vs) hp
      exact g1 _ _ _ _ st2 M2 (.lst upd_same (rl.mono st2.imm))
    · exact g1.elim
  · exact g1.elim
theorem pd_lstM {es : List Expr} {pos : Pos} {f : EvL} (h : PA X es (tDA X.K X.mg Wx f)) : PE X (.List es pos) (tD X.K X.mg Wx (fLstM f)) := PE.imp (pe_lst h) fun σ H Q t => by
  obtain ⟨Hi, ι, ρ, m, RR, g⟩ := t
  refine ⟨Hi, ι, ρ, m, RR, good_bind g fun ws m1 Hi1 ι1 vs H1 st M rv g1 => ?_⟩
  split at g1
  · rename_i xs e
    split at g1
    · rename_i hl
      have rl := rv.dats e
      refine ⟨sz5 (by rw [rl.length]; exact hl), fun p hp => ?_⟩
      obtain ⟨M2, st2⟩ := M.newM hp rl
      exact g1 _ _ _ _ st2 M2 ⟨p, by rw [← M.len, List.getElem?_append_right (Nat.le_refl _)]; simp, rfl⟩
    · exact g1.elim
  · exact g1.elim

theorem pd_op {a b : Expr} {op : Operator} {pos : Pos} {r : R2} {o : O2} {fa fb : Ev} (ho : OpR X (binaryOp op) r) (so : S2 X.K X.mg r o) (ha : PE X a (tD X.K X.mg Wx fa)) (hb : PE X b (tD X.K X.mg Wx fb)) : PE X (.BinOp a op b pos) (tD X.K X.mg Wx (fOp o fa fb)) :=
  PE.imp (pe_op ho ha hb) fun σ H Q t => by
    obtain ⟨Hi, ι, ρ, m, RR, g⟩ := t
    exact ⟨Hi, ι, ρ, m, RR, good_bind g fun x m1 Hi1 ι1 v H1 st M rv g1 => ⟨Hi1, ι1, ρ, m1, RR.step st M, good_bind g1 fun y m2 Hi2 ι2 u H2 st2 M2 ru g2 => so _ _ _ _ _ _ _ _ _ _ _ M2 (rv.step st2) ru g2⟩⟩
theorem pd_cmp {a b : Expr} {op : CmpOp} {pos : Pos} {r : R2} {o : O2} {fa fb : Ev} (ho : OpR X (compareOp op) r) (so : S2 X.K X.mg r o) (ha : PE X a (tD X.K X.mg Wx fa)) (hb : PE X b (tD X.K X.mg Wx fb)) (hm : behindInMarks op b = false) : PE X (.Compare a [op] [b] pos) (tD X.K X.mg Wx (fOp o fa fb)) :=
  PE.imp (pe_cmpR ho ha hb hm) fun σ H Q t => by
    obtain ⟨Hi, ι, ρ, m, RR, g⟩ := t
    exact ⟨Hi, ι, ρ, m, RR, good_bind g fun x m1 Hi1 ι1 v H1 st M rv g1 => ⟨Hi1, ι1, ρ, m1, RR.step st M, good_bind g1 fun y m2 Hi2 ι2 u H2 st2 M2 ru g2 => so _ _ _ _ _ _ _ _ _ _ _ M2 (rv.step st2) ru g2⟩⟩
theorem ptd_cmp {a b : Expr} {op : CmpOp} {pos : Pos} {r : R2} {o : O2} {fa fb : Ev} (ho : OpR X (compareOp op) r) (so : S2 X.K X.mg r o) (ha : PE X a (tD X.K X.mg Wx fa)) (hb : PE X b (tD X.K X.mg Wx fb)) (hm : behindInMarks op b = false) : PT X (.Compare a [op] [b] pos) (tDT X.K X.mg Wx (gBool (fOp o fa fb))) :=
  PT.imp (pt_cmpR ho ha hb hm) fun σ H Q t => by
    obtain ⟨Hi, ι, ρ, m, RR, g⟩ := t
    unfold gBool fOp at g
    have g' : Good X.K X.mg (fun _ _ x a => x = a) Wx σ Hi ι H ((fa ρ m).bind fun x m => (fb ρ m).bind fun y m => (o x y m).bind fun z m => match z with | .d (.bl b) => R.ok b m | _ => R.bad) Q := by
      cases e : fa ρ m with
      | ok x m1 =>
        rw [e] at g
        simp only [R.bind_ok] at g ⊢
        cases e2 : fb ρ m1 with
        | ok y m2 => rw [e2] at g; exact g
        | exc c ns vs m2 => rw [e2] at g; exact g
        | bad => rw [e2] at g; exact g
      | exc c ns vs m2 => rw [e] at g; exact g
      | bad => rw [e] at g; exact g
    refine ⟨Hi, ι, ρ, m, RR, good_bind g' fun x m1 Hi1 ι1 v H1 st M rv g1 => ⟨Hi1, ι1, ρ, m1, RR.step st M, good_bind g1 fun y m2 Hi2 ι2 u H2 st2 M2 ru g2 => so Wx σ _ _ _ _ _ _ _ _ _ M2 (rv.step st2) ru (good_bind g2 fun z m3 Hi3 ι3 z' H3 st3 M3 rz g3 => ?_)⟩⟩
    split at g3
    · cases rz
      exact ⟨_, rfl, g3.here M3 rfl⟩
    · exact g3.elim
theorem pd_un {a : Expr} {op : UnaryOp} {pos : Pos} {r : V → Hp → VK → Prop} {o : O1} {fa : Ev} (ho : UnR X (unaryOp op) r) (so : S1 X.K X.mg r o) (ha : PE X a (tD X.K X.mg Wx fa)) : PE X (.UnaryOp op a pos) (tD X.K X.mg Wx (fUn o fa)) :=
  PE.imp (pe_un ho ha) fun σ H Q t => by
    obtain ⟨Hi, ι, ρ, m, RR, g⟩ := t
    exact ⟨Hi, ι, ρ, m, RR, good_bind g fun x m1 Hi1 ι1 v H1 st M rv g1 => so _ _ _ _ _ _ _ _ _ M rv g1⟩
theorem pd_callB {x : Str} {p pos : Pos} {e : Expr} {es : List Expr} {id : String} {r : List V → Hp → VK → Prop} {o : ON} {f : EvL} (hc : CallR X (.builtin id) r) (so : SN X.K X.mg r o) (hg : Gl X x) (hm : X.mg x = none) (hv : bootBuiltins x = some (.builtin id)) (ha : PA X (e :: es) (tDA X.K X.mg Wx f))
    (hn : x ≠ "__name__" := by decide) (hdb : (x == ("__debug__" : Str)) = false := by decide) (he : starEach (e :: es) X.env = (false, eval e X.env) :: starEach es X.env := by rfl) (hpl : (backTo pos (starEach es X.env)).any (·.1) = false := by rfl) :
    PE X (.Call (.Name x p) (e :: es) [] pos) (tD X.K X.mg Wx (fCB o f)) := PE.imp (pe_callB hc hg hm hv ha hn hdb he hpl) fun σ H Q t => by
  obtain ⟨Hi, ι, ρ, m, RR, g⟩ := t
  exact ⟨Hi, ι, ρ, m, RR, good_bind g fun x m1 Hi1 ι1 v H1 st M rv g1 => so _ _ _ _ _ _ _ _ _ M rv g1⟩
theorem pd_callTy {x : Str} {p pos : Pos} {e : Expr} {es : List Expr} {T : String} {r : List V → Hp → VK → Prop} {o : ON} {f : EvL} (hc : CallR X (.type T) r) (so : SN X.K X.mg r o) (hg : Gl X x) (hm : X.mg x = none) (hv : bootBuiltins x = some (.type T)) (ha : PA X (e :: es) (tDA X.K X.mg Wx f))
    (hn : x ≠ "__name__" := by decide) (hdb : (x == ("__debug__" : Str)) = false := by decide) (he : starEach (e :: es) X.env = (false, eval e X.env) :: starEach es X.env := by rfl) (hpl : (backTo pos (starEach es X.env)).any (·.1) = false := by rfl) :
    PE X (.Call (.Name x p) (e :: es) [] pos) (tD X.K X.mg Wx (fCB o f)) := PE.imp (pe_callTy hc hg hm hv ha hn hdb he hpl) fun σ H Q t => by
  obtain ⟨Hi, ι, ρ, m, RR, g⟩ := t
  exact ⟨Hi, ι, ρ, m, RR, good_bind g fun x m1 Hi1 ι1 v H1 st M rv g1 => so _ _ _ _ _ _ _ _ _ M rv g1⟩

/-! ### tests -/
theorem ptd_bad {e : Expr} : PT X e (tDT X.K X.mg Wx gBad) := ⟨fun _ _ _ _ _ _ h => by obtain ⟨_, _, _, _, _, g⟩ := h; exact g.elim⟩
theorem natE (n : Nat) : (n != 0) = ((n : Int) != 0) := by
  cases n with
  | zero => rfl
  | succ n =>
    have h1 : ((n + 1 : Nat) != 0) = true := by simp
    have h2 : (((n + 1 : Nat) : Int) != 0) = true := by simp; omega
    rw [h1, h2]
theorem isE {α : Type} {xs : List α} {n : Nat} (h : xs.length = n) : xs.isEmpty = (n == 0) := by
  cases xs with
  | nil => subst h; rfl
  | cons a l => subst h; rfl
theorem ptd_truth {a : Expr} {f : Ev} (ha : PE X a (tD X.K X.mg Wx f)) (he : ∀ whole, isTrue a X.env whole = (do let v ← whole; standAt a.pos; holding [v] (truthy v)) := by intro _; rfl) : PT X a (tDT X.K X.mg Wx (gTest f)) :=
  PT.imp (pt_truth ha he) fun σ H Q t => by
    obtain ⟨Hi, ι, ρ, m, RR, g⟩ := t
    refine ⟨Hi, ι, ρ, m, RR, good_bind g fun x m1 Hi1 ι1 v H1 st M rv g1 => ?_⟩
    split at g1
    · rename_i b e
      refine ⟨b, ?_, g1.here M rfl⟩
      unfold truth at e
      split at e
      · cases e; cases rv; rfl
      · cases e; cases rv; rfl
      · cases e; cases rv; rfl
      · cases e
        cases rv with
        | lst s r => exact .inl ⟨_, .inl (.inl (M.sub _ _ s)), by rw [isE r.length, isE rfl]⟩
      · cases e
        cases rv with
        | tup s r => exact .inr (.inl ⟨_, sqT_mono M.sub s, by rw [isE r.length, isE rfl]⟩)
      · split at e
        · rename_i hl
          cases e
          cases rv
          exact ⟨sz5 hl, natE _⟩
        · cases e
      · cases e
    · exact g1.elim
theorem ptd_not {a : Expr} {pos : Pos} {f : EvT} (ha : PT X a (tDT X.K X.mg Wx f)) : PT X (.UnaryOp .Not a pos) (tDT X.K X.mg Wx (gNot f)) := PT.imp (pt_not ha) fun σ H Q t => by
  obtain ⟨Hi, ι, ρ, m, RR, g⟩ := t
  exact ⟨Hi, ι, ρ, m, RR, good_bind g fun x m1 Hi1 ι1 v H1 st M rv g1 => by cases rv; exact g1.here M rfl⟩
theorem pwd_and1 {a : Expr} {pos : Pos} {f : EvT} (ha : PT X a (tDT X.K X.mg Wx f)) : PW X (.BoolOp .And [a] pos) (tDT X.K X.mg Wx f) := pw_and1 ha
theorem pwd_or1 {a : Expr} {pos : Pos} {f : EvT} (ha : PT X a (tDT X.K X.mg Wx f)) : PW X (.BoolOp .Or [a] pos) (tDT X.K X.mg Wx f) := pw_or1 ha
theorem pwd_and {a b : Expr} {rest : List Expr} {pos : Pos} {f g : EvT} (ha : PT X a (tDT X.K X.mg Wx f)) (hb : PW X (.BoolOp .And (b :: rest) pos) (tDT X.K X.mg Wx g)) : PW X (.BoolOp .And (a :: b :: rest) pos) (tDT X.K X.mg Wx (gAnd f g)) :=
  PW.imp (pw_and ha hb) fun σ H Q t => by
    obtain ⟨Hi, ι, ρ, m, RR, g⟩ := t
    refine ⟨Hi, ι, ρ, m, RR, good_bind g fun x m1 Hi1 ι1 v H1 st M rv g1 => ?_⟩
    cases rv
    cases x with
    | true => exact ⟨Hi1, ι1, ρ, m1, RR.step st M, g1⟩
    | false => exact g1.here (rep := fun _ _ x a => x = a) M rfl
theorem pwd_or {a b : Expr} {rest : List Expr} {pos : Pos} {f g : EvT} (ha : PT X a (tDT X.K X.mg Wx f)) (hb : PW X (.BoolOp .Or (b :: rest) pos) (tDT X.K X.mg Wx g)) : PW X (.BoolOp .Or (a :: b :: rest) pos) (tDT X.K X.mg Wx (gOr f g)) :=
  PW.imp (pw_or ha hb) fun σ H Q t => by
    obtain ⟨Hi, ι, ρ, m, RR, g⟩ := t
    refine ⟨Hi, ι, ρ, m, RR, good_bind g fun x m1 Hi1 ι1 v H1 st M rv g1 => ?_⟩
    cases rv
    cases x with
    | true => exact g1.here (rep := fun _ _ x a => x = a) M rfl
    | false => exact ⟨Hi1, ι1, ρ, m1, RR.step st M, g1⟩
theorem pd_if {c a b : Expr} {pos : Pos} {t : EvT} {f g : Ev} (hc : PT X c (tDT X.K X.mg Wx t)) (ha : PE X a (tD X.K X.mg Wx f)) (hb : PE X b (tD X.K X.mg Wx g)) : PE X (.IfExp c a b pos) (tD X.K X.mg Wx (fIf t f g)) := PE.imp (pe_ifExp hc ha hb) fun σ H Q t => by
  obtain ⟨Hi, ι, ρ, m, RR, g⟩ := t
  refine ⟨Hi, ι, ρ, m, RR, good_bind g fun x m1 Hi1 ι1 v H1 st M rv g1 => ?_⟩
  cases rv
  cases x with
  | true => exact ⟨Hi1, ι1, ρ, m1, RR.step st M, g1⟩
  | false => exact ⟨Hi1, ι1, ρ, m1, RR.step st M, g1⟩
/-- a and b, a or b, not a as values -/
theorem pd_one {op : BoolOp} {a : Expr} {pos : Pos} {t : TE} (ha : PE X a t) : PE X (.BoolOp op [a] pos) t := pe_one ha
theorem pd_and {a b : Expr} {rest : List Expr} {pos : Pos} {f g : Ev} (ha : PE X a (tD X.K X.mg Wx f)) (hb : PE X (.BoolOp .And (b :: rest) pos) (tD X.K X.mg Wx g)) : PE X (.BoolOp .And (a :: b :: rest) pos) (tD X.K X.mg Wx (fAnd f g)) := PE.imp (pe_and ha hb) fun σ H Q t => by
  obtain ⟨Hi, ι, ρ, m, RR, g⟩ := t
  refine ⟨Hi, ι, ρ, m, RR, good_bind g fun x m1 Hi1 ι1 v H1 st M rv g1 => ?_⟩
  split at g1
  · cases rv; exact ⟨true, rfl, ⟨Hi1, ι1, ρ, m1, RR.step st M, g1⟩⟩
  · cases rv; exact ⟨false, rfl, g1.here (rep := RepW X.K X.mg) M (.bl false)⟩
  · exact g1.elim
theorem pd_or {a b : Expr} {rest : List Expr} {pos : Pos} {f g : Ev} (ha : PE X a (tD X.K X.mg Wx f)) (hb : PE X (.BoolOp .Or (b :: rest) pos) (tD X.K X.mg Wx g)) : PE X (.BoolOp .Or (a :: b :: rest) pos) (tD X.K X.mg Wx (fOr f g)) := PE.imp (pe_or ha hb) fun σ H Q t => by
  obtain ⟨Hi, ι, ρ, m, RR, g⟩ := t
  refine ⟨Hi, ι, ρ, m, RR, good_bind g fun x m1 Hi1 ι1 v H1 st M rv g1 => ?_⟩
  split at g1
  · cases rv; exact ⟨true, rfl, g1.here (rep := RepW X.K X.mg) M (.bl true)⟩
  · cases rv; exact ⟨false, rfl, ⟨Hi1, ι1, ρ, m1, RR.step st M, g1⟩⟩
  · exact g1.elim
theorem pd_not {a : Expr} {pos : Pos} {f : Ev} (ha : PE X a (tD X.K X.mg Wx f)) : PE X (.UnaryOp .Not a pos) (tD X.K X.mg Wx (fNot f)) := PE.imp (pe_not ha) fun σ H Q t => by
  obtain ⟨Hi, ι, ρ, m, RR, g⟩ := t
  refine ⟨Hi, ι, ρ, m, RR, good_bind g fun x m1 Hi1 ι1 v H1 st M rv g1 => ?_⟩
  split at g1
  · rename_i b
    cases rv; exact ⟨b, rfl, g1.here (rep := RepW X.K X.mg) M (.bl (!b))⟩
  · exact g1.elim
end

/-! ### statements -/
section
variable (K : PySem.W.Frag) (mg : Str → Option Value)
def GoodS (Wx : WX) (E : Ends) (Hi : Hp) (ι : List Addr) (H : Hp) (r : RS) : Prop := match r with
  | .nx ρ m => ∀ (Hi' : Hp) (ι' : List Addr) (σ' : L2.St) (H' : Hp), Step Hi ι H Hi' ι' H' → Rel K mg Hi' ι' ρ m σ' H' → E.nx σ' H'
  | .bk ρ m => ∀ (Hi' : Hp) (ι' : List Addr) (σ' : L2.St) (H' : Hp), Step Hi ι H Hi' ι' H' → Rel K mg Hi' ι' ρ m σ' H' → E.bk σ' H'
  | .ct ρ m => ∀ (Hi' : Hp) (ι' : List Addr) (σ' : L2.St) (H' : Hp), Step Hi ι H Hi' ι' H' → Rel K mg Hi' ι' ρ m σ' H' → E.ct σ' H'
  | .rt w m => ∀ (Hi' : Hp) (ι' : List Addr) (v : V) (H' : Hp), Step Hi ι H Hi' ι' H' → Mok K mg Hi' ι' m H' → RepW K mg Hi' ι' v w → E.rt v H'
  | .xc c ns vs ρ m => ∀ (Hi' : Hp) (ι' : List Addr) (σ' : L2.St) (H' : Hp) (C dx : Addr) (fs : List V), Step Hi ι H Hi' ι' H' → Rel K mg Hi' ι' ρ m σ' H' → mg c = some (.ref C) → Hi' dx = some (.xd (ns.zip fs)) → ns.length = fs.length → RepL K mg Hi' fs vs → Wx (.ref C) (some dx) σ' H'
  | .bad => False
def tDS (Wx : WX) (f : Ex) : TS := fun E σ H => ∃ Hi ι ρ m, Rel K mg Hi ι ρ m σ H ∧ GoodS K mg Wx E Hi ι H (f ρ m)
def tDG (g : Tg) : TG := fun v σ H Q => ∃ Hi ι ρ m w, Rel K mg Hi ι ρ m σ H ∧ RepW K mg Hi ι v w ∧ (match g w ρ m with
  | .ok ρ' m' => ∀ (Hi' : Hp) (ι' : List Addr) (σ' : L2.St) (H' : Hp), Step Hi ι H Hi' ι' H' → Rel K mg Hi' ι' ρ' m' σ' H' → Q σ' H'
  | _ => False)
def tDGs (g : TgL) : TGs := fun vs σ H Q => ∃ Hi ι ρ m ws, Rel K mg Hi ι ρ m σ H ∧ RepWs K mg Hi ι vs ws ∧ (match g ws ρ m with
  | .ok ρ' m' => ∀ (Hi' : Hp) (ι' : List Addr) (σ' : L2.St) (H' : Hp), Step Hi ι H Hi' ι' H' → Rel K mg Hi' ι' ρ' m' σ' H' → Q σ' H'
  | _ => False)
end
section
variable {K : PySem.W.Frag} {mg : Str → Option Value} {Wx : WX} {E : Ends} {σ : L2.St} {Hi Hi' H H' : Hp} {ι ι' : List Addr} {m m' : Mem} {ρ : Env}
theorem GoodS.step {r : RS} (h : GoodS K mg Wx E Hi ι H r) (s : Step Hi ι H Hi' ι' H') : GoodS K mg Wx E Hi' ι' H' r := by
  cases r with
  | nx ρ m => exact fun a b c d st => h a b c d (s.trans st)
  | bk ρ m => exact fun a b c d st => h a b c d (s.trans st)
  | ct ρ m => exact fun a b c d st => h a b c d (s.trans st)
  | rt w m => exact fun a b c d st => h a b c d (s.trans st)
  | xc x ns vs ρ m => exact fun a b c d e f g st => h a b c d e f g (s.trans st)
  | bad => exact h
theorem goodS_lift {A α : Type} {rep : Hp → List Addr → A → α → Prop} {r : R α} {k : α → Mem → RS} {Q1 : A → Hp → Prop} (RR : Rel K mg Hi ι ρ m σ H) (h : GoodS K mg Wx E Hi ι H (r.lift ρ k))
    (f : ∀ (a : α) (m' : Mem) (Hi' : Hp) (ι' : List Addr) (x : A) (H' : Hp), Step Hi ι H Hi' ι' H' → Mok K mg Hi' ι' m' H' → rep Hi' ι' x a → GoodS K mg Wx E Hi' ι' H' (k a m') → Q1 x H') : Good K mg rep Wx σ Hi ι H r Q1 := by
  cases r with
  | ok a m' => exact fun Hi2 ι2 x H2 st M rx => f a m' Hi2 ι2 x H2 st M rx (GoodS.step h st)
  | exc c ns vs m' => exact fun Hi2 ι2 H2 C dx fs st M => h Hi2 ι2 σ H2 C dx fs st (RR.step st M)
  | bad => exact h
theorem PS.imp {X : Cx} {st : Stmt} {t t' : TS} (h : PS X st t) (hi : ∀ D σ H, t' D σ H → t D σ H) : PS X st t' := ⟨fun pins s σ H D I q => h.run pins s σ H D I (hi D σ H q)⟩
theorem PSs.imp {X : Cx} {st : List Stmt} {t t' : TS} (h : PSs X st t) (hi : ∀ D σ H, t' D σ H → t D σ H) : PSs X st t' := ⟨fun pins s σ H D I q => h.run pins s σ H D I (hi D σ H q)⟩
theorem PG.imp {X : Cx} {e : Expr} {t t' : TG} (h : PG X e t) (hi : ∀ v σ H Q, t' v σ H Q → t v σ H Q) : PG X e t' := ⟨fun pins s σ H v u Q I r q => h.run pins s σ H v u Q I r (hi v σ H Q q)⟩
theorem PGs.imp {X : Cx} {e : List Expr} {t t' : TGs} (h : PGs X e t) (hi : ∀ v σ H Q, t' v σ H Q → t v σ H Q) : PGs X e t' := ⟨fun pins s σ H v u Q I r q => h.run pins s σ H v u Q I r (hi v σ H Q q)⟩
end
section
variable {X : Cx} {Wx : WX} {kk : Nat}
theorem psd_bad {st : Stmt} : PS X st (tDS X.K X.mg Wx sBad) := ⟨fun _ _ _ _ _ _ h => by obtain ⟨_, _, _, _, _, g⟩ := h; exact g.elim⟩
theorem pssd_bad {st : List Stmt} : PSs X st (tDS X.K X.mg Wx sBad) := ⟨fun _ _ _ _ _ _ h => by obtain ⟨_, _, _, _, _, g⟩ := h; exact g.elim⟩
theorem pssd_nil : PSs X [] (tDS X.K X.mg Wx sNext) := PSs.imp pss_nil fun D σ H t => by
  obtain ⟨Hi, ι, ρ, m, RR, g⟩ := t
  exact g _ _ _ _ Step.refl RR
theorem pssd_one {st : Stmt} {f : Ex} (h : PS X st (tDS X.K X.mg Wx f)) : PSs X [st] (tDS X.K X.mg Wx f) := pss_one h
theorem pssd_cons {st : Stmt} {rest : List Stmt} {f g : Ex} (h1 : PS X st (tDS X.K X.mg Wx f)) (h2 : PSs X rest (tDS X.K X.mg Wx g)) : PSs X (st :: rest) (tDS X.K X.mg Wx (sSeq f g)) := PSs.imp (pss_cons h1 h2) fun D σ H t => by
  obtain ⟨Hi, ι, ρ, m, RR, gd⟩ := t
  refine ⟨Hi, ι, ρ, m, RR, ?_⟩
  unfold sSeq at gd
  cases e : f ρ m with
  | nx ρ' m' =>
    rw [e] at gd
    intro Hi2 ι2 σ2 H2 st R2
    exact ⟨Hi2, ι2, ρ', m', R2, GoodS.step gd st⟩
  | bk ρ' m' => rw [e] at gd; exact gd
  | ct ρ' m' => rw [e] at gd; exact gd
  | rt w m' => rw [e] at gd; exact gd
  | xc c ns vs ρ' m' => rw [e] at gd; exact gd
  | bad => rw [e] at gd; exact gd
theorem psd_if {c : Expr} {a b : List Stmt} {pos : Pos} {t : EvT} {f g : Ex} (hc : PT X c (tDT X.K X.mg Wx t)) (ha : PSs X a (tDS X.K X.mg Wx f)) (hb : PSs X b (tDS X.K X.mg Wx g)) : PS X (.If c a b pos) (tDS X.K X.mg Wx (sIf t f g)) := PS.imp (ps_if hc ha hb) fun D σ H t => by
  obtain ⟨Hi, ι, ρ, m, RR, g⟩ := t
  refine ⟨Hi, ι, ρ, m, RR, goodS_lift RR g fun x m1 Hi1 ι1 v H1 st M rv g1 => ?_⟩
  cases rv
  cases x with
  | true => exact ⟨Hi1, ι1, ρ, m1, RR.step st M, g1⟩
  | false => exact ⟨Hi1, ι1, ρ, m1, RR.step st M, g1⟩
theorem psd_expr {e : Expr} {pos : Pos} {f : Ev} (he : PE X e (tD X.K X.mg Wx f)) (hs : swapsWith e none pos.line X.env = pure false := by rfl) : PS X (.Expr e pos) (tDS X.K X.mg Wx (sDrop f)) := PS.imp (ps_expr he hs) fun D σ H t => by
  obtain ⟨Hi, ι, ρ, m, RR, g⟩ := t
  exact ⟨Hi, ι, ρ, m, RR, goodS_lift RR g fun x m1 Hi1 ι1 v H1 st M rv g1 => g1 _ _ _ _ Step.refl (RR.step st M)⟩
theorem psd_ret {e : Expr} {pos : Pos} {f : Ev} (he : PE X e (tD X.K X.mg Wx f)) : PS X (.Return (some e) pos) (tDS X.K X.mg Wx (sRet f)) := PS.imp (ps_ret he) fun D σ H t => by
  obtain ⟨Hi, ι, ρ, m, RR, g⟩ := t
  exact ⟨Hi, ι, ρ, m, RR, goodS_lift RR g fun x m1 Hi1 ι1 v H1 st M rv g1 => g1 _ _ _ _ Step.refl M rv⟩
theorem psd_retN {pos : Pos} : PS X (.Return none pos) (tDS X.K X.mg Wx sRetN) := PS.imp ps_retN fun D σ H t => by
  obtain ⟨Hi, ι, ρ, m, RR, g⟩ := t
  exact g _ _ _ _ Step.refl RR.mok .non
theorem psd_pass {pos : Pos} : PS X (.Pass pos) (tDS X.K X.mg Wx sNext) := PS.imp ps_pass fun D σ H t => by
  obtain ⟨Hi, ι, ρ, m, RR, g⟩ := t
  exact g _ _ _ _ Step.refl RR
/-! targets -/
theorem pgd_name {i : Nat} {x : Str} {pos : Pos} (h : PG X (.Name x pos) (gName i)) : PG X (.Name x pos) (tDG X.K X.mg (tgName i)) := PG.imp h fun v σ H Q t => by
  obtain ⟨Hi, ι, ρ, m, w, RR, rw', g⟩ := t
  exact g _ _ _ _ Step.refl ⟨RR.mok, RR.slots.set i rw'⟩
theorem pgsd_nil : PGs X [] (tDGs X.K X.mg tgNil) := PGs.imp pgs_nil fun v σ H Q t => by
  obtain ⟨Hi, ι, ρ, m, ws, RR, rw', g⟩ := t
  cases rw' with
  | nil => exact ⟨rfl, g _ _ _ _ Step.refl RR⟩
  | cons a b => exact g.elim
theorem pgsd_cons {e : Expr} {es : List Expr} {f : Tg} {g : TgL} (h1 : PG X e (tDG X.K X.mg f)) (h2 : PGs X es (tDGs X.K X.mg g)) (hs : (assignEach (e :: es) X.env).map (·.2) = assign e X.env :: (assignEach es X.env).map (·.2) := by rfl) : PGs X (e :: es) (tDGs X.K X.mg (tgCons f g)) :=
  PGs.imp (pgs_cons h1 h2 hs) fun v σ H Q t => by
    obtain ⟨Hi, ι, ρ, m, ws, RR, rw', gd⟩ := t
    cases rw' with
    | nil => exact gd.elim
    | cons a b =>
      rename_i v vs w ws
      refine ⟨v, vs, rfl, Hi, ι, ρ, m, w, RR, a, ?_⟩
      unfold tgCons at gd
      cases e : f w ρ m with
      | ok ρ' m' =>
        simp only [e, R.bind_ok] at gd
        intro Hi2 ι2 σ2 H2 st R2
        refine ⟨Hi2, ι2, ρ', m', ws, R2, b.step st, ?_⟩
        cases e2 : g ws ρ' m' with
        | ok ρ2 m2 =>
          rw [e2] at gd
          exact fun a b c d st2 => gd a b c d (st.trans st2)
        | exc c ns vs m2 => rw [e2] at gd; exact gd
        | bad => rw [e2] at gd; exact gd
      | exc c ns vs m2 => simp only [e, R.bind_exc] at gd
      | bad => simp only [e, R.bind_bad] at gd
theorem pgd_tup {es : List Expr} {k : Nat} {pos : Pos} {g : TgL} {n : Nat} (hc : X.calm = true) (h : PGs X es (tDGs X.K X.mg g)) (hn : (assignEach es X.env).length = n := by rfl) (hst : (assignEach es X.env).findIdx? (·.1) = none := by rfl) :
    PG X (.Tuple es k pos) (tDG X.K X.mg (tgTup n g)) := PG.imp (pg_tup hc h hn hst) fun v σ H Q t => by
  obtain ⟨Hi, ι, ρ, m, w, RR, rw', gd⟩ := t
  cases w with
  | m k => exact gd.elim
  | d x =>
    cases x with
    | tup xs =>
      by_cases hl : xs.length = n
      · have e : tgTup n g (.d (.tup xs)) ρ m = g (xs.map .d) ρ m := if_pos hl
        rw [e] at gd
        cases rw' with
        | tup s r =>
          rename_i a vs
          exact ⟨a, vs, rfl, sqT_mono RR.mok.sub s, r.length.trans hl, Hi, ι, ρ, m, _, RR, r.ws, gd⟩
      · have e : tgTup n g (.d (.tup xs)) ρ m = .bad := if_neg hl
        rw [e] at gd
        exact gd.elim
    | _ => exact gd.elim
theorem asg_imp {f : Ev} {g : Tg} {D : Ends} {σ : L2.St} {H : Hp} (t : tDS X.K X.mg Wx (sAsg f g) D σ H) : tAsg (tD X.K X.mg Wx f) (tDG X.K X.mg g) D σ H := by
  obtain ⟨Hi, ι, ρ, m, RR, gd⟩ := t
  refine ⟨Hi, ι, ρ, m, RR, goodS_lift RR gd fun x m1 Hi1 ι1 v H1 st M rv g1 => ⟨Hi1, ι1, ρ, m1, x, RR.step st M, rv, ?_⟩⟩
  cases e : g x ρ m1 with
  | ok ρ2 m2 =>
    rw [e] at g1
    exact g1
  | exc c ns vs m2 => rw [e] at g1; exact g1
  | bad => rw [e] at g1; exact g1
theorem psd_asg {tg e : Expr} {pos : Pos} {f : Ev} {g : Tg} (he : PE X e (tD X.K X.mg Wx f)) (hg : PG X tg (tDG X.K X.mg g)) (hs : swapsWithSole [tg] e pos.line X.env = pure false := by rfl) (hw : swappedStores [tg] e X.env = pure none := by rfl)
    (h1 : (assignEach [tg] X.env).map (·.2) = [assign tg X.env] := by rfl) : PS X (.Assign [tg] e pos) (tDS X.K X.mg Wx (sAsg f g)) := PS.imp (ps_asg he hg hs hw h1) fun D σ H t => asg_imp t
theorem psd_set {i : Nat} {x : Str} {e : Expr} {pos pos' : Pos} {f : Ev} (hN : X.N.Nodup) (hi : X.N[i]? = some x) (hx : Loc X.env.scope x) (he : PE X e (tD X.K X.mg Wx f)) (hs : swapsWith e (some (.Name x pos')) pos.line X.env = pure false := by rfl) (hf : X.fn x = true ∨ X.env.scope.names.lookup x = some .local := by first | exact .inl rfl | exact .inr rfl | assumption) :
    PS X (.Assign [.Name x pos'] e pos) (tDS X.K X.mg Wx (sAsg f (tgName i))) := PS.imp (ps_set hN hi hx he hs hf) fun D σ H t => by
  obtain ⟨Hi, ι, ρ, m, RR, gd⟩ := t
  refine ⟨Hi, ι, ρ, m, RR, goodS_lift RR gd fun x m1 Hi1 ι1 v H1 st M rv g1 => ?_⟩
  exact g1 _ _ _ _ Step.refl ⟨M, (RR.slots.step st).set i rv⟩
theorem psd_par {i j : Nat} {x y : Str} {a b : Expr} {f : EvL} {px py pt pos : Pos} {kt k2 pt2} (h : ∀ ta : TA, PA X [a, b] ta → PS X (.Assign [.Tuple [.Name x px, .Name y py] kt pt] (.Tuple [a, b] k2 pt2) pos) (tPar i j ta)) (ha : PA X [a, b] (tDA X.K X.mg Wx f)) :
    PS X (.Assign [.Tuple [.Name x px, .Name y py] kt pt] (.Tuple [a, b] k2 pt2) pos) (tDS X.K X.mg Wx (sPar i j f)) := PS.imp (h _ ha) fun D σ H t => by
  obtain ⟨Hi, ι, ρ, m, RR, gd⟩ := t
  refine ⟨Hi, ι, ρ, m, RR, goodS_lift RR gd fun ws m1 Hi1 ι1 vs H1 st M rv g1 => ?_⟩
  split at g1
  · cases rv with
    | cons a1 b1 =>
      cases b1 with
      | cons a2 b2 =>
        cases b2
        exact ⟨_, _, rfl, g1 _ _ _ _ Step.refl ⟨M, ((RR.slots.step st).set i a1).set j a2⟩⟩
  · exact g1.elim
/-! while -/
theorem psd_while {c : Expr} {body : List Stmt} {pos : Pos} {fuel : Env → Mem → Nat} {t : EvT} {b : Ex} (hp : PassesOwn (model X.prog X.w) X.A X.env X.xe) (hc : PT X c (tDT X.K X.mg Wx t)) (hb : PSs X body (tDS X.K X.mg Wx b)) : PS X (.While c body [] pos) (tDS X.K X.mg Wx (sWhile fuel t b)) :=
  PS.imp (ps_while hp hc hb) fun D σ H t0 => by
    obtain ⟨Hi, ι, ρ, m, RR, gd⟩ := t0
    refine ⟨fun n σ' H' => ∃ Hi' ι' ρ' m', Rel X.K X.mg Hi' ι' ρ' m' σ' H' ∧ GoodS X.K X.mg Wx D Hi' ι' H' (whl t b n ρ' m'), ⟨fuel ρ m, Hi, ι, ρ, m, RR, gd⟩, ?_⟩
    rintro n σ' H' ⟨Hi', ι', ρ', m', RR', gd'⟩
    cases n with
    | zero => exact gd'.elim
    | succ n =>
      refine ⟨Hi', ι', ρ', m', RR', goodS_lift RR' gd' fun x m1 Hi1 ι1 v H1 st M rv g1 => ?_⟩
      cases rv
      cases x with
      | false => exact g1 _ _ _ _ Step.refl (RR'.step st M)
      | true =>
        refine ⟨fun σ'' H'' => ∃ Hi' ι' ρ' m', Rel X.K X.mg Hi' ι' ρ' m' σ'' H'' ∧ GoodS X.K X.mg Wx D Hi' ι' H'' (whl t b n ρ' m'), fun σ'' H'' h => ⟨n, Nat.lt_succ_self n, h⟩, Hi1, ι1, ρ', m1, RR'.step st M, ?_⟩
        simp only [if_true] at g1
        cases e : b ρ' m1 with
        | nx ρ2 m2 =>
          rw [e] at g1
          exact fun Hi3 ι3 σ3 H3 st3 R3 => ⟨Hi3, ι3, ρ2, m2, R3, GoodS.step g1 st3⟩
        | ct ρ2 m2 =>
          rw [e] at g1
          exact fun Hi3 ι3 σ3 H3 st3 R3 => ⟨Hi3, ι3, ρ2, m2, R3, GoodS.step g1 st3⟩
        | bk ρ2 m2 => rw [e] at g1; exact g1
        | rt w m2 => rw [e] at g1; exact g1
        | xc c ns vs ρ2 m2 => rw [e] at g1; exact g1
        | bad => rw [e] at g1; exact g1
end
end GD

/-! GD4: loops, comprehensions, defs. -/
namespace GD
open PySem PySem.Spec PyProof.Rows L2

section
variable (K : PySem.W.Frag) (mg : Str → Option Value)
/-- J walks the items ws, whatever is made or changed meanwhile -/
structure ItOk (Hi : Hp) (ι : List Addr) (J : It) (ws : List W) : Prop where
  go : ∀ (i : Nat) (Hi1 : Hp) (ι1 : List Addr) (m1 : Mem) (H1 : Hp), Same Hi Hi1 → ι <+: ι1 → Mok K mg Hi1 ι1 m1 H1 → i < ws.length → J.go i H1
  stop : ∀ (i : Nat) (Hi1 : Hp) (ι1 : List Addr) (m1 : Mem) (H1 : Hp), Same Hi Hi1 → ι <+: ι1 → Mok K mg Hi1 ι1 m1 H1 → ws.length ≤ i → J.stop i H1
  yld : ∀ (i : Nat) (w : W) (Hi1 : Hp) (ι1 : List Addr) (m1 : Mem) (H1 : Hp) (x : V) (H2 : Hp), Same Hi Hi1 → ι <+: ι1 → Mok K mg Hi1 ι1 m1 H1 → ws[i]? = some w → J.yld i H1 x H2 → ∃ Hi2, Step Hi1 ι1 H1 Hi2 ι1 H2 ∧ Mok K mg Hi2 ι1 m1 H2 ∧ RepW K mg Hi2 ι1 x w
def tDI (Wx : WX) (f : EvL) : TI := fun σ H Q => ∃ Hi ι ρ m, Rel K mg Hi ι ρ m σ H ∧ Good K mg (ItOk K mg) Wx σ Hi ι H (f ρ m) Q
end
section
variable {X : Cx} {Wx : WX} {kk : Nat}
theorem PI.imp {tg iter : Expr} {t t' : TI} (h : PI X tg iter t) (hi : ∀ σ H Q, t' σ H Q → t σ H Q) : PI X tg iter t' := ⟨fun pins s σ H R I q => h.run pins s σ H R I (hi σ H R q)⟩
theorem drop_cons {α : Type} {ws : List α} {i : Nat} {w : α} {r : List α} (h : ws.drop i = w :: r) : i < ws.length ∧ ws[i]? = some w ∧ ws.drop (i + 1) = r := by
  have h1 : i < ws.length := by
    apply Nat.lt_of_not_le
    intro hl
    rw [List.drop_eq_nil_of_le hl] at h
    cases h
  rw [List.drop_eq_getElem_cons h1] at h
  injection h with h2 h3
  exact ⟨h1, by rw [List.getElem?_eq_getElem h1, h2], h3⟩
theorem drop_nil {α : Type} {ws : List α} {i : Nat} (h : ws.drop i = []) : ws.length ≤ i := by
  rw [List.drop_eq_nil_iff] at h
  exact h
theorem psd_for {tg iter : Expr} {body : List Stmt} {pos : Pos} {it : EvL} {g : Tg} {b : Ex} (hp : PassesOwn (model X.prog X.w) X.A X.env X.xe) (hc : X.calm = true) (hi : PI X tg iter (tDI X.K X.mg Wx it)) (hg : PG X tg (tDG X.K X.mg g)) (hb : PSs X body (tDS X.K X.mg Wx b))
    (hs : ∀ x, foldedSetIterable iter X.env x = pure x := by intro _; rfl) : PS X (.For tg iter body [] pos) (tDS X.K X.mg Wx (sFor it g b)) := PS.imp (ps_for hp hc hi hg hb hs) fun D σ H t0 => by
  obtain ⟨Hi, ι, ρ, m, RR, gd⟩ := t0
  refine ⟨Hi, ι, ρ, m, RR, goodS_lift RR gd fun ws m1 Hi1 ι1 J H1 st M rJ g1 => ?_⟩
  refine ⟨fun i n σ' H' => ∃ Hi' ι' ρ' m', Same Hi1 Hi' ∧ ι1 <+: ι' ∧ Rel X.K X.mg Hi' ι' ρ' m' σ' H' ∧ n = ws.length - i ∧ GoodS X.K X.mg Wx D Hi' ι' H' (loop g b (ws.drop i) ρ' m'), ⟨_, Hi1, ι1, ρ, m1, Same.refl _, List.prefix_refl _, RR.step st M, rfl, g1⟩, ?_⟩
  rintro i n σ' H' ⟨Hi', ι', ρ', m', sm, pr, R', rfl, gd'⟩
  cases e : ws.drop i with
  | nil =>
    rw [e] at gd'
    exact .inl ⟨rJ.stop i _ _ _ _ sm pr R'.mok (drop_nil e), gd' _ _ _ _ Step.refl R'⟩
  | cons w r =>
    obtain ⟨h1, h2, h3⟩ := drop_cons e
    rw [e] at gd'
    refine .inr ⟨rJ.go i _ _ _ _ sm pr R'.mok h1, fun σ'' H'' => ∃ Hi2 ι2 ρ2 m2, Same Hi1 Hi2 ∧ ι1 <+: ι2 ∧ Rel X.K X.mg Hi2 ι2 ρ2 m2 σ'' H'' ∧ GoodS X.K X.mg Wx D Hi2 ι2 H'' (loop g b (ws.drop (i + 1)) ρ2 m2),
      fun σ'' H'' ⟨Hi2, ι2, ρ2, m2, a1, a2, a3, a4⟩ => ⟨ws.length - (i + 1), by omega, Hi2, ι2, ρ2, m2, a1, a2, a3, rfl, a4⟩, fun x H2 hy => ?_⟩
    obtain ⟨Hi2, st2, M2, rx⟩ := rJ.yld i w _ _ _ _ x H2 sm pr R'.mok h2 hy
    refine ⟨Hi2, ι', ρ', m', w, R'.step st2 M2, rx, ?_⟩
    unfold loop at gd'
    cases e2 : g w ρ' m' with
    | exc c ns vs m2 => rw [e2] at gd'; exact gd'.elim
    | bad => rw [e2] at gd'; exact gd'.elim
    | ok ρ2 m2 =>
      rw [e2] at gd'
      simp only [noX, R.lift_ok] at gd'
      intro Hi3 ι3 σ3 H3 st3 R3
      refine ⟨Hi3, ι3, ρ2, m2, R3, ?_⟩
      have sm3 := (sm.trans st2.imm).trans st3.imm
      have pr3 := pr.trans st3.pre
      have gd3 := GoodS.step gd' (st2.trans st3)
      rw [h3]
      cases e4 : b ρ2 m2 with
      | nx ρ4 m4 =>
        rw [e4] at gd3
        exact fun Hi5 ι5 σ5 H5 st5 R5 => ⟨Hi5, ι5, ρ4, m4, sm3.trans st5.imm, pr3.trans st5.pre, R5, GoodS.step gd3 st5⟩
      | ct ρ4 m4 =>
        rw [e4] at gd3
        exact fun Hi5 ι5 σ5 H5 st5 R5 => ⟨Hi5, ι5, ρ4, m4, sm3.trans st5.imm, pr3.trans st5.pre, R5, GoodS.step gd3 st5⟩
      | bk ρ4 m4 => rw [e4] at gd3; exact gd3
      | rt w m4 => rw [e4] at gd3; exact gd3
      | xc c ns vs ρ4 m4 => rw [e4] at gd3; exact gd3
      | bad => rw [e4] at gd3; exact gd3

theorem psd_frz {st : Stmt} {i : Nat} {f : Ex} (h : PS X st (tDS X.K X.mg Wx f)) : PS X st (tDS X.K X.mg Wx (sFrz i f)) := PS.imp h fun D σ H t => by
  obtain ⟨Hi, ι, ρ, m, RR, gd⟩ := t
  refine ⟨Hi, ι, ρ, m, RR, ?_⟩
  unfold sFrz at gd
  cases e : f ρ m with
  | nx ρ' m' =>
    rw [e] at gd
    dsimp only at gd
    intro Hi2 ι2 σ2 H2 st R2
    split at gd
    · rename_i k e1
      split at gd
      · rename_i xs e2
        obtain ⟨v, hv, a, h1, rfl⟩ := R2.slots.2 i _ e1
        obtain ⟨vs, h2, h3⟩ := R2.mok.obj k _ a e2 h1
        obtain ⟨M3, st3⟩ := R2.mok.frz h1 e2 h2
        refine gd _ _ _ _ (st.trans st3) ⟨M3, ?_⟩
        have hs := (R2.slots.step st3).set (v := .ref a) (w := .d (.lst xs)) i (.lst upd_same (h3.mono st3.imm))
        have es : σ2.set i (some (.ref a)) = σ2 := by
          apply List.ext_getElem?
          intro j
          by_cases hj : i = j
          · subst hj
            rw [hv]
            exact List.getElem?_set_self (List.getElem?_eq_some_iff.mp hv).1
          · rw [List.getElem?_set_ne hj]
        rw [es] at hs
        exact hs
      · exact gd.elim
    · exact gd.elim
  | bk ρ' m' => rw [e] at gd; exact gd
  | ct ρ' m' => rw [e] at gd; exact gd
  | rt w m' => rw [e] at gd; exact gd
  | xc c ns vs ρ' m' => rw [e] at gd; exact gd
  | bad => rw [e] at gd; exact gd

/-! ### what is walked -/
def dList : W → Mem → Option (List D)
  | .d (.lst xs), _ => some xs
  | .d (.tup xs), _ => some xs
  | _, _ => none
/-- a list or a tuple -/
def iSeq (a : Ev) : EvL := fun ρ m => (a ρ m).bind fun w m => match w with
  | .d (.lst xs) => .ok (xs.map .d) m
  | .d (.fls xs) => .ok (xs.map .d) m
  | .d (.tup xs) => .ok (xs.map .d) m
  | _ => .bad
theorem PI.or {tg iter : Expr} {t t' : TI} (h : PI X tg iter t) (h' : PI X tg iter t') : PI X tg iter (fun σ H Q => t σ H Q ∨ t' σ H Q) := ⟨fun pins s σ H R I q => q.elim (h.run pins s σ H R I) (h'.run pins s σ H R I)⟩
theorem get_map {ds : List D} {i : Nat} {w : W} (h : (ds.map W.d)[i]? = some w) : ∃ x, ds[i]? = some x ∧ w = .d x := by
  rw [List.getElem?_map] at h
  cases e : ds[i]? with
  | none => rw [e] at h; cases h
  | some x => rw [e] at h; cases h; exact ⟨x, rfl, rfl⟩
theorem itOk_list {K : PySem.W.Frag} {mg : Str → Option Value} {Hi : Hp} {ι : List Addr} {a : Addr} {vs : List V} {ds : List D} (s : SqL K Hi a vs) (r : RepL K mg Hi vs ds) : ItOk K mg Hi ι (Itl K a) (ds.map .d) where
  go := fun i Hi1 ι1 m1 H1 sm _ M hi => by
    have hl : i < vs.length := by rw [r.length]; simpa using hi
    exact ⟨vs, vs[i], sqL_mono (sm.trans M.sub) s, by simp [hl]⟩
  stop := fun i Hi1 ι1 m1 H1 sm _ M hi => ⟨vs, sqL_mono (sm.trans M.sub) s, by rw [r.length]; simpa using hi⟩
  yld := fun i w Hi1 ι1 m1 H1 x H2 sm pr M hw hy => by
    obtain ⟨e, hy⟩ := hy
    subst e
    have hv := hy vs (sqL_mono (sm.trans M.sub) s)
    obtain ⟨d, hd, rfl⟩ := get_map hw
    obtain ⟨v, h1, h2⟩ := r.get hd
    rw [hv] at h1
    cases h1
    exact ⟨Hi1, Step.refl, M, h2.mono sm⟩
theorem itOk_tup {K : PySem.W.Frag} {mg : Str → Option Value} {Hi : Hp} {ι : List Addr} {a : Addr} {vs : List V} {ds : List D} (s : SqT K Hi a vs) (r : RepL K mg Hi vs ds) : ItOk K mg Hi ι (Itt K a) (ds.map .d) where
  go := fun i Hi1 ι1 m1 H1 sm _ M hi => by
    have hl : i < vs.length := by rw [r.length]; simpa using hi
    exact ⟨vs, vs[i], sqT_mono (sm.trans M.sub) s, by simp [hl]⟩
  stop := fun i Hi1 ι1 m1 H1 sm _ M hi => ⟨vs, sqT_mono (sm.trans M.sub) s, by rw [r.length]; simpa using hi⟩
  yld := fun i w Hi1 ι1 m1 H1 x H2 sm pr M hw hy => by
    obtain ⟨e, hy⟩ := hy
    subst e
    have hv := hy vs (sqT_mono (sm.trans M.sub) s)
    obtain ⟨d, hd, rfl⟩ := get_map hw
    obtain ⟨v, h1, h2⟩ := r.get hd
    rw [hv] at h1
    cases h1
    exact ⟨Hi1, Step.refl, M, h2.mono sm⟩
theorem pid_seq {tg l : Expr} {f : Ev} (hl : PE X l (tD X.K X.mg Wx f)) : PI X tg l (tDI X.K X.mg Wx (iSeq f)) := PI.imp (PI.or (pi_list hl) (pi_tup hl)) fun σ H Q t => by
  obtain ⟨Hi, ι, ρ, m, RR, gd⟩ := t
  unfold iSeq at gd
  cases e : f ρ m with
  | bad => rw [e] at gd; exact gd.elim
  | exc c ns vs m1 => rw [e] at gd; exact .inl ⟨Hi, ι, ρ, m, RR, by rw [e]; exact gd⟩
  | ok w m1 =>
    rw [e, R.bind_ok] at gd
    split at gd
    · rename_i xs
      refine .inl ⟨Hi, ι, ρ, m, RR, ?_⟩
      rw [e]
      intro Hi1 ι1 v H1 st M rv
      cases rv with
      | lst s r => exact ⟨_, rfl, ⟨_, .inl (.inl (M.sub _ _ s))⟩, gd _ _ _ _ st M (itOk_list (.inl (.inl s)) r)⟩
    · rename_i xs
      refine .inl ⟨Hi, ι, ρ, m, RR, ?_⟩
      rw [e]
      intro Hi1 ι1 v H1 st M rv
      cases rv with
      | fls s r => exact ⟨_, rfl, ⟨_, sqL_mono M.sub s⟩, gd _ _ _ _ st M (itOk_list s r)⟩
    · rename_i xs
      refine .inr ⟨Hi, ι, ρ, m, RR, ?_⟩
      rw [e]
      intro Hi1 ι1 v H1 st M rv
      cases rv with
      | tup s r => exact ⟨_, rfl, ⟨_, sqT_mono M.sub s⟩, gd _ _ _ _ st M (itOk_tup s r)⟩
    · exact gd.elim
/-- range(a), range(a, b) -/
def rngL (i j : Int) : List W := (List.range (j - i).toNat).map fun (k : Nat) => W.d (.int (i + (k : Int)))
def iRange1 (a : EvL) : EvL := fun ρ m => (a ρ m).bind fun ws m => match ws with
  | [.d (.int j)] => if j < 2 ^ 62 ∧ -(2 ^ 62) ≤ j then .ok (rngL 0 j) m else .bad
  | _ => .bad
def iRange2 (a : EvL) : EvL := fun ρ m => (a ρ m).bind fun ws m => match ws with
  | [.d (.int i), .d (.int j)] => if (i < 2 ^ 62 ∧ -(2 ^ 62) ≤ i) ∧ (j < 2 ^ 62 ∧ -(2 ^ 62) ≤ j) then .ok (rngL i j) m else .bad
  | _ => .bad
theorem itOk_rng {K : PySem.W.Frag} {mg : Str → Option Value} {Hi : Hp} {ι : List Addr} {i j : Int} : ItOk K mg Hi ι (Itr i (j - i).toNat) (rngL i j) where
  go := fun k Hi1 ι1 m1 H1 sm _ M hi => by
    have hi' : k < (rngL i j).length := hi
    unfold rngL at hi'
    rw [List.length_map, List.length_range] at hi'
    exact hi'
  stop := fun k Hi1 ι1 m1 H1 sm _ M hi => by
    have hi' : (rngL i j).length ≤ k := hi
    unfold rngL at hi'
    rw [List.length_map, List.length_range] at hi'
    exact hi'
  yld := fun k w Hi1 ι1 m1 H1 x H2 sm pr M hw hy => by
    obtain ⟨e, hy⟩ := hy
    subst e hy
    refine ⟨Hi1, Step.refl, M, ?_⟩
    unfold rngL at hw
    rw [List.getElem?_map] at hw
    cases e : (List.range (j - i).toNat)[k]? with
    | none => rw [e] at hw; cases hw
    | some n =>
      rw [e] at hw
      cases hw
      have e2 : k = n := by
        obtain ⟨h1, h2⟩ := List.getElem?_eq_some_iff.mp e
        simpa using h2
      subst e2
      exact .int _
theorem pid_range1 {tg a : Expr} {p pos : Pos} {f : EvL} (hg : Gl X "range") (hm : X.mg "range" = none) (ha : PA X [a] (tDA X.K X.mg Wx f)) (hs : starEach [a] X.env = [(false, eval a X.env)] := by rfl) : PI X tg (.Call (.Name "range" p) [a] [] pos) (tDI X.K X.mg Wx (iRange1 f)) :=
  PI.imp (pi_range1 hg hm ha hs) fun σ H Q t => by
    obtain ⟨Hi, ι, ρ, m, RR, gd⟩ := t
    refine ⟨Hi, ι, ρ, m, RR, good_bind gd fun ws m1 Hi1 ι1 vs H1 st M rv g1 => ?_⟩
    split at g1
    · rename_i j
      split at g1
      · rename_i hj
        cases rv with
        | cons r1 r2 =>
          cases r2
          cases r1
          have z := itOk_rng (K := X.K) (mg := X.mg) (Hi := Hi1) (ι := ι1) (i := 0) (j := j)
          rw [Int.sub_zero] at z
          exact ⟨j, rfl, hj.2, hj.1, g1.here M z⟩
      · exact g1.elim
    · exact g1.elim
theorem pid_range2 {tg a b : Expr} {p pos : Pos} {f : EvL} (hg : Gl X "range") (hm : X.mg "range" = none) (ha : PA X [a, b] (tDA X.K X.mg Wx f)) (hs : starEach [a, b] X.env = [(false, eval a X.env), (false, eval b X.env)] := by rfl) (hs2 : starEach [b] X.env = [(false, eval b X.env)] := by rfl) :
    PI X tg (.Call (.Name "range" p) [a, b] [] pos) (tDI X.K X.mg Wx (iRange2 f)) :=
  PI.imp (pi_range2 hg hm ha hs hs2) fun σ H Q t => by
    obtain ⟨Hi, ι, ρ, m, RR, gd⟩ := t
    refine ⟨Hi, ι, ρ, m, RR, good_bind gd fun ws m1 Hi1 ι1 vs H1 st M rv g1 => ?_⟩
    split at g1
    · rename_i i j
      split at g1
      · rename_i hj
        cases rv with
        | cons r1 r2 =>
          cases r2 with
          | cons r2 r3 =>
            cases r3
            cases r1
            cases r2
            exact ⟨i, j, rfl, ⟨hj.1.2, hj.1.1, hj.2.2, hj.2.1⟩, g1.here M itOk_rng⟩
      · exact g1.elim
    · exact g1.elim
end

/-! ### comprehensions -/
section
variable (K : PySem.W.Frag) (mg : Str → Option Value)
/-- a target of a comprehension: it stores to the slots vs alone -/
def tDGv (vs : List Nat) (g : Tg) : TG := fun v σ H Q => ∃ Hi ι ρ m w, Rel K mg Hi ι ρ m σ H ∧ RepW K mg Hi ι v w ∧ (match g w ρ m with
  | .ok ρ' m' => ∀ (Hi' : Hp) (ι' : List Addr) (σ' : L2.St) (H' : Hp), Step Hi ι H Hi' ι' H' → Rel K mg Hi' ι' ρ' m' σ' H' → L2.wipe σ' vs = L2.wipe σ vs → Q σ' H'
  | _ => False)
def tDGsv (vs : List Nat) (g : TgL) : TGs := fun us σ H Q => ∃ Hi ι ρ m ws, Rel K mg Hi ι ρ m σ H ∧ RepWs K mg Hi ι us ws ∧ (match g ws ρ m with
  | .ok ρ' m' => ∀ (Hi' : Hp) (ι' : List Addr) (σ' : L2.St) (H' : Hp), Step Hi ι H Hi' ι' H' → Rel K mg Hi' ι' ρ' m' σ' H' → L2.wipe σ' vs = L2.wipe σ vs → Q σ' H'
  | _ => False)
end
theorem wipe_set {σ : L2.St} {i : Nat} {o : Option V} : ∀ {vs : List Nat}, i ∈ vs → L2.wipe (σ.set i o) vs = L2.wipe σ vs
  | [], h => by cases h
  | v :: vs, h => by
    unfold L2.wipe
    by_cases hv : i ∈ vs
    · rw [wipe_set hv]
    · have e : v = i := by
        rcases List.mem_cons.mp h with h | h
        · exact h.symm
        · exact absurd h hv
      subst e
      have com : ∀ us : List Nat, v ∉ us → L2.wipe (σ.set v o) us = (L2.wipe σ us).set v o := by
        intro us
        induction us with
        | nil => intro _; rfl
        | cons u us ih =>
          intro hu
          unfold L2.wipe
          rw [ih (fun q => hu (List.mem_cons_of_mem _ q)), List.set_comm]
          intro q
          exact hu (by rw [q]; exact List.mem_cons_self)
      rw [com vs hv, List.set_set]
theorem wipe_wipe (σ : L2.St) : ∀ vs : List Nat, L2.wipe (L2.wipe σ vs) vs = L2.wipe σ vs := by
  intro vs
  have h : ∀ us : List Nat, (∀ u ∈ us, u ∈ vs) → L2.wipe (L2.wipe σ us) vs = L2.wipe σ vs := by
    intro us
    induction us with
    | nil => intro _; rfl
    | cons u us ih =>
      intro hu
      show L2.wipe ((L2.wipe σ us).set u none) vs = _
      rw [wipe_set (hu u List.mem_cons_self)]
      exact ih fun z hz => hu z (List.mem_cons_of_mem _ hz)
  exact h vs fun _ h => h
section
variable {X : Cx} {Wx : WX} {kk : Nat} {vs : List Nat}
theorem pgv_name {i : Nat} {x : Str} {pos : Pos} (h : PG X (.Name x pos) (gName i)) (hi : i ∈ vs) : PG X (.Name x pos) (tDGv X.K X.mg vs (tgName i)) := PG.imp h fun v σ H Q t => by
  obtain ⟨Hi, ι, ρ, m, w, RR, rw', g⟩ := t
  exact g _ _ _ _ Step.refl ⟨RR.mok, RR.slots.set i rw'⟩ (wipe_set hi)
theorem pgsv_nil : PGs X [] (tDGsv X.K X.mg vs tgNil) := PGs.imp pgs_nil fun v σ H Q t => by
  obtain ⟨Hi, ι, ρ, m, ws, RR, rw', g⟩ := t
  cases rw' with
  | nil => exact ⟨rfl, g _ _ _ _ Step.refl RR rfl⟩
  | cons a b => exact g.elim
theorem pgsv_cons {e : Expr} {es : List Expr} {f : Tg} {g : TgL} (h1 : PG X e (tDGv X.K X.mg vs f)) (h2 : PGs X es (tDGsv X.K X.mg vs g)) (hs : (assignEach (e :: es) X.env).map (·.2) = assign e X.env :: (assignEach es X.env).map (·.2) := by rfl) : PGs X (e :: es) (tDGsv X.K X.mg vs (tgCons f g)) :=
  PGs.imp (pgs_cons h1 h2 hs) fun v σ H Q t => by
    obtain ⟨Hi, ι, ρ, m, ws, RR, rw', gd⟩ := t
    cases rw' with
    | nil => exact gd.elim
    | cons a b =>
      rename_i v vs w ws
      refine ⟨v, vs, rfl, Hi, ι, ρ, m, w, RR, a, ?_⟩
      unfold tgCons at gd
      cases e : f w ρ m with
      | ok ρ' m' =>
        simp only [e, R.bind_ok] at gd
        intro Hi2 ι2 σ2 H2 st R2 ew
        refine ⟨Hi2, ι2, ρ', m', ws, R2, b.step st, ?_⟩
        cases e2 : g ws ρ' m' with
        | ok ρ2 m2 =>
          rw [e2] at gd
          exact fun a b c d st2 r2 ew2 => gd a b c d (st.trans st2) r2 (ew2.trans ew)
        | exc c ns vs m2 => rw [e2] at gd; exact gd
        | bad => rw [e2] at gd; exact gd
      | exc c ns vs m2 => simp only [e, R.bind_exc] at gd
      | bad => simp only [e, R.bind_bad] at gd
theorem pgv_tup {es : List Expr} {k : Nat} {pos : Pos} {g : TgL} {n : Nat} (hc : X.calm = true) (h : PGs X es (tDGsv X.K X.mg vs g)) (hn : (assignEach es X.env).length = n := by rfl) (hst : (assignEach es X.env).findIdx? (·.1) = none := by rfl) :
    PG X (.Tuple es k pos) (tDGv X.K X.mg vs (tgTup n g)) := PG.imp (pg_tup hc h hn hst) fun v σ H Q t => by
  obtain ⟨Hi, ι, ρ, m, w, RR, rw', gd⟩ := t
  cases w with
  | m k => exact gd.elim
  | d x =>
    cases x with
    | tup xs =>
      by_cases hl : xs.length = n
      · have e : tgTup n g (.d (.tup xs)) ρ m = g (xs.map .d) ρ m := if_pos hl
        rw [e] at gd
        cases rw' with
        | tup s r =>
          rename_i a vs
          exact ⟨a, vs, rfl, sqT_mono RR.mok.sub s, r.length.trans hl, Hi, ι, ρ, m, _, RR, r.ws, gd⟩
      · have e : tgTup n g (.d (.tup xs)) ρ m = .bad := if_neg hl
        rw [e] at gd
        exact gd.elim
    | _ => exact gd.elim
/-- no error is wanted -/
abbrev W0 : WX := fun _ _ _ _ => False
theorem ptsd_nil : PTs X [] (tDT X.K X.mg Wx gYes) := ⟨fun pins s σ H Q I h => pts_nil.run pins s σ H Q I (by
  obtain ⟨Hi, ι, ρ, m, RR, gd⟩ := h
  exact gd.here (rep := fun _ _ x a => x = a) RR.mok rfl)⟩
theorem ptsd_one {c : Expr} {f : EvT} (h : PT X c (tDT X.K X.mg Wx f)) : PTs X [c] (tDT X.K X.mg Wx f) := pts_one h
theorem lc_imp {it : EvL} {g : Tg} {t : EvT} {e : Ev} {mu : Bool} {σ : L2.St} {H : Hp} {Q : VK} (h : tD X.K X.mg Wx (if mu then fLcM it g t e vs else fLc it g t e vs) σ H Q) : tLc (tDI X.K X.mg Wx it) (tDGv X.K X.mg vs g) (tDT X.K X.mg W0 t) (tD X.K X.mg W0 e) vs σ H Q := by
  obtain ⟨Hi, ι, ρ, m, RR, gd⟩ := h
  have gd' : Good X.K X.mg (RepW X.K X.mg) Wx σ Hi ι H ((it ρ m).bind fun ws m => (noX (lcs g t e (wipeE ρ vs) ws [] m)).bind fun xs m => if mu then .ok (.m m.length) (m ++ [MO.lst xs]) else .ok (W.d (D.lst xs)) m) Q := by
    cases mu with
    | true => exact gd
    | false => exact gd
  clear gd
  refine ⟨Hi, ι, ρ, m, RR, good_bind gd' fun ws m1 Hi1 ι1 J H1 st M rJ g1 => ?_⟩
  intro DD hD
  have R1 := RR.step st M
  have hDi : Hi1 DD = none := M.sub.free hD
  have hDm : DD ∉ ι1 := fun hm => by
    obtain ⟨o, ho⟩ := M.live hm
    rw [hD] at ho
    cases ho
  refine ⟨fun i n H' => ∃ Hi' ι' m' acc vacc, Step Hi1 ι1 H1 Hi' ι' H' ∧ Mok X.K X.mg Hi' ι' m' H' ∧ Hi' DD = none ∧ DD ∉ ι' ∧ H' DD = some (.lst vacc) ∧ RepL X.K X.mg Hi' vacc acc ∧ n = ws.length - i ∧
    Good X.K X.mg (RepW X.K X.mg) Wx σ Hi1 ι1 H1 ((noX (lcs g t e (wipeE ρ vs) (ws.drop i) acc m')).bind fun xs m => if mu then .ok (.m m.length) (m ++ [MO.lst xs]) else .ok (W.d (D.lst xs)) m) Q,
    ⟨_, Hi1, ι1, m1, [], [], ⟨Same.refl _, List.prefix_refl _, fun a o ha _ => by rw [upd_ne (ne_of_none ha hD)]; exact ha, fun a h1 h2 => absurd h1 h2, fun a h => upd_live h, fun a _ h1 _ => h1⟩, ?_, hDi, hDm, upd_same, .nil, rfl, g1⟩, ?_⟩
  · refine ⟨fun b u q => by rw [upd_ne (ne_of_none q hDi)]; exact M.sub b u q, M.len, M.nd, M.free, fun k mo a h1 h2 => (M.obj k mo a h1 h2).mono (Same.refl _) (upd_ne fun z => hDm (by rw [← z]; exact List.mem_of_getElem? h2))⟩
  rintro i n H' ⟨Hi', ι', m', acc, vacc, st', M', hi', hm', hd', ra, rfl, gd⟩
  cases ew : ws.drop i with
  | nil =>
    rw [ew] at gd
    refine .inl ⟨rJ.stop i _ _ _ _ st'.imm st'.pre M' (drop_nil ew), ?_⟩
    cases mu with
    | false =>
      refine gd (upd Hi' DD (.lst vacc)) ι' (.ref DD) H' ?_ (M'.keep hd' hm' hi') (.lst upd_same (ra.mono fun b u q => by rw [upd_ne (ne_of_none q hi')]; exact q))
      exact ⟨st'.imm.trans fun b u q => by rw [upd_ne (ne_of_none q hi')]; exact q, st'.pre, st'.frm, st'.new, st'.live, fun a h0 h1 h2 => by rw [upd_ne (fun z => h2 (by rw [z]; exact hD))]; exact st'.inew a h0 h1 h2⟩
    | true =>
      refine gd Hi' (ι' ++ [DD]) (.ref DD) H' ⟨st'.imm, st'.pre.trans (List.prefix_append _ _), st'.frm, fun a h1 h2 => ?_, st'.live, st'.inew⟩ ?_ ⟨DD, by rw [← M'.len, List.getElem?_append_right (Nat.le_refl _)]; simp, rfl⟩
      · rcases List.mem_append.mp h1 with h1 | h1
        · exact st'.new a h1 h2
        · rw [List.mem_singleton] at h1; subst h1; exact hD
      · refine ⟨M'.sub, by simp [M'.len], ?_, fun k mo a h1 h2 h3 => ?_, fun k mo a h1 h2 => ?_⟩
        · rw [List.nodup_append]
          exact ⟨M'.nd, by simp, fun a ha b hb => by rw [List.mem_singleton] at hb; subst hb; exact fun z => hm' (by rw [← z]; exact ha)⟩
        · by_cases hk : k < m'.length
          · rw [List.getElem?_append_left hk] at h1
            rw [List.getElem?_append_left (by rw [M'.len]; exact hk)] at h2
            exact M'.free k mo a h1 h2 h3
          · rw [List.getElem?_append_right (by rw [M'.len]; omega)] at h2
            have hm := List.mem_of_getElem? h2
            rw [List.mem_singleton] at hm; subst hm; exact hi'
        · by_cases hk : k < m'.length
          · rw [List.getElem?_append_left hk] at h1
            rw [List.getElem?_append_left (by rw [M'.len]; exact hk)] at h2
            exact M'.obj k mo a h1 h2
          · rw [List.getElem?_append_right (by omega)] at h1
            rw [List.getElem?_append_right (by rw [M'.len]; omega)] at h2
            have ek : k - m'.length = 0 := by
              cases e : k - m'.length with
              | zero => rfl
              | succ n => rw [e] at h1; simp at h1
            rw [ek] at h1
            rw [M'.len, ek] at h2
            simp at h1 h2
            subst h1 h2
            exact ⟨vacc, hd', ra⟩
  | cons w r =>
    obtain ⟨h1, h2, h3⟩ := drop_cons ew
    rw [ew] at gd
    refine .inr ⟨rJ.go i _ _ _ _ st'.imm st'.pre M' h1, fun H'' => ∃ Hi2 ι2 m2 acc2 vacc2, Step Hi1 ι1 H1 Hi2 ι2 H'' ∧ Mok X.K X.mg Hi2 ι2 m2 H'' ∧ Hi2 DD = none ∧ DD ∉ ι2 ∧ H'' DD = some (.lst vacc2) ∧ RepL X.K X.mg Hi2 vacc2 acc2 ∧
      Good X.K X.mg (RepW X.K X.mg) Wx σ Hi1 ι1 H1 ((noX (lcs g t e (wipeE ρ vs) (ws.drop (i + 1)) acc2 m2)).bind fun xs m => if mu then .ok (.m m.length) (m ++ [MO.lst xs]) else .ok (W.d (D.lst xs)) m) Q,
      fun H'' ⟨Hi2, ι2, m2, acc2, vacc2, a1, a2, a3, a4, a5, a6, a7⟩ => ⟨ws.length - (i + 1), by omega, Hi2, ι2, m2, acc2, vacc2, a1, a2, a3, a4, a5, a6, rfl, a7⟩, fun x H2 hy => ?_⟩
    rw [h3]
    obtain ⟨Hi2, st2, M2, rx⟩ := rJ.yld i w _ _ _ _ x H2 st'.imm st'.pre M' h2 hy
    -- what happens to DD in a step
    have dstep : ∀ {Ha : Hp} {ιa : List Addr} {Hb : Hp} {ιb : List Addr} {Ga Gb : Hp}, Step Ha ιa Ga Hb ιb Gb → DD ∉ ιa → Ga DD = some (.lst vacc) → Ha DD = none → Gb DD = some (.lst vacc) ∧ DD ∉ ιb ∧ Hb DD = none := fun s h1 h2 h3 =>
      ⟨s.frm DD _ h2 h1, (fun hm => by rw [s.new DD hm h1] at h2; cases h2), s.inew DD h1 h3 (by rw [h2]; exact fun q => nomatch q)⟩
    obtain ⟨d2, m2, i2⟩ := dstep st2 hm' hd' hi'
    have st12 := st'.trans st2
    refine ⟨Hi2, ι', wipeE ρ vs, m', w, ⟨M2, (R1.slots.wipe vs).step st12⟩, rx, ?_⟩
    unfold lcs at gd
    cases e3 : g w (wipeE ρ vs) m' with
    | exc c ns vs m2 => rw [e3] at gd; exact gd.elim
    | bad => rw [e3] at gd; exact gd.elim
    | ok ρ3 m3 =>
      rw [e3, R.bind_ok] at gd
      intro Hi3 ι3 σ3 H3 st3 R3 ew3
      refine ⟨ew3.trans (wipe_wipe σ vs), Hi3, ι3, ρ3, m3, R3, ?_⟩
      obtain ⟨d3, mm3, i3⟩ := dstep st3 m2 d2 i2
      have st13 := st12.trans st3
      cases e4 : t ρ3 m3 with
      | exc c ns vs m2 => rw [e4] at gd; exact gd.elim
      | bad => rw [e4] at gd; exact gd.elim
      | ok b m4 =>
        rw [e4, R.bind_ok] at gd
        intro Hi4 ι4 b' H4 st4 M4 eb
        cases eb
        obtain ⟨d4, mm4, i4⟩ := dstep st4 mm3 d3 i3
        have st14 := st13.trans st4
        cases b with
        | false =>
          simp only [Bool.false_eq_true, if_false] at gd ⊢
          exact ⟨Hi4, ι4, m4, acc, vacc, st14, M4, i4, mm4, d4, ra.mono ((st2.trans st3).trans st4).imm, gd⟩
        | true =>
          simp only [if_true] at gd ⊢
          refine ⟨Hi4, ι4, ρ3, m4, ⟨M4, R3.slots.step st4⟩, ?_⟩
          cases e5 : e ρ3 m4 with
          | exc c ns vs m2 => rw [e5] at gd; exact gd.elim
          | bad => rw [e5] at gd; exact gd.elim
          | ok y m5 =>
            rw [e5, R.bind_ok] at gd
            intro Hi5 ι5 yv H5 st5 M5 ry
            obtain ⟨d5, mm5, i5⟩ := dstep st5 mm4 d4 i4
            have st15 := st14.trans st5
            have ra5 := ra.mono (((st2.trans st3).trans st4).trans st5).imm
            cases y with
            | m k => exact gd.elim
            | d y =>
              simp only at gd
              split at gd
              · rename_i hl
                refine ⟨vacc, d5, sz5' (by rw [ra.length]; exact hl), Hi5, ι5, m5, acc ++ [y], vacc ++ [yv], ?_, ?_, i5, mm5, upd_same, ra5.append (.one ry), gd⟩
                · refine ⟨st15.imm, st15.pre, fun a o h1 h2 => ?_, st15.new, fun a h => st15.live a (upd_live h), st15.inew⟩
                  rw [upd_ne (ne_of_none h1 hD)]
                  exact st15.frm a o h1 h2
                · refine ⟨fun b u q => ?_, M5.len, M5.nd, M5.free, fun k mo a h1 h2 => (M5.obj k mo a h1 h2).mono (Same.refl _) (upd_ne fun z => mm5 (by rw [← z]; exact List.mem_of_getElem? h2))⟩
                  rw [upd_ne (ne_of_none q i5)]
                  exact M5.sub b u q
              · exact gd.elim
theorem pd_lc {elt tg iter : Expr} {ifs : List Expr} {scope : Scope} {own : List (Str × Nat)} {pos : Pos} {it : EvL} {g : Tg} {t : EvT} {e : Ev} (hc : X.calm = true) (hN : X.N.Nodup) (hi : PI X tg iter (tDI X.K X.mg Wx it)) (ok : BlkOk X.N X.env.scope scope own)
    (hg : ∀ (s : Shared) (H : Hp) (C : Addr) (cl : List (Str × Addr)) (fp : List Addr), PG (X.blk s H scope (compEnvC scope cl C X.env) fp) tg (tDGv X.K X.mg (own.map (·.2)) g)) (ht : ∀ (s : Shared) (H : Hp) (C : Addr) (cl : List (Str × Addr)) (fp : List Addr), PTs (X.blk s H scope (compEnvC scope cl C X.env) fp) ifs (tDT X.K X.mg W0 t))
    (he : ∀ (s : Shared) (H : Hp) (C : Addr) (cl : List (Str × Addr)) (fp : List Addr), PE (X.blk s H scope (compEnvC scope cl C X.env) fp) elt (tD X.K X.mg W0 e)) (hs : ∀ x, foldedSetIterable iter X.env x = pure x := by intro _; rfl) :
    PE X (.ListComp elt [⟨tg, iter, ifs, 0⟩] scope pos) (tD X.K X.mg Wx (fLc it g t e (own.map (·.2)))) := PE.imp (pe_lc hc hN hi ok hg ht he hs) fun σ H Q h => lc_imp (mu := false) h
theorem pd_lcM {elt tg iter : Expr} {ifs : List Expr} {scope : Scope} {own : List (Str × Nat)} {pos : Pos} {it : EvL} {g : Tg} {t : EvT} {e : Ev} (hc : X.calm = true) (hN : X.N.Nodup) (hi : PI X tg iter (tDI X.K X.mg Wx it)) (ok : BlkOk X.N X.env.scope scope own)
    (hg : ∀ (s : Shared) (H : Hp) (C : Addr) (cl : List (Str × Addr)) (fp : List Addr), PG (X.blk s H scope (compEnvC scope cl C X.env) fp) tg (tDGv X.K X.mg (own.map (·.2)) g)) (ht : ∀ (s : Shared) (H : Hp) (C : Addr) (cl : List (Str × Addr)) (fp : List Addr), PTs (X.blk s H scope (compEnvC scope cl C X.env) fp) ifs (tDT X.K X.mg W0 t))
    (he : ∀ (s : Shared) (H : Hp) (C : Addr) (cl : List (Str × Addr)) (fp : List Addr), PE (X.blk s H scope (compEnvC scope cl C X.env) fp) elt (tD X.K X.mg W0 e)) (hs : ∀ x, foldedSetIterable iter X.env x = pure x := by intro _; rfl) :
    PE X (.ListComp elt [⟨tg, iter, ifs, 0⟩] scope pos) (tD X.K X.mg Wx (fLcM it g t e (own.map (·.2)))) := PE.imp (pe_lc hc hN hi ok hg ht he hs) fun σ H Q h => lc_imp (mu := true) h
theorem psd_setLc {mu : Bool} {i : Nat} {y : Str} {py : Pos} {elt tg iter : Expr} {ifs : List Expr} {scope : Scope} {own : List (Str × Nat)} {pos spos : Pos} {it : EvL} {g : Tg} {t : EvT} {e : Ev} (hc : X.calm = true) (hN : X.N.Nodup) (hy : X.N[i]? = some y) (hyl : X.env.scope.names.lookup y = some .local)
    (hsw : swapsWith (.ListComp elt [⟨tg, iter, ifs, 0⟩] scope pos) (some (.Name y py)) spos.line X.env = pure true) (hi : PI X tg iter (tDI X.K X.mg Wx it)) (ok : BlkOk X.N X.env.scope scope own)
    (hg : ∀ (s : Shared) (H : Hp) (C : Addr) (cl : List (Str × Addr)) (fp : List Addr), PG (X.blk s H scope (compEnvC scope cl C X.env) fp) tg (tDGv X.K X.mg (own.map (·.2)) g)) (ht : ∀ (s : Shared) (H : Hp) (C : Addr) (cl : List (Str × Addr)) (fp : List Addr), PTs (X.blk s H scope (compEnvC scope cl C X.env) fp) ifs (tDT X.K X.mg W0 t))
    (he : ∀ (s : Shared) (H : Hp) (C : Addr) (cl : List (Str × Addr)) (fp : List Addr), PE (X.blk s H scope (compEnvC scope cl C X.env) fp) elt (tD X.K X.mg W0 e)) (hs : ∀ x, foldedSetIterable iter X.env x = pure x := by intro _; rfl) :
    PS X (.Assign [.Name y py] (.ListComp elt [⟨tg, iter, ifs, 0⟩] scope pos) spos) (tDS X.K X.mg Wx (sAsg (if mu then fLcM it g t e (own.map (·.2)) else fLc it g t e (own.map (·.2))) (tgName i))) := PS.imp (ps_setLc hc hN hy hyl hsw hi ok hg ht he hs) fun D σ H t0 => by
  have z : tD X.K X.mg Wx (if mu then fLcM it g t e (own.map (·.2)) else fLc it g t e (own.map (·.2))) σ H (fun x H1 => gName i x σ H1 D.nx) := by
    obtain ⟨Hi, ι, ρ, m, RR, gd⟩ := t0
    refine ⟨Hi, ι, ρ, m, RR, goodS_lift RR gd fun x m1 Hi1 ι1 v H1 st M rv g1 => ?_⟩
    exact g1 _ _ _ _ Step.refl ⟨M, (RR.slots.step st).set i rv⟩
  exact lc_imp z
end

/-! ### defs -/
/-- a def's promise by its mirror f -/
def spN (K : PySem.W.Frag) (mg : Str → Option Value) (f : Fn) : Sp := fun vs H Q E => ∃ Hi ι ws m, Mok K mg Hi ι m H ∧ RepWs K mg Hi ι vs ws ∧ Good K mg (RepW K mg) (fun c d _ H' => E c d H') [] Hi ι H (f ws m) Q
section
variable {P : Program} {w : World} {K : PySem.W.Frag} {mg : Str → Option Value} {base : Heap}
theorem start_rep {Hi : Hp} {ι : List Addr} {N : List Str} {n : Nat} : ∀ {vs : List V} {ws : List W}, RepWs K mg Hi ι vs ws → N.length = n → RepS K mg Hi ι (ws.map some ++ List.replicate (n - ws.length) none) (L2.start N vs) := fun {vs ws} r hn => by
  have hl := r.length
  unfold L2.start
  refine ⟨by simp [hl, hn], fun i w' e => ?_⟩
  by_cases hi : i < ws.length
  · rw [List.getElem?_append_left (by simpa using hi), List.getElem?_map] at e
    cases e2 : ws[i]? with
    | none => rw [e2] at e; cases e
    | some w2 =>
      rw [e2] at e
      cases e
      obtain ⟨v, h1, h2⟩ := r.get e2
      exact ⟨v, by rw [List.getElem?_append_left (by rw [List.length_map, hl]; exact hi), List.getElem?_map, h1]; rfl, h2⟩
  · rw [List.getElem?_append_right (by simpa using hi), List.getElem?_replicate] at e
    split at e <;> cases e
theorem take_pre {ι ι' : List Addr} {n : Nat} (p : ι <+: ι') (h : ι.length = n) : ι'.take n = ι := by
  obtain ⟨t, rfl⟩ := p
  rw [← h]
  simp
theorem body_imp {mu : Bool} {N : List Str} {n np : Nat} {b : Ex} {vs : List V} {ws : List W} {Hi : Hp} {ι : List Addr} {m : Mem} {H : Hp} {Q : VK} {E : XK} (hn : N.length = n) (M : Mok K mg Hi ι m H) (r : RepWs K mg Hi ι vs ws)
    (g : Good K mg (RepW K mg) (fun c d _ H' => E c d H') [] Hi ι H (fnOf mu np n b ws m) Q) : tDS K mg (fun c d _ H' => E c d H') b { nx := fun _ H' => Q .non H', rt := Q } (L2.start N vs) H := by
  refine ⟨Hi, ι, _, m, ⟨M, start_rep r hn⟩, ?_⟩
  have cutS : ∀ {Hi' ι' H'}, Step Hi ι H Hi' ι' H' → Step Hi ι H Hi' (ι'.take m.length) H' := fun {Hi' ι' H'} s => by
    have e := take_pre s.pre M.len
    exact ⟨s.imm, by rw [e]; exact List.prefix_refl _, s.frm, fun a h1 h2 => by rw [e] at h1; exact absurd h1 h2, s.live, s.inew⟩
  have lv : ∀ {w : W} {m' : Mem} {Hi' : Hp} {ι' : List Addr} {v : V} {H' : Hp}, Good K mg (RepW K mg) (fun c d _ H' => E c d H') [] Hi ι H (leave mu m.length w m') Q → Step Hi ι H Hi' ι' H' → Mok K mg Hi' ι' m' H' → RepW K mg Hi' ι' v w → Q v H' := by
    intro w m' Hi' ι' v H' g s M' rv
    have e := take_pre s.pre M.len
    cases w with
    | d x => exact g _ _ _ _ (cutS s) (M'.cut m.length) rv
    | m k =>
      unfold leave at g
      simp only at g
      obtain ⟨a, h1, h2⟩ := rv
      split at g
      · rename_i hk
        exact g _ _ _ _ (cutS s) (M'.cut m.length) ⟨a, by rw [List.getElem?_take_of_lt hk]; exact h1, h2⟩
      · rename_i hk
        split at g
        · rename_i xs em
          obtain ⟨us, q1, q2⟩ := M'.obj k _ a em h1
          have hi : Hi' a = none := M'.free k _ a em h1 (fun q => nomatch q)
          have nin : a ∉ ι'.take m.length := fun hm => by
            obtain ⟨j, hj⟩ := List.getElem?_of_mem hm
            have hjl : j < m.length := by
              have := (List.getElem?_eq_some_iff.mp hj).1
              rw [List.length_take] at this
              omega
            rw [List.getElem?_take_of_lt hjl] at hj
            obtain ⟨p1, e1⟩ := List.getElem?_eq_some_iff.mp hj
            obtain ⟨p2, e2⟩ := List.getElem?_eq_some_iff.mp h1
            have := (List.getElem_inj M'.nd).mp (e1.trans e2.symm)
            omega
          have nH : H a = none := s.new a (List.mem_of_getElem? h1) (by rw [← e]; exact nin)
          cases mu with
          | false =>
            simp only [Bool.false_eq_true, if_false] at g
            subst h2
            refine g (upd Hi' a (.lst us)) (ι'.take m.length) (.ref a) H' ?_ ((M'.cut m.length).keep q1 nin hi) (.lst upd_same (q2.mono fun b u q => by rw [upd_ne (ne_of_none q hi)]; exact q))
            have c := cutS s
            exact ⟨c.imm.trans fun b u q => by rw [upd_ne (ne_of_none q hi)]; exact q, c.pre, c.frm, c.new, c.live, fun b z0 z1 z2 => by rw [upd_ne (fun z => z2 (by rw [z]; exact nH))]; exact c.inew b z0 z1 z2⟩
          | true =>
            simp only [if_true] at g
            subst h2
            have c := cutS s
            have Mc := M'.cut m.length
            have lc : (ι'.take m.length).length = m.length := by rw [e, M.len]
            have lm : (m'.take m.length).length = m.length := by rw [← Mc.len, lc]
            refine g Hi' (ι'.take m.length ++ [a]) (.ref a) H' ⟨c.imm, c.pre.trans (List.prefix_append _ _), c.frm, fun b z1 z2 => ?_, c.live, c.inew⟩ ?_ ⟨a, by rw [List.getElem?_append_right (by omega), lc]; simp, rfl⟩
            · rcases List.mem_append.mp z1 with z1 | z1
              · exact c.new b z1 z2
              · rw [List.mem_singleton] at z1; subst z1; exact nH
            · refine ⟨Mc.sub, by simp [Mc.len], ?_, fun j mo b z1 z2 z3 => ?_, fun j mo b z1 z2 => ?_⟩
              · rw [List.nodup_append]
                exact ⟨Mc.nd, by simp, fun b hb b' hb' => by rw [List.mem_singleton] at hb'; subst hb'; exact fun z => nin (by rw [← z]; exact hb)⟩
              · by_cases hj : j < m.length
                · rw [List.getElem?_append_left (by omega)] at z1 z2
                  exact Mc.free j mo b z1 z2 z3
                · rw [List.getElem?_append_right (by omega)] at z2
                  have hm := List.mem_of_getElem? z2
                  rw [List.mem_singleton] at hm; subst hm; exact hi
              · by_cases hj : j < m.length
                · rw [List.getElem?_append_left (by omega)] at z1 z2
                  exact Mc.obj j mo b z1 z2
                · rw [List.getElem?_append_right (by omega)] at z1 z2
                  rw [lm] at z1
                  rw [lc] at z2
                  have ej : j - m.length = 0 := by
                    cases e : j - m.length with
                    | zero => rfl
                    | succ n => rw [e] at z1; simp at z1
                  rw [ej] at z1 z2
                  simp at z1 z2
                  subst z1 z2
                  exact ⟨us, q1, q2⟩
        · exact g.elim
  unfold fnOf at g
  split at g
  case isFalse => exact g.elim
  cases e : b (ws.map some ++ List.replicate (n - ws.length) none) m with
  | nx ρ' m' => rw [e] at g; exact fun Hi' ι' σ' H' s R' => lv g s R'.mok (v := .non) (w := .d .non) .non
  | rt w m' => rw [e] at g; exact fun Hi' ι' v H' s M' rv => lv g s M' rv
  | xc c ns xs ρ' m' =>
    rw [e] at g
    exact fun Hi' ι' σ' H' C dx fs s R' => g Hi' (ι'.take m.length) H' C dx fs (cutS s) (R'.mok.cut m.length)
  | bk ρ' m' => rw [e] at g; exact g.elim
  | ct ρ' m' => rw [e] at g; exact g.elim
  | bad => rw [e] at g; exact g.elim
/-- THE RULE for a def -/
theorem fun_ok {x qual : Str} {st : Stmt} {f : Addr} {fd : FuncData} {N ps : List Str} {k n np : Nat} {mu : Bool} {b : Ex} (F : Fun K x qual st f fd) (S : FnScope N ps (defScope st)) (hn : N.length = n) (hp : ps.length = np)
    (hbody : ∀ (cdv : Value) (A : Around) (outer : List PySem.Env) (s : Shared) (H : Hp) (E : XK), Room k (A.deeper (envOfC qual (defScope st) s.heap.objs.size f cdv)) →
      PSs (cxOf (L2.CX P w) P w K mg base N qual (defScope st) f cdv A outer s H E) (defBody st) (tDS K mg (fun c d _ H' => E c d H') b)) : FnOk P w K mg base (L2.CX P w) (k + 1) f fd ps (spN K mg (fnOf mu np n b)) := by
  refine F.okX S (fun vs H Q E h => ?_) fun cdv A outer s H vs Q E hr h => ?_
  · obtain ⟨Hi, ι, ws, m, _, r, g⟩ := h
    unfold fnOf at g
    split at g
    · rename_i hl
      rw [r.length, hl, hp]
    · exact g.elim
  · obtain ⟨Hi, ι, ws, m, M, r, g⟩ := h
    exact ⟨_, hbody cdv A outer s H E hr, body_imp hn M r g⟩
/-- a promise by positional values, from one by bound ones -/
theorem fnR_of {CX : CXT} {k : Nat} {f : Addr} {fd : FuncData} {ps : List Str} {sp : Sp} {ds : List Value} {dvs : List V} (F : FnOk P w K mg base CX k f fd ps sp) (hb : Binds K fd ps ds) (hd : Vals dvs ds) : FnR P w K mg base CX k f (fun vs H Q E => sp (vs ++ dvs) H Q E) :=
  fun A outer s H us vs Q E hr e0 r h => by
    have r2 : Vals (vs ++ dvs) (us ++ ds) := r.append hd
    have hl : (us ++ ds).length = ps.length := by rw [← r2.length]; exact F.len _ _ _ _ h
    exact F.run A outer s H ⟨us, []⟩ (us ++ ds) (vs ++ dvs) Q E hr e0 (hb s us (e0.mod.kin.keeps fun b o e => (e0.bs b o e).1) hl) r2 h
/-- a def of the module, as its callers see it -/
structure DefOk (P : Program) (w : World) (K : PySem.W.Frag) (mg : Str → Option Value) (base : Heap) (x : Str) (k : Nat) (g : Fn) : Prop where
  ex : ∃ f, FnR P w K mg base (L2.CX P w) k f (spN K mg g) ∧ mg x = some (.ref f) ∧ PySem.W.keepIn K (.ref f) = true
/-- where a def of the text stands -/
structure TopDef (K : PySem.W.Frag) (mg : Str → Option Value) (x : Str) (st : Stmt) : Prop where
  ex : ∃ f fd, Fun K x x st f fd ∧ mg x = some (.ref f)
theorem def_ok {x : Str} {st : Stmt} {N ps : List Str} {k n np : Nat} {b : Ex} (mu : Bool) (T : TopDef K mg x st) (S : FnScope N ps (defScope st)) (hn : N.length = n) (hp : ps.length = np)
    (hb : ∀ (kV doc pm : Value) (an : Option Addr) (cdv ct : Value) (us : List Value), us.length = ps.length → bindArgs (PySem.W.fnOf x x (defArgs st) (defBody st) (defScope st) .none kV doc pm an cdv ct) ⟨us, []⟩ = pure (ps.zip us))
    (hbody : ∀ (f : Addr) (cdv : Value) (A : Around) (outer : List PySem.Env) (s : Shared) (H : Hp) (E : XK),
      Cc (cxOf (L2.CX P w) P w K mg base N x (defScope st) f cdv A outer s H E) (fun c d _ H' => E c d H') k →
      PSs (cxOf (L2.CX P w) P w K mg base N x (defScope st) f cdv A outer s H E) (defBody st) (tDS K mg (fun c d _ H' => E c d H') b)) : DefOk P w K mg base x (k + 1) (fnOf mu np n b) := by
  obtain ⟨f, fd, F, hm⟩ := T.ex
  have z := fnR_of (fun_ok (P := P) (w := w) (base := base) (mg := mg) (mu := mu) F S hn hp fun cdv A outer s H E hr => hbody f cdv A outer s H E ⟨takes_of rfl rfl rfl rfl, passes_of rfl, S.nd, rfl, hr⟩) (F.binds hb) .nil
  simp only [List.append_nil] at z
  exact ⟨f, z, hm, F.kp⟩
/-- def f(a, .., *v) -/
theorem def_star {x pv : Str} {st : Stmt} {N ps : List Str} {k n np : Nat} {b : Ex} (mu : Bool) (T : TopDef K mg x st) (S : FnScope N (ps ++ [pv]) (defScope st)) (hn : N.length = n) (hp : ps.length = np)
    (hb : ∀ (kV doc pm : Value) (an : Option Addr) (cdv ct : Value) (us rest : List Value), us.length = ps.length → bindArgs (PySem.W.fnOf x x (defArgs st) (defBody st) (defScope st) .none kV doc pm an cdv ct) ⟨us ++ rest, []⟩ = (newTuple rest >>= fun t => pure (ps.zip us ++ [(pv, t)])))
    (hbody : ∀ (f : Addr) (cdv : Value) (A : Around) (outer : List PySem.Env) (s : Shared) (H : Hp) (E : XK),
      Cc (cxOf (L2.CX P w) P w K mg base N x (defScope st) f cdv A outer s H E) (fun c d _ H' => E c d H') k →
      PSs (cxOf (L2.CX P w) P w K mg base N x (defScope st) f cdv A outer s H E) (defBody st) (tDS K mg (fun c d _ H' => E c d H') b)) : DefOk P w K mg base x (k + 1) (fnStar np (fnOf mu (np + 1) n b)) := by
  obtain ⟨f, fd, F, hm⟩ := T.ex
  obtain ⟨oc, od, kV, doc, pm, an, cdv, ct, osl, rfl, lk, hcd⟩ := F.ex
  have z := StX.fn_star (P := P) (w := w) (base := base) (mg := mg) (CX := L2.CX P w) (k := k) (sp := spN K mg (fnOf mu (np + 1) n b)) lk hcd S StX.cxUp (hb kV doc pm an cdv ct) (fun A outer s H vs Q E hr h => by
    obtain ⟨Hi, ι, ws, m, M, r, g⟩ := h
    exact ⟨_, hbody f cdv A outer s H E ⟨takes_of rfl rfl rfl rfl, passes_of rfl, S.nd, rfl, hr⟩, body_imp hn M r g⟩)
  refine ⟨f, z.imp fun vs H Q E h => ?_, hm, F.kp⟩
  obtain ⟨Hi, ι, ws, m, M, r, g⟩ := h
  unfold fnStar at g
  split at g
  case isFalse => exact g.elim
  rename_i hle
  split at g
  case h_2 => exact g.elim
  rename_i xs hx
  split at g
  case isFalse => exact g.elim
  rename_i hl
  have hlen := r.length
  have r1 : RepWs K mg Hi ι (vs.take np) (ws.take np) := r.take np
  have r2 : RepWs K mg Hi ι (vs.drop np) (ws.drop np) := r.drop np
  have rl := r2.dats hx
  refine ⟨vs.take np, vs.drop np, (List.take_append_drop _ _).symm, by rw [List.length_take]; omega, sz5 (by rw [rl.length]; exact hl), fun p hp => ?_⟩
  obtain ⟨M2, st2⟩ := M.newD (o := .tup (vs.drop np)) hp
  have app : ∀ {as bs : List V} {cs ds : List W}, RepWs K mg (upd Hi p (.tup (vs.drop np))) ι as cs → RepWs K mg (upd Hi p (.tup (vs.drop np))) ι bs ds → RepWs K mg (upd Hi p (.tup (vs.drop np))) ι (as ++ bs) (cs ++ ds) := by
    intro as bs cs ds h1 h2
    induction h1 with
    | nil => exact h2
    | cons a b ih => exact .cons a ih
  have rt : RepW K mg (upd Hi p (.tup (vs.drop np))) ι (.ref p) (.d (.tup xs)) := Rep.tup (.inl (.inl upd_same)) (rl.mono st2.imm)
  exact ⟨_, ι, _, m, M2, app (r1.step st2) (.cons rt .nil), g.step st2⟩
end
section
variable {X : Cx} {Wx : WX} {kk j : Nat} {g : Fn} {x : Str} {p pos : Pos} {e : Expr} {es : List Expr} {a : EvL}
theorem run_fnRS {CX : CXT} {k : Nat} {f : Addr} {sp : Sp} {E : XK} {Q : VK} {us : List Value} {vs : List V} {pins : List (Addr × Obj)} {σ : L2.St} {H : Hp} {s : Shared} (F : FnR X.prog X.w X.K X.mg X.base CX k f sp) (hr : Room k X.A) (hx : PassesAt CX X σ E) (I : Inv X pins σ H s) (r : Vals vs us) (h : sp vs H Q E) :
    codeAny (model X.prog X.w) X.A (.call (.ref f) ⟨us, []⟩) (fun r s' => match r with | .ok (.ret v) => EP X pins σ Q v s' | .ok _ => False | .error e => X.xe e s') s := by
  refine codeAny_mono (F X.A X.stack s H us vs Q E hr I.env0 r h) fun r s' hq => ?_
  cases r with
  | error e => exact hx pins H s e s' I hq
  | ok fl =>
    cases fl with
    | ret u => exact I.after hq
    | next => exact False.elim hq
    | brk => exact False.elim hq
    | cont => exact False.elim hq
theorem call_imp {σ : L2.St} {H : Hp} {Q : VK} (t : tD X.K X.mg Wx (fCall g a) σ H Q) : tCallS (spN X.K X.mg g) (WE Wx) (tDA X.K X.mg Wx a) σ H Q := by
  obtain ⟨Hi, ι, ρ, m, RR, gd⟩ := t
  refine ⟨Hi, ι, ρ, m, RR, good_bind gd fun ws m1 Hi1 ι1 vs H1 st M rv g1 => ⟨Hi1, ι1, ws, m1, M, rv, g1⟩⟩
theorem pd_call (c : Cc X Wx kk) (F : DefOk X.prog X.w X.K X.mg X.base x j g) (hj : j ≤ kk) (hg : Gl X x) (ha : PA X (e :: es) (tDA X.K X.mg Wx a)) (hdb : (x == ("__debug__" : Str)) = false := by decide)
    (he : starEach (e :: es) X.env = (false, eval e X.env) :: starEach es X.env := by rfl) (hpl : (backTo pos (starEach es X.env)).any (·.1) = false := by rfl) : PE X (.Call (.Name x p) (e :: es) [] pos) (tD X.K X.mg Wx (fCall g a)) := by
  obtain ⟨f, F, hm, hk⟩ := F.ex
  refine ⟨fun pins s σ H Q I h => ?_⟩
  refine wpAny_Call_Name_kw (ld_glob I hg hm ?_ hdb)
  refine PySem.W.callWith_K (h₀ := X.base) I.ok.mod.kin hk (thn (ha.run pos pins s σ H _ I (call_imp h)) fun us s1 ⟨vs, H1, I1, r, q⟩ => ⟨I1.kIn, ?_⟩) he hpl
  exact wpAny_call (run_fnRS F (c.room.mono hj) (passAt c.tk σ) I1 r q)
theorem pd_call0 (c : Cc X Wx kk) (F : DefOk X.prog X.w X.K X.mg X.base x j g) (hj : j ≤ kk) (hg : Gl X x) (hdb : (x == ("__debug__" : Str)) = false := by decide) : PE X (.Call (.Name x p) [] [] pos) (tD X.K X.mg Wx (fCall g fNil)) := by
  obtain ⟨f, F, hm, hk⟩ := F.ex
  refine ⟨fun pins s σ H Q I h => ?_⟩
  refine wpAny_Call_Name_kw (ld_glob I hg hm ?_ hdb)
  obtain ⟨Hi, ι, ρ, m, RR, gd⟩ := h
  exact PySem.W.callWith_K0 I.kIn hk (wpAny_call (run_fnRS F (c.room.mono hj) (passAt c.tk σ) I .nil ⟨Hi, ι, [], m, RR.mok, .nil, gd⟩))
/-- *e among arguments -/
theorem RepWs.append {K : PySem.W.Frag} {mg : Str → Option Value} {Hi : Hp} {ι : List Addr} : ∀ {as bs : List V} {cs ds : List W}, RepWs K mg Hi ι as cs → RepWs K mg Hi ι bs ds → RepWs K mg Hi ι (as ++ bs) (cs ++ ds)
  | _, _, _, _, .nil, h => h
  | _, _, _, _, .cons a b, h => .cons a (RepWs.append b h)
theorem pad_star {f : Ev} {q : Pos} (he : PE X e (tD X.K X.mg Wx f)) (hr : PA X es (tDA X.K X.mg Wx a)) (hs : starEach (.Starred e q :: es) X.env = (true, eval e X.env) :: starEach es X.env := by rfl) : PA X (.Starred e q :: es) (tDA X.K X.mg Wx (fStar f a)) :=
  PA.imp (StX.pa_star he hr hs) fun σ H Q t => by
    obtain ⟨Hi, ι, ρ, m, RR, gd⟩ := t
    refine ⟨Hi, ι, ρ, m, RR, good_bind gd fun w m1 Hi1 ι1 v H1 st M rv g1 => ?_⟩
    split at g1
    · cases rv with
      | tup s r => exact ⟨_, _, rfl, .inl (sqT_mono M.sub s), Hi1, ι1, ρ, m1, RR.step st M, good_bind g1 fun ws m2 Hi2 ι2 vs H2 st2 M2 rvs g2 => g2.here M2 (RepWs.append (r.ws.step st2) rvs)⟩
    · cases rv with
      | lst s r => exact ⟨_, _, rfl, .inr (.inl (.inl (M.sub _ _ s))), Hi1, ι1, ρ, m1, RR.step st M, good_bind g1 fun ws m2 Hi2 ι2 vs H2 st2 M2 rvs g2 => g2.here M2 (RepWs.append (r.ws.step st2) rvs)⟩
    · exact g1.elim
end
/-- within a comprehension -/
theorem Cc.blk {X : Cx} {Wx : WX} {kk : Nat} (c : Cc X Wx kk) (s : Shared) (H : Hp) (scope : Scope) (cenv : PySem.Env) (fp : List Addr) : Cc (X.blk s H scope cenv fp) W0 kk := ⟨takes0, PassesOwn.never, c.nd, c.calm, c.room⟩
end GD

/-! GD5: operations. -/
namespace GD
open PySem PySem.Spec PyProof.Rows L2

/-- no number greater than this is multiplied or divided by -/
def BIG : Nat := 2 ^ 3000
@[irreducible] def small (i : Int) : Bool := decide (i.natAbs < BIG)
theorem small_log {i : Int} (h : small i = true) : i.natAbs.log2 < 9000 := by
  unfold small BIG at h
  have h1 : i.natAbs < 2 ^ 3000 := of_decide_eq_true h
  have := PySem.Flt.log2_lt_of (show 0 < 3000 by decide) h1
  omega
/-- the items of a list, changeable or not -/
def lstOf : W → Mem → Option (List D)
  | .d (.lst xs), _ => some xs
  | .m k, m => match m[k]? with
    | some (.lst xs) => some xs
    | _ => none
  | _, _ => none
/-- the data that a value stands for now -/
def datOf : W → Mem → Option D
  | .d x, _ => some x
  | .m k, m => match m[k]? with
    | some (.lst xs) => some (.lst xs)
    | _ => none
section
variable {K : PySem.W.Frag} {mg : Str → Option Value} {Hi H : Hp} {ι : List Addr} {m : Mem}
theorem Mok.get (M : Mok K mg Hi ι m H) {k : Nat} {mo : MO} {v : V} (h : m[k]? = some mo) (r : RepW K mg Hi ι v (.m k)) : ∃ a, v = .ref a ∧ ι[k]? = some a ∧ RepO K mg Hi H a mo := by
  obtain ⟨a, h1, h2⟩ := r
  exact ⟨a, h2, h1, M.obj k mo a h h1⟩
theorem lstOf_rep (M : Mok K mg Hi ι m H) {w : W} {v : V} {xs : List D} (h : lstOf w m = some xs) (r : RepW K mg Hi ι v w) : ∃ a vs, v = .ref a ∧ H a = some (.lst vs) ∧ RepL K mg Hi vs xs := by
  unfold lstOf at h
  split at h
  · cases h
    cases r with
    | lst s r => exact ⟨_, _, rfl, M.sub _ _ s, r⟩
  · split at h
    · rename_i e
      cases h
      obtain ⟨a, rfl, h1, vs, h2, h3⟩ := M.get e r
      exact ⟨a, vs, rfl, h2, h3⟩
    · cases h
  · cases h
theorem datOf_rep (M : Mok K mg Hi ι m H) {w : W} {v : V} {x : D} (h : datOf w m = some x) (r : RepW K mg Hi ι v w) : Rep K mg H v x := by
  unfold datOf at h
  split at h
  · cases h
    exact Rep.mono M.sub r
  · split at h
    · rename_i e
      cases h
      obtain ⟨a, rfl, h1, vs, h2, h3⟩ := M.get e r
      exact .lst h2 (h3.mono M.sub)
    · cases h
theorem RepL.ints_ : ∀ {vs : List V} {ns : List Int}, RepL K mg H vs (ns.map .int) → vs = ns.map V.int
  | _, [], h => by cases h; rfl
  | _, n :: ns, h => by
    cases h with
    | cons a b =>
      cases a
      rw [RepL.ints_ b]
      rfl
theorem RepL.bools_ : ∀ {vs : List V} {ns : List Bool}, RepL K mg H vs (ns.map .bl) → vs = ns.map V.bl
  | _, [], h => by cases h; rfl
  | _, n :: ns, h => by
    cases h with
    | cons a b =>
      cases a
      rw [RepL.bools_ b]
      rfl
theorem RepL.strs : ∀ {vs : List V} {ns : List Str}, RepL K mg H vs (ns.map .str) → vs = ns.map V.str
  | _, [], h => by cases h; rfl
  | _, n :: ns, h => by
    cases h with
    | cons a b =>
      cases a
      rw [RepL.strs b]
      rfl
theorem RepL.drop : ∀ {vs : List V} {ds : List D} (n : Nat), RepL K mg H vs ds → RepL K mg H (vs.drop n) (ds.drop n)
  | _, _, 0, r => r
  | _, _, _ + 1, .nil => .nil
  | _, _, n + 1, .cons _ t => RepL.drop n t
theorem RepL.take : ∀ {vs : List V} {ds : List D} (n : Nat), RepL K mg H vs ds → RepL K mg H (vs.take n) (ds.take n)
  | _, _, 0, _ => .nil
  | _, _, _ + 1, .nil => .nil
  | _, _, n + 1, .cons r t => .cons r (RepL.take n t)
theorem RepL.set {v : V} {d : D} (r : Rep K mg H v d) : ∀ {vs : List V} {ds : List D} (i : Nat), RepL K mg H vs ds → RepL K mg H (vs.set i v) (ds.set i d)
  | _, _, _, .nil => .nil
  | _, _, 0, .cons _ t => .cons r t
  | _, _, i + 1, .cons q t => .cons q (RepL.set r i t)
end
/-- a list's numbers, truth values, texts -/
def intsD : List D → Option (List Int)
  | [] => some []
  | .int i :: r => (intsD r).map (i :: ·)
  | _ => none
theorem ints_eq : ∀ {xs : List D} {ns : List Int}, intsD xs = some ns → xs = ns.map .int
  | [], ns, h => by simp [intsD] at h; subst h; rfl
  | .int i :: r, ns, h => by
    simp only [intsD, Option.map_eq_some_iff] at h
    obtain ⟨l, h1, h2⟩ := h
    subst h2
    rw [ints_eq h1]
    rfl
  | .non :: _, _, h | .bl _ :: _, _, h | .str _ :: _, _, h | .tup _ :: _, _, h | .lst _ :: _, _, h | .fls _ :: _, _, h | .obj _ _ _ :: _, _, h | .gl _ :: _, _, h | .ty _ :: _, _, h => by simp [intsD] at h
def boolsD : List D → Option (List Bool)
  | [] => some []
  | .bl i :: r => (boolsD r).map (i :: ·)
  | _ => none
theorem bools_eq : ∀ {xs : List D} {ns : List Bool}, boolsD xs = some ns → xs = ns.map .bl
  | [], ns, h => by simp [boolsD] at h; subst h; rfl
  | .bl i :: r, ns, h => by
    simp only [boolsD, Option.map_eq_some_iff] at h
    obtain ⟨l, h1, h2⟩ := h
    subst h2
    rw [bools_eq h1]
    rfl
  | .non :: _, _, h | .int _ :: _, _, h | .str _ :: _, _, h | .tup _ :: _, _, h | .lst _ :: _, _, h | .fls _ :: _, _, h | .obj _ _ _ :: _, _, h | .gl _ :: _, _, h | .ty _ :: _, _, h => by simp [boolsD] at h

/-! ### arithmetic -/
def oAdd : O2 := fun a b m => match a, b with
  | .d (.int i), .d (.int j) => .ok (.d (.int (i + j))) m
  | .d (.str x), .d (.str y) => if x.length + y.length ≤ 100000 then .ok (.d (.str (x ++ y))) m else .bad
  | .d (.tup xs), .d (.tup ys) => if xs.length + ys.length ≤ 100000 then .ok (.d (.tup (xs ++ ys))) m else .bad
  | a, b => match lstOf a m, lstOf b m with
    | some xs, some ys => if xs.length + ys.length ≤ 100000 then .ok (.d (.lst (xs ++ ys))) m else .bad
    | _, _ => .bad
def rAddU (K : PySem.W.Frag) : R2 := fun x y H Q => (rI0 fun i j => .int (i + j)) x y H Q ∨ ((fun x y H Q => ∃ i j, x = .str i ∧ y = .str j ∧ i.length + j.length ≤ sizeLine ∧ Q (.str (i ++ j)) H) x y H Q ∨ (rCatA K x y H Q ∨ rCat x y H Q))
theorem op_addU {X : Cx} : OpR X (binaryOp .Add) (rAddU X.K) := OpR.or op_add (OpR.or op_add_str (OpR.or op_catA op_cat))
theorem s_add {K : PySem.W.Frag} {mg : Str → Option Value} : S2 K mg (rAddU K) oAdd := by
  intro Wx σ Hi ι m H x y a b Q M rx ry g
  unfold oAdd at g
  split at g
  · cases rx; cases ry; exact .inl ⟨_, _, rfl, rfl, g.here (rep := RepW K mg) M (.int _)⟩
  · split at g
    · rename_i hl
      cases rx; cases ry; exact .inr (.inl ⟨_, _, rfl, rfl, sz5 hl, g.here (rep := RepW K mg) M (.str _)⟩)
    · exact g.elim
  · split at g
    · rename_i xs ys hl
      cases rx with
      | tup s1 r1 =>
        cases ry with
        | tup s2 r2 =>
          rename_i a1 v1 a2 v2
          refine .inr (.inr (.inl ⟨a1, a2, v1, v2, rfl, rfl, sqT_mono M.sub s1, sqT_mono M.sub s2, sz5 (by rw [r1.length, r2.length]; exact hl), fun e => ?_, fun e1 e2 => ?_, fun e1 e2 p hp => ?_⟩))
          · subst e
            cases r1
            exact g _ _ _ _ Step.refl M (.tup s2 r2)
          · subst e2
            cases r2
            rw [List.append_nil] at g
            exact g _ _ _ _ Step.refl M (.tup s1 r1)
          · obtain ⟨M2, st2⟩ := M.newD (o := .tup (v1 ++ v2)) hp
            exact g _ _ _ _ st2 M2 (.tup (.inl (.inl upd_same)) ((r1.append r2).mono st2.imm))
    · exact g.elim
  · split at g
    · rename_i xs ys h1 h2
      split at g
      · rename_i hl
        obtain ⟨a1, v1, rfl, q1, r1⟩ := lstOf_rep M h1 rx
        obtain ⟨a2, v2, rfl, q2, r2⟩ := lstOf_rep M h2 ry
        refine .inr (.inr (.inr ⟨a1, a2, v1, v2, rfl, rfl, q1, q2, sz5 (by rw [r1.length, r2.length]; exact hl), fun p hp => ?_⟩))
        obtain ⟨M2, st2⟩ := M.newD (o := .lst (v1 ++ v2)) hp
        exact g _ _ _ _ st2 M2 (.lst upd_same ((r1.append r2).mono st2.imm))
      · exact g.elim
    · exact g.elim
def oSub : O2 := fun a b m => match a, b with
  | .d (.int i), .d (.int j) => .ok (.d (.int (i - j))) m
  | _, _ => .bad
theorem s_int0 {K : PySem.W.Frag} {mg : Str → Option Value} {f : Int → Int → Int} : S2 K mg (rI0 fun i j => .int (f i j)) (fun a b m => match a, b with
  | .d (.int i), .d (.int j) => .ok (.d (.int (f i j))) m
  | _, _ => .bad) := by
  intro Wx σ Hi ι m H x y a b Q M rx ry g
  dsimp only at g
  split at g
  · cases rx; cases ry; exact ⟨_, _, rfl, rfl, g.here (rep := RepW K mg) M (.int _)⟩
  · exact g.elim
theorem s_sub {K : PySem.W.Frag} {mg : Str → Option Value} : S2 K mg (rI0 fun i j => .int (i - j)) oSub := s_int0
theorem s_boo0 {K : PySem.W.Frag} {mg : Str → Option Value} {f : Int → Int → Bool} : S2 K mg (rI0 fun i j => .bl (f i j)) (fun a b m => match a, b with
  | .d (.int i), .d (.int j) => .ok (.d (.bl (f i j))) m
  | _, _ => .bad) := by
  intro Wx σ Hi ι m H x y a b Q M rx ry g
  dsimp only at g
  split at g
  · cases rx; cases ry; exact ⟨_, _, rfl, rfl, g.here (rep := RepW K mg) M (.bl _)⟩
  · exact g.elim
def oLt : O2 := fun a b m => match a, b with
  | .d (.int i), .d (.int j) => .ok (.d (.bl (decide (i < j)))) m
  | _, _ => .bad
def oLe : O2 := fun a b m => match a, b with
  | .d (.int i), .d (.int j) => .ok (.d (.bl (decide (i ≤ j)))) m
  | _, _ => .bad
def oGt : O2 := fun a b m => match a, b with
  | .d (.int i), .d (.int j) => .ok (.d (.bl (decide (j < i)))) m
  | _, _ => .bad
def oGe : O2 := fun a b m => match a, b with
  | .d (.int i), .d (.int j) => .ok (.d (.bl (decide (j ≤ i)))) m
  | _, _ => .bad
theorem s_lt {K : PySem.W.Frag} {mg : Str → Option Value} : S2 K mg (rI0 fun i j => .bl (decide (i < j))) oLt := s_boo0
theorem s_le {K : PySem.W.Frag} {mg : Str → Option Value} : S2 K mg (rI0 fun i j => .bl (decide (i ≤ j))) oLe := s_boo0
theorem s_gt {K : PySem.W.Frag} {mg : Str → Option Value} : S2 K mg (rI0 fun i j => .bl (decide (j < i))) oGt := s_boo0
theorem s_ge {K : PySem.W.Frag} {mg : Str → Option Value} : S2 K mg (rI0 fun i j => .bl (decide (j ≤ i))) oGe := s_boo0
def oMul : O2 := fun a b m => match a, b with
  | .d (.int i), .d (.int j) => if small i && small j then .ok (.d (.int (i * j))) m else .bad
  | a, .d (.int j) => match lstOf a m with
    | some xs => if 0 ≤ j ∧ j ≤ 100000 ∧ xs.length * j.toNat ≤ 100000 then .ok (.d (.lst (List.replicate j.toNat xs).flatten)) m else .bad
    | none => .bad
  | _, _ => .bad
theorem rep_flat {K : PySem.W.Frag} {mg : Str → Option Value} {H : Hp} {vs : List V} {ds : List D} (r : RepL K mg H vs ds) : ∀ n : Nat, RepL K mg H (List.replicate n vs).flatten (List.replicate n ds).flatten
  | 0 => .nil
  | n + 1 => by
    rw [List.replicate_succ, List.replicate_succ, List.flatten_cons, List.flatten_cons]
    exact r.append (rep_flat r n)
theorem s_mul {X : Cx} : S2 X.K X.mg (fun x y H Q => (rI CMulW fun i j => .int (i * j)) x y H Q ∨ rRep x y H Q) oMul := by
  intro Wx σ Hi ι m H x y a b Q M rx ry g
  unfold oMul at g
  split at g
  · split at g
    · rename_i i j hs
      rw [Bool.and_eq_true] at hs
      have h1 := small_log hs.1
      have h2 := small_log hs.2
      cases rx; cases ry; exact .inl ⟨_, _, rfl, rfl, by show _ + _ < _; omega, g.here (rep := RepW X.K X.mg) M (.int _)⟩
    · exact g.elim
  · rename_i j _
    split at g
    · rename_i xs e
      split at g
      · rename_i hj
        obtain ⟨a1, v1, rfl, q1, r1⟩ := lstOf_rep M e rx
        cases ry
        refine .inr ⟨a1, j, v1, rfl, rfl, q1, by omega, by omega, sz5 (by rw [r1.length]; exact hj.2.2), fun p hp => ?_⟩
        obtain ⟨M2, st2⟩ := M.newD (o := .lst (List.replicate j.toNat v1).flatten) hp
        exact g _ _ _ _ st2 M2 (.lst upd_same ((rep_flat r1 _).mono st2.imm))
      · exact g.elim
    · exact g.elim
  · exact g.elim

theorem op_mulU {X : Cx} : OpR X (binaryOp .Mult) (fun x y H Q => (rI CMulW fun i j => .int (i * j)) x y H Q ∨ rRep x y H Q) := OpR.or op_mulW op_rep
def oDiv : O2 := fun a b m => match a, b with
  | .d (.int i), .d (.int j) => if decide (0 < j) && small j then .ok (.d (.int (i / j))) m else .bad
  | _, _ => .bad
theorem s_div {K : PySem.W.Frag} {mg : Str → Option Value} : S2 K mg (rI CDivW fun i j => .int (i / j)) oDiv := by
  intro Wx σ Hi ι m H x y a b Q M rx ry g
  unfold oDiv at g
  split at g
  · split at g
    · rename_i i j hs
      rw [Bool.and_eq_true] at hs
      cases rx; cases ry; exact ⟨_, _, rfl, rfl, ⟨of_decide_eq_true hs.1, small_log hs.2⟩, g.here (rep := RepW K mg) M (.int _)⟩
    · exact g.elim
  · exact g.elim
def oMod : O2 := fun a b m => match a, b with
  | .d (.int i), .d (.int j) => if 0 < j then .ok (.d (.int (i % j))) m else .bad
  | _, _ => .bad
theorem s_mod {K : PySem.W.Frag} {mg : Str → Option Value} : S2 K mg (rI (fun _ j => 0 < j) fun i j => .int (i % j)) oMod := by
  intro Wx σ Hi ι m H x y a b Q M rx ry g
  unfold oMod at g
  split at g
  · split at g
    · rename_i i j hs
      cases rx; cases ry; exact ⟨_, _, rfl, rfl, hs, g.here (rep := RepW K mg) M (.int _)⟩
    · exact g.elim
  · exact g.elim
def oPow : O2 := fun a b m => match a, b with
  | .d (.int i), .d (.int j) => if (decide (0 ≤ j) && decide (j ≤ 1000)) && small i then .ok (.d (.int (i ^ j.toNat))) m else .bad
  | _, _ => .bad
def CPowW (i j : Int) : Prop := 0 ≤ j ∧ (Builtin.Int.intBits i : Int) * j ≤ 2 ^ 27
theorem op_powW {X : Cx} : OpR X (binaryOp .Pow) (rI CPowW fun i j => .int (i ^ j.toNat)) := opI fun _ _ _ _ _ _ _ hc q => pow_int hc.1 hc.2 q
theorem s_pow {K : PySem.W.Frag} {mg : Str → Option Value} : S2 K mg (rI CPowW fun i j => .int (i ^ j.toNat)) oPow := by
  intro Wx σ Hi ι m H x y a b Q M rx ry g
  unfold oPow at g
  split at g
  · split at g
    · rename_i i j hs
      rw [Bool.and_eq_true, Bool.and_eq_true] at hs
      have h1 := of_decide_eq_true hs.1.1
      have h2 := of_decide_eq_true hs.1.2
      have h3 := small_log hs.2
      have h4 : Builtin.Int.intBits i ≤ 9000 := by
        unfold Builtin.Int.intBits
        split <;> omega
      have h5 : (Builtin.Int.intBits i : Int) * j ≤ 9000 * 1000 := Int.mul_le_mul (by omega) h2 h1 (by omega)
      cases rx; cases ry; exact ⟨_, _, rfl, rfl, ⟨h1, by omega⟩, g.here (rep := RepW K mg) M (.int _)⟩
    · exact g.elim
  · exact g.elim
def oNeg : O1 := fun a m => match a with
  | .d (.int i) => .ok (.d (.int (-i))) m
  | _ => .bad
theorem s_neg {K : PySem.W.Frag} {mg : Str → Option Value} : S1 K mg (rU fun i => .int (-i)) oNeg := by
  intro Wx σ Hi ι m H x a Q M rx g
  unfold oNeg at g
  split at g
  · cases rx; exact ⟨_, rfl, g.here (rep := RepW K mg) M (.int _)⟩
  · exact g.elim

/-! ### equality -/
def eqD (x y : D) : Option Bool := match x, y with
  | .int i, .int j => some (decide (i = j))
  | .str i, .str j => some (decide (i = j))
  | .bl i, .bl j => some (decide (i = j))
  | .non, .non => some true
  | .int _, .str _ => some false
  | .str _, .int _ => some false
  | .int _, .non => some false
  | .non, .int _ => some false
  | .str _, .non => some false
  | .non, .str _ => some false
  | x, y => match x.py, y.py with
    | some p, some q => if SeqAt.shaped p && SeqAt.shaped q then some (PyData.eqv p q) else none
    | _, _ => none
def oEq : O2 := fun a b m => match datOf a m, datOf b m with
  | some x, some y => match eqD x y with
    | some c => .ok (.d (.bl c)) m
    | none => .bad
  | _, _ => .bad
def oNe : O2 := fun a b m => match datOf a m, datOf b m with
  | some x, some y => match eqD x y with
    | some c => .ok (.d (.bl (!c))) m
    | none => .bad
  | _, _ => .bad
def rEqU (K : PySem.W.Frag) : R2 := fun x y H Q => rEq x y H Q ∨ rEqD K x y H Q
def rNeU (K : PySem.W.Frag) : R2 := fun x y H Q => rNe x y H Q ∨ rNeD K x y H Q
theorem eqD_rep {K : PySem.W.Frag} {mg : Str → Option Value} {H : Hp} {v u : V} {x y : D} {c : Bool} (h : eqD x y = some c) (rx : Rep K mg H v x) (ry : Rep K mg H u y) :
    (scal v u = true ∧ decide (v = u) = c) ∨ ∃ p q, Dp K H v p ∧ Dp K H u q ∧ SeqAt.shaped p = true ∧ SeqAt.shaped q = true ∧ PyData.eqv p q = c := by
  unfold eqD at h
  split at h
  · cases h; cases rx; cases ry; exact .inl ⟨rfl, by simp⟩
  · cases h; cases rx; cases ry; exact .inl ⟨rfl, by simp⟩
  · cases h; cases rx; cases ry; exact .inl ⟨rfl, by simp⟩
  · cases h; cases rx; cases ry; exact .inl ⟨rfl, by simp⟩
  · cases h; cases rx; cases ry; exact .inl ⟨rfl, by simp⟩
  · cases h; cases rx; cases ry; exact .inl ⟨rfl, by simp⟩
  · cases h; cases rx; cases ry; exact .inl ⟨rfl, by simp⟩
  · cases h; cases rx; cases ry; exact .inl ⟨rfl, by simp⟩
  · cases h; cases rx; cases ry; exact .inl ⟨rfl, by simp⟩
  · cases h; cases rx; cases ry; exact .inl ⟨rfl, by simp⟩
  · split at h
    · rename_i p q hp hq
      split at h
      · rename_i hs
        rw [Bool.and_eq_true] at hs
        cases h
        exact .inr ⟨p, q, rx.dp hp, ry.dp hq, hs.1, hs.2, rfl⟩
      · cases h
    · cases h
theorem s_eq {K : PySem.W.Frag} {mg : Str → Option Value} : S2 K mg (rEqU K) oEq := by
  intro Wx σ Hi ι m H x y a b Q M rx ry g
  unfold oEq at g
  split at g
  · rename_i d e h1 h2
    split at g
    · rename_i c hc
      have q := g.here (rep := RepW K mg) M (x := .bl c) (.bl c)
      rcases eqD_rep hc (datOf_rep M h1 rx) (datOf_rep M h2 ry) with ⟨s, e⟩ | ⟨p, q', z1, z2, z3, z4, e⟩
      · subst e; exact .inl ⟨s, q⟩
      · subst e; exact .inr ⟨p, q', z1, z2, z3, z4, q⟩
    · exact g.elim
  · exact g.elim
theorem s_ne {K : PySem.W.Frag} {mg : Str → Option Value} : S2 K mg (rNeU K) oNe := by
  intro Wx σ Hi ι m H x y a b Q M rx ry g
  unfold oNe at g
  split at g
  · rename_i d e h1 h2
    split at g
    · rename_i c hc
      have q := g.here (rep := RepW K mg) M (x := .bl (!c)) (.bl (!c))
      rcases eqD_rep hc (datOf_rep M h1 rx) (datOf_rep M h2 ry) with ⟨s, e⟩ | ⟨p, q', z1, z2, z3, z4, e⟩
      · subst e; exact .inl ⟨s, q⟩
      · subst e; exact .inr ⟨p, q', z1, z2, z3, z4, q⟩
    · exact g.elim
  · exact g.elim
theorem op_eqU {X : Cx} {k : Nat} (hr : Room k X.A) : OpR X (compareOp .Eq) (rEqU X.K) := OpR.or op_eq (op_eqD hr.units)
theorem op_neU {X : Cx} {k : Nat} (hr : Room k X.A) : OpR X (compareOp .NotEq) (rNeU X.K) := OpR.or op_ne (op_neD hr.units)

/-! ### is -/
def oIs : O2 := fun a b m => match a, b with
  | .d .non, .d .non => .ok (.d (.bl true)) m
  | .d (.int _), .d .non => .ok (.d (.bl false)) m
  | .d (.str _), .d .non => .ok (.d (.bl false)) m
  | .d (.bl _), .d .non => .ok (.d (.bl false)) m
  | .d (.tup _), .d .non => .ok (.d (.bl false)) m
  | .d (.lst _), .d .non => .ok (.d (.bl false)) m
  | .d (.obj _ _ _), .d .non => .ok (.d (.bl false)) m
  | .m _, .d .non => .ok (.d (.bl false)) m
  | .d (.bl x), .d (.bl y) => .ok (.d (.bl (decide (x = y)))) m
  | _, _ => .bad
def rIsU : R2 := fun x y H Q => (fun x y H Q => y = .non ∧ Q (.bl (decide (x = .non))) H) x y H Q ∨ rIsB x y H Q
theorem s_is {K : PySem.W.Frag} {mg : Str → Option Value} : S2 K mg rIsU oIs := by
  intro Wx σ Hi ι m H x y a b Q M rx ry g
  unfold oIs at g
  split at g
  · cases rx; cases ry; exact .inl ⟨rfl, g.here (rep := RepW K mg) M (.bl true)⟩
  · cases rx; cases ry; exact .inl ⟨rfl, g.here (rep := RepW K mg) M (.bl false)⟩
  · cases rx; cases ry; exact .inl ⟨rfl, g.here (rep := RepW K mg) M (.bl false)⟩
  · cases rx; cases ry; exact .inl ⟨rfl, g.here (rep := RepW K mg) M (.bl false)⟩
  · cases rx; cases ry; exact .inl ⟨rfl, g.here (rep := RepW K mg) M (.bl false)⟩
  · cases rx; cases ry; exact .inl ⟨rfl, g.here (rep := RepW K mg) M (.bl false)⟩
  · cases rx; cases ry; exact .inl ⟨rfl, g.here (rep := RepW K mg) M (.bl false)⟩
  · obtain ⟨a1, _, rfl⟩ := rx; cases ry; exact .inl ⟨rfl, g.here (rep := RepW K mg) M (.bl false)⟩
  · cases rx; cases ry; exact .inr ⟨_, _, rfl, rfl, g.here (rep := RepW K mg) M (.bl _)⟩
  · exact g.elim
theorem op_isU {X : Cx} : OpR X (compareOp .Is) rIsU := OpR.or op_isN op_isBl
def oIsNot : O2 := fun a b m => match oIs a b m with
  | .ok (.d (.bl c)) m => .ok (.d (.bl (!c))) m
  | _ => .bad
def rIsNotU : R2 := fun x y H Q => (fun x y H Q => y = .non ∧ Q (.bl (!decide (x = .non))) H) x y H Q ∨ rNotB x y H Q
theorem s_isNot {K : PySem.W.Frag} {mg : Str → Option Value} : S2 K mg rIsNotU oIsNot := by
  intro Wx σ Hi ι m H x y a b Q M rx ry g
  unfold oIsNot at g
  cases e : oIs a b m with
  | bad => rw [e] at g; exact g.elim
  | exc c ns vs m' => rw [e] at g; exact g.elim
  | ok w m' =>
    have z := s_is (K := K) (mg := mg) Wx σ Hi ι m H x y a b (fun v H' => ∀ c, v = .bl c → Q (.bl (!c)) H') M rx ry (by
      rw [e]
      intro Hi' ι' v H' st M' rv c hv
      subst hv
      rw [e] at g
      cases w with
      | m k => exact g.elim
      | d d =>
        cases rv with
        | bl b => exact g _ _ _ _ st M' (.bl _)
        | gl _ _ => exact g.elim)
    rcases z with ⟨z1, z2⟩ | ⟨p, q, z1, z2, z3⟩
    · exact .inl ⟨z1, z2 _ rfl⟩
    · exact .inr ⟨p, q, z1, z2, z3 _ rfl⟩
theorem op_isNotU {X : Cx} : OpR X (compareOp .IsNot) rIsNotU := OpR.or op_notN op_notBl
end GD

/-! GD6: subscripts, slices, stores, built-ins. -/
namespace GD
open PySem PySem.Spec PyProof.Rows L2

/-! ### subscripts -/
theorem atI_rep {K : PySem.W.Frag} {mg : Str → Option Value} {H : Hp} {vs : List V} {ds : List D} {i : Int} {d : D} (r : RepL K mg H vs ds) (h : atI ds i = some d) : ∃ v, atI vs i = some v ∧ Rep K mg H v d := by
  unfold atI at h ⊢
  rw [r.length]
  cases e : ixN ds.length i with
  | none => rw [e] at h; cases h
  | some j =>
    rw [e] at h
    exact r.get h
def oIx : O2 := fun a b m => match a, b with
  | .d (.tup xs), .d (.int i) => match atI xs i with
    | some x => .ok (.d x) m
    | none => .bad
  | .d (.fls xs), .d (.int i) => match atI xs i with
    | some x => .ok (.d x) m
    | none => .bad
  | .d (.str x), .d (.int i) => if x.length ≤ 100000 then match atI x.cps.toList i with
    | some c => .ok (.d (.str ⟨#[c]⟩)) m
    | none => .bad else .bad
  | a, .d (.int i) => match lstOf a m with
    | some xs => match atI xs i with
      | some x => .ok (.d x) m
      | none => .bad
    | none => .bad
  | _, _ => .bad
def rIxU (K : PySem.W.Frag) : R2 := fun x y H Q => rIxL K x y H Q ∨ (rIxT K x y H Q ∨ rIxS x y H Q)
theorem ix_U {X : Cx} : IxR X (rIxU X.K) := IxR.or ix_list (IxR.or ix_tup ix_str)
theorem s_ix {K : PySem.W.Frag} {mg : Str → Option Value} : S2 K mg (rIxU K) oIx := by
  intro Wx σ Hi ι m H x y a b Q M rx ry g
  unfold oIx at g
  split at g
  · split at g
    · rename_i e
      cases ry
      cases rx with
      | tup s r =>
        obtain ⟨v, h1, h2⟩ := atI_rep r e
        exact .inr (.inl ⟨_, _, _, v, rfl, rfl, sqT_mono M.sub s, h1, g _ _ _ _ Step.refl M h2⟩)
    · exact g.elim
  · split at g
    · rename_i e
      cases ry
      cases rx with
      | fls s r =>
        obtain ⟨v, h1, h2⟩ := atI_rep r e
        exact .inl ⟨_, _, _, v, rfl, rfl, sqL_mono M.sub s, h1, g _ _ _ _ Step.refl M h2⟩
    · exact g.elim
  · split at g
    · rename_i hl
      split at g
      · rename_i c e
        cases ry
        cases rx
        exact .inr (.inr ⟨_, _, c, rfl, rfl, sz5 hl, e, g _ _ _ _ Step.refl M (.str _)⟩)
      · exact g.elim
    · exact g.elim
  · split at g
    · rename_i xs e1
      split at g
      · rename_i e
        cases ry
        obtain ⟨a1, v1, rfl, q1, r1⟩ := lstOf_rep M e1 rx
        obtain ⟨v, h1, h2⟩ := atI_rep r1 e
        exact .inl ⟨_, _, _, v, rfl, rfl, .inl (.inl q1), h1, g _ _ _ _ Step.refl M h2⟩
      · exact g.elim
    · exact g.elim
  · exact g.elim
section
variable {X : Cx} {Wx : WX} {kk : Nat}
theorem pd_ix {a b : Expr} {pos : Pos} {fa fb : Ev} (ha : PE X a (tD X.K X.mg Wx fa)) (hb : PE X b (tD X.K X.mg Wx fb)) (hs : PlainIx b) : PE X (.Subscript a b pos) (tD X.K X.mg Wx (fOp oIx fa fb)) :=
  PE.imp (pe_ix ix_U ha hb hs) fun σ H Q t => by
    obtain ⟨Hi, ι, ρ, m, R, g⟩ := t
    exact ⟨Hi, ι, ρ, m, R, good_bind g fun x m1 Hi1 ι1 v H1 st M rv g1 => ⟨Hi1, ι1, ρ, m1, R.step st M, good_bind g1 fun y m2 Hi2 ι2 u H2 st2 M2 ru g2 => s_ix _ _ _ _ _ _ _ _ _ _ _ M2 (rv.step st2) ru g2⟩⟩
end
/-! ### slices -/
def cutD (xs : List D) (lo hi : Option Int) : List D := (xs.drop (HT.sIx xs.length 0 lo)).take (HT.sIx xs.length xs.length hi - HT.sIx xs.length 0 lo)
theorem cut_rep {K : PySem.W.Frag} {mg : Str → Option Value} {H : Hp} {vs : List V} {ds : List D} (r : RepL K mg H vs ds) (lo hi : Option Int) : RepL K mg H (cutV vs lo hi) (cutD ds lo hi) := by
  unfold cutV cutD
  rw [r.length]
  exact (r.drop _).take _
abbrev EvO := Env → Mem → R (Option Int)
def pNone : EvO := fun _ m => .ok none m
def pSome (a : Ev) : EvO := fun ρ m => (a ρ m).bind fun x m => match x with
  | .d (.int i) => .ok (some i) m
  | _ => .bad
def tDO (K : PySem.W.Frag) (mg : Str → Option Value) (Wx : WX) (f : EvO) : TO := fun σ H Q => ∃ Hi ι ρ m, Rel K mg Hi ι ρ m σ H ∧ Good K mg (fun _ _ x a => x = a) Wx σ Hi ι H (f ρ m) Q
/-- mu: the new list may be changed -/
def oSl (mu : Bool) (a : W) (lo hi : Option Int) (m : Mem) : R W := match a with
  | .d (.tup xs) => .ok (.d (.tup (cutD xs lo hi))) m
  | .d (.str x) => if x.length ≤ 100000 then .ok (.d (.str (cutS x lo hi))) m else .bad
  | .d (.fls xs) => if mu then .ok (.m m.length) (m ++ [.lst (cutD xs lo hi)]) else .ok (.d (.lst (cutD xs lo hi))) m
  | a => match lstOf a m with
    | some xs => if mu then .ok (.m m.length) (m ++ [.lst (cutD xs lo hi)]) else .ok (.d (.lst (cutD xs lo hi))) m
    | none => .bad
def fSl (mu : Bool) (a : Ev) (lo hi : EvO) : Ev := fun ρ m => (a ρ m).bind fun x m => (lo ρ m).bind fun l m => (hi ρ m).bind fun h m => oSl mu x l h m
section
variable {X : Cx} {Wx : WX} {kk : Nat}
theorem pod_none : PO X none (tDO X.K X.mg Wx pNone) := ⟨fun pins s σ H Q I h => po_none.run pins s σ H Q I (by
  obtain ⟨Hi, ι, ρ, m, RR, gd⟩ := h
  exact gd.here (rep := fun _ _ x a => x = a) RR.mok rfl)⟩
theorem pod_some {e : Expr} {f : Ev} (h : PE X e (tD X.K X.mg Wx f)) : PO X (some e) (tDO X.K X.mg Wx (pSome f)) := ⟨fun pins s σ H Q I t => (po_some h).run pins s σ H Q I (by
  obtain ⟨Hi, ι, ρ, m, RR, gd⟩ := t
  refine ⟨Hi, ι, ρ, m, RR, good_bind gd fun x m1 Hi1 ι1 v H1 st M rv g1 => ?_⟩
  split at g1
  · cases rv
    exact ⟨_, rfl, g1.here (rep := fun _ _ x a => x = a) M rfl⟩
  · exact g1.elim)⟩
theorem newL {K : PySem.W.Frag} {mg : Str → Option Value} {Hi H : Hp} {ι : List Addr} {m : Mem} {mu : Bool} {xs : List D} {vs : List V} {Q : VK} {σ : L2.St} (M : Mok K mg Hi ι m H) (r : RepL K mg Hi vs xs)
    (g : Good K mg (RepW K mg) Wx σ Hi ι H (if mu then .ok (.m m.length) (m ++ [.lst xs]) else .ok (.d (.lst xs)) m) Q) : ∀ p, H p = none → Q (.ref p) (upd H p (.lst vs)) := fun p hp => by
  cases mu with
  | false =>
    obtain ⟨M2, st2⟩ := M.newD (o := .lst vs) hp
    exact g _ _ _ _ st2 M2 (.lst upd_same (r.mono st2.imm))
  | true =>
    obtain ⟨M2, st2⟩ := M.newM hp r
    exact g _ _ _ _ st2 M2 ⟨p, by rw [← M.len, List.getElem?_append_right (Nat.le_refl _)]; simp, rfl⟩
theorem pd_slice {mu : Bool} {e : Expr} {lo hi : Option Expr} {pos p2 : Pos} {f : Ev} {fl fh : EvO} (he : PE X e (tD X.K X.mg Wx f)) (hl : PO X lo (tDO X.K X.mg Wx fl)) (hu : PO X hi (tDO X.K X.mg Wx fh)) : PE X (.Subscript e (.Slice lo hi none p2) pos) (tD X.K X.mg Wx (fSl mu f fl fh)) :=
  PE.imp (pe_slice (SlR.or sl_list (SlR.or sl_tupA sl_str)) he hl hu) fun σ H Q t => by
    obtain ⟨Hi, ι, ρ, m, RR, gd⟩ := t
    refine ⟨Hi, ι, ρ, m, RR, good_bind gd fun x m1 Hi1 ι1 v H1 st M rv g1 => ⟨Hi1, ι1, ρ, m1, RR.step st M, good_bind g1 fun l m2 Hi2 ι2 l' H2 st2 M2 el g2 => ⟨Hi2, ι2, ρ, m2, (RR.step st M).step st2 M2, good_bind g2 fun h m3 Hi3 ι3 h' H3 st3 M3 eh g3 => ?_⟩⟩⟩
    cases el
    cases eh
    have rv3 := (rv.step st2).step st3
    unfold oSl at g3
    split at g3
    · cases rv3 with
      | tup s r =>
        rename_i a vs
        refine .inr (.inl ⟨a, vs, rfl, sqT_mono M3.sub s, fun hw => ?_, fun _ p hp => ?_⟩)
        · refine g3 _ _ _ _ Step.refl M3 ?_
          have e1 : cutD _ l h = _ := (by unfold cutD; rw [← r.length, hw.1, hw.2] : cutD _ l h = ((_ : List D).drop 0).take (vs.length - 0))
          rw [e1, List.drop_zero, Nat.sub_zero, r.length, List.take_length]
          exact .tup s r
        · obtain ⟨M4, st4⟩ := M3.newD (o := .tup (cutV vs l h)) hp
          exact g3 _ _ _ _ st4 M4 (.tup (.inl (.inl upd_same)) ((cut_rep r l h).mono st4.imm))
    · split at g3
      · rename_i hl
        cases rv3
        exact .inr (.inr ⟨_, rfl, sz5 hl, g3 _ _ _ _ Step.refl M3 (.str _)⟩)
      · exact g3.elim
    · cases rv3 with
      | fls s r => exact .inl ⟨_, _, rfl, sqL_mono M3.sub s, newL M3 (cut_rep r l h) g3⟩
    · split at g3
      · rename_i xs e1
        obtain ⟨a1, v1, rfl, q1, r1⟩ := lstOf_rep M3 e1 rv3
        exact .inl ⟨_, _, rfl, .inl (.inl q1), newL M3 (cut_rep r1 l h) g3⟩
      · exact g3.elim
end
/-! ### stores -/
def tgSub (fo fi : Ev) : Tg := fun w ρ m => (fo ρ m).bind fun o m => (fi ρ m).bind fun i m => match o, i, w with
  | .m k, .d (.int i), .d x => match m[k]? with
    | some (.lst xs) => match ixN xs.length i with
      | some j => .ok ρ (m.set k (.lst (xs.set j x)))
      | none => .bad
    | _ => .bad
  | _, _, _ => .bad
def isBad {α : Type} : R α → Bool
  | .ok _ _ => false
  | _ => true
section
variable {X : Cx} {Wx : WX} {kk : Nat}
theorem pgd_sub {o i : Expr} {pos : Pos} {fo fi : Ev} (ho : PE X o (tD X.K X.mg W0 fo)) (hi : PE X i (tD X.K X.mg W0 fi)) (ha : ∀ v, assign (.Subscript o i pos) X.env v = (do
      let ov ← holding [v] (eval o X.env)
      let iv ← holding [v, ov] (eval i X.env)
      standAt pos
      holding [v, ov, iv] (setItem ov iv v)
      release [v, ov, iv] []) := by intro _; rfl) : PG X (.Subscript o i pos) (tDG X.K X.mg (tgSub fo fi)) := PG.imp (pg_sub ho hi set_list ha) fun v σ H Q t => by
  obtain ⟨Hi, ι, ρ, m, w, RR, rw', gd⟩ := t
  refine ⟨Hi, ι, ρ, m, RR, ?_⟩
  unfold tgSub at gd
  cases e1 : fo ρ m with
  | exc c ns vs m1 => rw [e1] at gd; exact gd.elim
  | bad => rw [e1] at gd; exact gd.elim
  | ok ow m1 =>
    rw [e1, R.bind_ok] at gd
    intro Hi1 ι1 ov H1 st1 M1 ro
    refine ⟨Hi1, ι1, ρ, m1, RR.step st1 M1, ?_⟩
    cases e2 : fi ρ m1 with
    | exc c ns vs m1 => rw [e2] at gd; exact gd.elim
    | bad => rw [e2] at gd; exact gd.elim
    | ok iw m2 =>
      rw [e2, R.bind_ok] at gd
      intro Hi2 ι2 iv H2 st2 M2 ri
      have ro2 := ro.step st2
      have rw2 := (rw'.step st1).step st2
      cases ow with
      | d x => exact gd.elim
      | m k =>
        cases iw with
        | m k => exact gd.elim
        | d ix =>
          cases ix with
          | int ii =>
            cases w with
            | m k => exact gd.elim
            | d x =>
              dsimp only at gd
              cases e3 : m2[k]? with
              | none => rw [e3] at gd; exact gd.elim
              | some mo =>
                cases mo with
                | ins c ns vs => rw [e3] at gd; exact gd.elim
                | dead => rw [e3] at gd; exact gd.elim
                | lst xs =>
                  rw [e3] at gd
                  dsimp only at gd
                  cases e4 : ixN xs.length ii with
                  | none => rw [e4] at gd; exact gd.elim
                  | some j =>
                    rw [e4] at gd
                    obtain ⟨a, rfl, h1, us, h2, h3⟩ := M2.get e3 ro2
                    cases ri
                    refine ⟨a, us, ii, j, rfl, rfl, h2, by rw [h3.length]; exact e4, ?_⟩
                    obtain ⟨M3, st3⟩ := M2.set h1 e3 (RepL.set rw2 j h3)
                    exact gd _ _ _ _ ((st1.trans st2).trans st3) ⟨M3, ((RR.slots.step st1).step st2).step st3⟩
          | _ => exact gd.elim
end
/-! ### methods of built-in types -/
def isL (w : W) (m : Mem) : Bool := (lstOf w m).isSome
def isS (w : W) (_ : Mem) : Bool := match w with
  | .d (.str _) => true
  | _ => false
abbrev OM := W → List W → Mem → R W
def fBM (ty : W → Mem → Bool) (op : OM) (fo : Ev) (fa : EvL) : Ev := fun ρ m => (fo ρ m).bind fun o m => if ty o m then (fa ρ m).bind fun ws m => op o ws m else .bad
def fBM0 (ty : W → Mem → Bool) (op : OM) (fo : Ev) : Ev := fun ρ m => (fo ρ m).bind fun o m => if ty o m then op o [] m else .bad
def STy (K : PySem.W.Frag) (mg : Str → Option Value) (T : String) (ty : W → Mem → Bool) : Prop := ∀ (Hi : Hp) (ι : List Addr) (m : Mem) (H : Hp) (x : V) (o : W), Mok K mg Hi ι m H → RepW K mg Hi ι x o → ty o m = true → tyV K T x H
def SM (K : PySem.W.Frag) (mg : Str → Option Value) (r : V → List V → Hp → VK → Prop) (op : OM) : Prop := ∀ (Wx : WX) (σ : L2.St) (Hi : Hp) (ι : List Addr) (m : Mem) (H : Hp) (x : V) (xs : List V) (o : W) (ws : List W) (Q : VK), Mok K mg Hi ι m H → RepW K mg Hi ι x o → RepWs K mg Hi ι xs ws →
  Good K mg (RepW K mg) Wx σ Hi ι H (op o ws m) Q → r x xs H Q
theorem ty_list {K : PySem.W.Frag} {mg : Str → Option Value} : STy K mg "list" isL := fun Hi ι m H x o M rx h => by
  unfold isL at h
  obtain ⟨xs, e⟩ := Option.isSome_iff_exists.mp h
  obtain ⟨a, vs, rfl, q, _⟩ := lstOf_rep M e rx
  exact .inl ⟨rfl, vs, .inl (.inl q)⟩
theorem ty_str {K : PySem.W.Frag} {mg : Str → Option Value} : STy K mg "str" isS := fun Hi ι m H x o M rx h => by
  unfold isS at h
  split at h
  · cases rx; rfl
  · cases h
section
variable {X : Cx} {Wx : WX} {kk : Nat}
theorem pd_bm {o e : Expr} {es : List Expr} {apos cpos : Pos} {fo : Ev} {fa : EvL} {T id : String} {name : Str} {r : V → List V → Hp → VK → Prop} {ty : W → Mem → Bool} {op : OM} (pa : PlainAttrs T) (slot : Slot T name id) (hty : typeOf (.builtin id) = pure (.type "method_descriptor")) (hm : MtR X id r)
    (st : STy X.K X.mg T ty) (so : SM X.K X.mg r op) (ho : PE X o (tD X.K X.mg Wx fo)) (ha : PA X (e :: es) (tDA X.K X.mg Wx fa))
    (hbase : attributeBase o name X.env (eval o X.env) = eval o X.env := by rfl)
    (hfew : ((backTo cpos (starEach (e :: es) X.env)).all (fun x => !x.1) && (backToKw cpos (keywordEach [] X.env)).all (fun x => x.1.isSome)
      && decide ((e :: es).length + ([] : List Keyword).length + (if ([] : List Keyword).isEmpty then 0 else 1) < 30)) = true := by rfl)
    (hline : (apos.endLine == cpos.line) = true := by rfl) (hs : starEach (e :: es) X.env = (false, eval e X.env) :: starEach es X.env := by rfl) (hplain : (backTo cpos (starEach es X.env)).any (·.1) = false := by rfl) :
    PE X (.Call (.Attribute o name apos) (e :: es) [] cpos) (tD X.K X.mg Wx (fBM ty op fo fa)) :=
  PE.imp (pe_bm pa slot hty hm ho ha hbase hfew hline hs hplain) fun σ H Q t => by
    obtain ⟨Hi, ι, ρ, m, RR, gd⟩ := t
    refine ⟨Hi, ι, ρ, m, RR, good_bind gd fun ow m1 Hi1 ι1 ov H1 st1 M1 ro g1 => ?_⟩
    split at g1
    · rename_i h
      exact ⟨st _ _ _ _ _ _ M1 ro h, Hi1, ι1, ρ, m1, RR.step st1 M1, good_bind g1 fun ws m2 Hi2 ι2 vs H2 st2 M2 rs g2 => so _ _ _ _ _ _ _ _ _ _ _ M2 (ro.step st2) rs g2⟩
    · exact g1.elim
theorem pd_bm0 {o : Expr} {apos cpos : Pos} {fo : Ev} {T id : String} {name : Str} {r : V → List V → Hp → VK → Prop} {ty : W → Mem → Bool} {op : OM} (pa : PlainAttrs T) (slot : Slot T name id) (hty : typeOf (.builtin id) = pure (.type "method_descriptor")) (hm : MtR X id r)
    (st : STy X.K X.mg T ty) (so : SM X.K X.mg r op) (ho : PE X o (tD X.K X.mg Wx fo)) (hbase : attributeBase o name X.env (eval o X.env) = eval o X.env := by rfl) (hline : (apos.endLine == cpos.line) = true := by rfl) :
    PE X (.Call (.Attribute o name apos) [] [] cpos) (tD X.K X.mg Wx (fBM0 ty op fo)) :=
  PE.imp (pe_bm0 pa slot hty hm ho hbase hline) fun σ H Q t => by
    obtain ⟨Hi, ι, ρ, m, RR, gd⟩ := t
    refine ⟨Hi, ι, ρ, m, RR, good_bind gd fun ow m1 Hi1 ι1 ov H1 st1 M1 ro g1 => ?_⟩
    split at g1
    · rename_i h
      exact ⟨st _ _ _ _ _ _ M1 ro h, so _ _ _ _ _ _ _ _ _ _ _ M1 ro .nil g1⟩
    · exact g1.elim
end
/-- a changeable list becomes another -/
theorem Mok.put {K : PySem.W.Frag} {mg : Str → Option Value} {Hi H : Hp} {ι : List Addr} {m : Mem} {k : Nat} {xs ys : List D} {x : V} (M : Mok K mg Hi ι m H) (e : m[k]? = some (.lst xs)) (r : RepW K mg Hi ι x (.m k)) :
    ∃ a vs, x = .ref a ∧ H a = some (.lst vs) ∧ RepL K mg Hi vs xs ∧ ∀ us, RepL K mg Hi us ys → Mok K mg Hi ι (m.set k (.lst ys)) (upd H a (.lst us)) ∧ Step Hi ι H Hi ι (upd H a (.lst us)) := by
  obtain ⟨a, rfl, h1, us, h2, h3⟩ := M.get e r
  exact ⟨a, us, rfl, h2, h3, fun us ru => M.set h1 e ru⟩
def oAppend : OM := fun o ws m => match o, ws with
  | .m k, [.d x] => match m[k]? with
    | some (.lst xs) => if xs.length < 100000 then .ok (.d .non) (m.set k (.lst (xs ++ [x]))) else .bad
    | _ => .bad
  | _, _ => .bad
theorem s_append {K : PySem.W.Frag} {mg : Str → Option Value} : SM K mg rAppend oAppend := by
  intro Wx σ Hi ι m H x xs o ws Q M rx rs g
  unfold oAppend at g
  split at g
  · split at g
    · rename_i e
      split at g
      · rename_i hl
        cases rs with
        | cons r1 r2 =>
          cases r2
          obtain ⟨a, vs, rfl, q1, q2, q3⟩ := M.put e rx
          obtain ⟨M2, st2⟩ := q3 _ (q2.append (.one r1))
          exact ⟨a, vs, _, rfl, rfl, q1, sz5' (by rw [q2.length]; exact hl), g _ _ _ _ st2 M2 .non⟩
      · exact g.elim
    · exact g.elim
  · exact g.elim

/-! ### built-ins -/
def oAbs : ON := fun ws m => match ws with
  | [.d (.int i)] => .ok (.d (.int (if i < 0 then -i else i))) m
  | _ => .bad
theorem s_abs {K : PySem.W.Frag} {mg : Str → Option Value} : SN K mg (fun xs H Q => ∃ i, xs = [.int i] ∧ Q (.int (if i < 0 then -i else i)) H) oAbs := by
  intro Wx σ Hi ι m H xs ws Q M rs g
  unfold oAbs at g
  split at g
  · cases rs with
    | cons r1 r2 => cases r2; cases r1; exact ⟨_, rfl, g.here (rep := RepW K mg) M (.int _)⟩
  · exact g.elim
def oInt : ON := fun ws m => match ws with
  | [.d (.int i)] => .ok (.d (.int i)) m
  | _ => .bad
theorem s_int {K : PySem.W.Frag} {mg : Str → Option Value} : SN K mg (fun xs H Q => (∃ i, xs = [.int i] ∧ Q (.int i) H) ∨ ∃ k, xs = [.bl k] ∧ Q (.int (if k then 1 else 0)) H) oInt := by
  intro Wx σ Hi ι m H xs ws Q M rs g
  unfold oInt at g
  split at g
  · cases rs with
    | cons r1 r2 => cases r2; cases r1; exact .inl ⟨_, rfl, g.here (rep := RepW K mg) M (.int _)⟩
  · exact g.elim
def oLen : ON := fun ws m => match ws with
  | [.d (.tup xs)] => .ok (.d (.int xs.length)) m
  | [.d (.fls xs)] => .ok (.d (.int xs.length)) m
  | [.d (.str x)] => if x.length ≤ 100000 then .ok (.d (.int x.length)) m else .bad
  | [w] => match lstOf w m with
    | some xs => .ok (.d (.int xs.length)) m
    | none => .bad
  | _ => .bad
theorem s_len {K : PySem.W.Frag} {mg : Str → Option Value} : SN K mg (fun xs H Q => ∃ x n, xs = [x] ∧ LenV K x H n ∧ Q (.int n) H) oLen := by
  intro Wx σ Hi ι m H xs ws Q M rs g
  unfold oLen at g
  split at g
  · cases rs with
    | cons r1 r2 =>
      cases r2
      cases r1 with
      | tup s r => exact ⟨_, _, rfl, .inr ⟨_, sqT_mono M.sub s, rfl⟩, by rw [r.length]; exact g.here (rep := RepW K mg) M (.int _)⟩
  · cases rs with
    | cons r1 r2 =>
      cases r2
      cases r1 with
      | fls s r => exact ⟨_, _, rfl, .inl ⟨_, sqL_mono M.sub s, rfl⟩, by rw [r.length]; exact g.here (rep := RepW K mg) M (.int _)⟩
  · split at g
    · rename_i hl
      cases rs with
      | cons r1 r2 => cases r2; cases r1; exact ⟨_, _, rfl, ⟨sz5 hl, rfl⟩, g.here (rep := RepW K mg) M (.int _)⟩
    · exact g.elim
  · split at g
    · rename_i e
      cases rs with
      | cons r1 r2 =>
        cases r2
        obtain ⟨a, vs, rfl, q, r⟩ := lstOf_rep M e r1
        exact ⟨_, _, rfl, .inl ⟨vs, .inl (.inl q), rfl⟩, by rw [r.length]; exact g.here (rep := RepW K mg) M (.int _)⟩
    · exact g.elim
  · exact g.elim
/-- list(x); mu: it may be changed -/
def oList (mu : Bool) : ON := fun ws m => match ws with
  | [.d (.tup xs)] => if mu then .ok (.m m.length) (m ++ [.lst xs]) else .ok (.d (.lst xs)) m
  | [.d (.fls xs)] => if mu then .ok (.m m.length) (m ++ [.lst xs]) else .ok (.d (.lst xs)) m
  | [w] => match lstOf w m with
    | some xs => if mu then .ok (.m m.length) (m ++ [.lst xs]) else .ok (.d (.lst xs)) m
    | none => .bad
  | _ => .bad
theorem s_list {K : PySem.W.Frag} {mg : Str → Option Value} (mu : Bool) : SN K mg (fun xs H Q => ∃ p ys, xs = [.ref p] ∧ (SqL K H p ys ∨ SqT K H p ys) ∧ ∀ l, H l = none → Q (.ref l) (upd H l (.lst ys))) (oList mu) := by
  intro Wx σ Hi ι m H xs ws Q M rs g
  unfold oList at g
  split at g
  · cases rs with
    | cons r1 r2 =>
      cases r2
      cases r1 with
      | tup s r => exact ⟨_, _, rfl, .inr (sqT_mono M.sub s), newL M r g⟩
  · cases rs with
    | cons r1 r2 =>
      cases r2
      cases r1 with
      | fls s r => exact ⟨_, _, rfl, .inl (sqL_mono M.sub s), newL M r g⟩
  · split at g
    · rename_i e
      cases rs with
      | cons r1 r2 =>
        cases r2
        obtain ⟨a, vs, rfl, q, r⟩ := lstOf_rep M e r1
        exact ⟨_, _, rfl, .inl (.inl (.inl q)), newL M r g⟩
    · exact g.elim
  · exact g.elim
/-- max, min of ints: two, or a list -/
def maxL : List Int → Int
  | [] => 0
  | [a] => a
  | a :: r => max a (maxL r)
def minL : List Int → Int
  | [] => 0
  | [a] => a
  | a :: r => min a (minL r)
theorem maxL_spec : ∀ (l : List Int), 0 < l.length → maxL l ∈ l ∧ ∀ y ∈ l, y ≤ maxL l
  | [], h => by simp at h
  | [a], _ => by simp [maxL]
  | a :: b :: r, _ => by
    obtain ⟨h1, h2⟩ := maxL_spec (b :: r) (by simp)
    have e : maxL (a :: b :: r) = max a (maxL (b :: r)) := rfl
    rw [e]
    refine ⟨?_, fun y hy => ?_⟩
    · by_cases hc : a ≤ maxL (b :: r)
      · rw [Int.max_eq_right hc]; exact List.mem_cons_of_mem _ h1
      · rw [Int.max_eq_left (by omega)]; exact List.mem_cons_self
    · rcases List.mem_cons.mp hy with rfl | hy
      · omega
      · have := h2 y hy; omega
theorem minL_spec : ∀ (l : List Int), 0 < l.length → minL l ∈ l ∧ ∀ y ∈ l, minL l ≤ y
  | [], h => by simp at h
  | [a], _ => by simp [minL]
  | a :: b :: r, _ => by
    obtain ⟨h1, h2⟩ := minL_spec (b :: r) (by simp)
    have e : minL (a :: b :: r) = min a (minL (b :: r)) := rfl
    rw [e]
    refine ⟨?_, fun y hy => ?_⟩
    · by_cases hc : a ≤ minL (b :: r)
      · rw [Int.min_eq_left hc]; exact List.mem_cons_self
      · rw [Int.min_eq_right (by omega)]; exact List.mem_cons_of_mem _ h1
    · rcases List.mem_cons.mp hy with rfl | hy
      · omega
      · have := h2 y hy; omega
def oMax : ON := fun ws m => match ws with
  | [.d (.int i), .d (.int j)] => .ok (.d (.int (if j > i then j else i))) m
  | [w] => match lstOf w m with
    | some xs => match intsD xs with
      | some ns => if 0 < ns.length then .ok (.d (.int (maxL ns))) m else .bad
      | none => .bad
    | none => .bad
  | _ => .bad
def oMin : ON := fun ws m => match ws with
  | [.d (.int i), .d (.int j)] => .ok (.d (.int (if j < i then j else i))) m
  | [w] => match lstOf w m with
    | some xs => match intsD xs with
      | some ns => if 0 < ns.length then .ok (.d (.int (minL ns))) m else .bad
      | none => .bad
    | none => .bad
  | _ => .bad
theorem s_max {K : PySem.W.Frag} {mg : Str → Option Value} : SN K mg (fun xs H Q => (∃ i j, xs = [.int i, .int j] ∧ Q (.int (if j > i then j else i)) H) ∨ rMax K xs H Q) oMax := by
  intro Wx σ Hi ι m H xs ws Q M rs g
  unfold oMax at g
  split at g
  · cases rs with
    | cons r1 r2 => cases r2 with | cons r2 r3 => cases r3; cases r1; cases r2; exact .inl ⟨_, _, rfl, g.here (rep := RepW K mg) M (.int _)⟩
  · split at g
    · rename_i e
      split at g
      · rename_i ns e2
        split at g
        · rename_i hl
          cases rs with
          | cons r1 r2 =>
            cases r2
            obtain ⟨a, vs, rfl, q, r⟩ := lstOf_rep M e r1
            rw [ints_eq e2] at r
            rw [RepL.ints_ r] at q
            refine .inr ⟨a, ns, rfl, .inl (.inl q), hl, fun z hz1 hz2 => ?_⟩
            obtain ⟨p1, p2⟩ := maxL_spec ns hl
            have e3 : z = maxL ns := by have := hz2 _ p1; have := p2 _ hz1; omega
            subst e3
            exact g.here (rep := RepW K mg) M (.int _)
        · exact g.elim
      · exact g.elim
    · exact g.elim
  · exact g.elim
theorem s_min {K : PySem.W.Frag} {mg : Str → Option Value} : SN K mg (fun xs H Q => (∃ i j, xs = [.int i, .int j] ∧ Q (.int (if j < i then j else i)) H) ∨ rMin K xs H Q) oMin := by
  intro Wx σ Hi ι m H xs ws Q M rs g
  unfold oMin at g
  split at g
  · cases rs with
    | cons r1 r2 => cases r2 with | cons r2 r3 => cases r3; cases r1; cases r2; exact .inl ⟨_, _, rfl, g.here (rep := RepW K mg) M (.int _)⟩
  · split at g
    · rename_i e
      split at g
      · rename_i ns e2
        split at g
        · rename_i hl
          cases rs with
          | cons r1 r2 =>
            cases r2
            obtain ⟨a, vs, rfl, q, r⟩ := lstOf_rep M e r1
            rw [ints_eq e2] at r
            rw [RepL.ints_ r] at q
            refine .inr ⟨a, ns, rfl, .inl (.inl q), hl, fun z hz1 hz2 => ?_⟩
            obtain ⟨p1, p2⟩ := minL_spec ns hl
            have e3 : z = minL ns := by have := hz2 _ p1; have := p2 _ hz1; omega
            subst e3
            exact g.here (rep := RepW K mg) M (.int _)
        · exact g.elim
      · exact g.elim
    · exact g.elim
  · exact g.elim
def oAll : ON := fun ws m => match ws with
  | [w] => match lstOf w m with
    | some xs => match boolsD xs with
      | some ns => .ok (.d (.bl (ns.all id))) m
      | none => .bad
    | none => .bad
  | _ => .bad
theorem s_all {K : PySem.W.Frag} {mg : Str → Option Value} : SN K mg (rAll K) oAll := by
  intro Wx σ Hi ι m H xs ws Q M rs g
  unfold oAll at g
  split at g
  · split at g
    · rename_i e
      split at g
      · rename_i ns e2
        cases rs with
        | cons r1 r2 =>
          cases r2
          obtain ⟨a, vs, rfl, q, r⟩ := lstOf_rep M e r1
          rw [bools_eq e2] at r
          rw [RepL.bools_ r] at q
          exact ⟨a, ns, rfl, .inl (.inl q), g.here (rep := RepW K mg) M (.bl _)⟩
      · exact g.elim
    · exact g.elim
  · exact g.elim
def oSum : ON := fun ws m => match ws with
  | [w] => match lstOf w m with
    | some xs => match intsD xs with
      | some ns => .ok (.d (.int ns.sum)) m
      | none => .bad
    | none => .bad
  | _ => .bad
theorem s_sum {K : PySem.W.Frag} {mg : Str → Option Value} : SN K mg (rSum K) oSum := by
  intro Wx σ Hi ι m H xs ws Q M rs g
  unfold oSum at g
  split at g
  · split at g
    · rename_i e
      split at g
      · rename_i ns e2
        cases rs with
        | cons r1 r2 =>
          cases r2
          obtain ⟨a, vs, rfl, q, r⟩ := lstOf_rep M e r1
          rw [ints_eq e2] at r
          rw [RepL.ints_ r] at q
          exact ⟨a, ns, rfl, .inl (.inl q), g.here (rep := RepW K mg) M (.int _)⟩
      · exact g.elim
    · exact g.elim
  · exact g.elim
end GD

/-! GD7: isinstance, zip, enumerate, keywords. -/
namespace GD
open PySem PySem.Spec PyProof.Rows L2

/-! ### isinstance of a built-in class -/
def tyName : W → Mem → Option String
  | .d .non, _ => some "NoneType"
  | .d (.bl _), _ => some "bool"
  | .d (.int _), _ => some "int"
  | .d (.str _), _ => some "str"
  | .d (.tup _), _ => some "tuple"
  | .d (.lst _), _ => some "list"
  | .m k, m => match m[k]? with
    | some (.lst _) => some "list"
    | _ => none
  | _, _ => none
def subTy (t n : String) : Option Bool :=
  if ["list", "tuple", "dict", "bool", "int", "str"].contains n && ["NoneType", "bool", "int", "str", "tuple", "list"].contains t then some (t == n || (t == "bool" && n == "int")) else none
theorem subTy_kit {t n : String} {b : Bool} (h : subTy t n = some b) : kitB t n = some b := by
  unfold subTy at h
  split at h
  · rename_i hc
    rw [Bool.and_eq_true] at hc
    cases h
    obtain ⟨h1, h2⟩ := hc
    simp only [List.contains_eq_mem, List.mem_cons, List.not_mem_nil, or_false, decide_eq_true_eq] at h1 h2
    rcases h1 with rfl | rfl | rfl | rfl | rfl | rfl <;> rcases h2 with rfl | rfl | rfl | rfl | rfl | rfl <;> decide +kernel
  · cases h
def oIsi : ON := fun ws m => match ws with
  | [x, .d (.ty n)] => match tyName x m with
    | some t => match subTy t n with
      | some b => .ok (.d (.bl b)) m
      | none => .bad
    | none => .bad
  | _ => .bad
theorem tyName_rep {K : PySem.W.Frag} {mg : Str → Option Value} {Hi H : Hp} {ι : List Addr} {m : Mem} (M : Mok K mg Hi ι m H) {w : W} {v : V} {t : String} (h : tyName w m = some t) (r : RepW K mg Hi ι v w) : TyX K H v (.type t) := by
  unfold tyName at h
  split at h
  · cases h; cases r; exact .base .non
  · cases h; cases r; exact .base (.bl _)
  · cases h; cases r; exact .base (.int _)
  · cases h; cases r; exact .base (.str _)
  · cases h
    cases r with
    | tup s r =>
      rcases sqT_mono M.sub s with (h | ⟨o, h⟩) | ⟨o, its, n, h1, h2, _⟩
      · exact .base (.tup h)
      · exact .fTuple h
      · exact .kTuple h1 h2
  · cases h
    cases r with
    | lst s r => exact .base (.lst (M.sub _ _ s))
  · split at h
    · rename_i e
      cases h
      obtain ⟨a, rfl, h1, us, h2, h3⟩ := M.get e r
      exact .base (.lst h2)
    · cases h
  · cases h
theorem s_isi {K : PySem.W.Frag} {mg : Str → Option Value} : SN K mg (rIsi K) oIsi := by
  intro Wx σ Hi ι m H xs ws Q M rs g
  unfold oIsi at g
  split at g
  · split at g
    · rename_i t e1
      split at g
      · rename_i b e2
        cases rs with
        | cons r1 r2 =>
          cases r2 with
          | cons r2 r3 =>
            cases r3
            cases r2 with
            | ty nn => exact ⟨_, _, _, _, b, rfl, .ty _, tyName_rep M e1 r1, kit_ty (subTy_kit e2), g.here (rep := RepW K mg) M (.bl _)⟩
      · exact g.elim
    · exact g.elim
  · exact g.elim

/-! ### zip, enumerate -/
def zipD (xs ys : List D) : List W := (xs.zip ys).map fun p => W.d (.tup [p.1, p.2])
def enumD (i : Nat) : List D → List W
  | [] => []
  | x :: xs => W.d (.tup [.int (i : Int), x]) :: enumD (i + 1) xs
def iZip2 (a : EvL) : EvL := fun ρ m => (a ρ m).bind fun ws m => match ws with
  | [.d (.tup xs), .d (.tup ys)] => .ok (zipD xs ys) m
  | [.d (.lst xs), .d (.lst ys)] => .ok (zipD xs ys) m
  | _ => .bad
def iEnum1 (a : EvL) : EvL := fun ρ m => (a ρ m).bind fun ws m => match ws with
  | [.d (.lst xs)] => .ok (enumD 0 xs) m
  | _ => .bad
theorem zipD_get : ∀ {xs ys : List D} {i : Nat} {w : W}, (zipD xs ys)[i]? = some w → ∃ x y, xs[i]? = some x ∧ ys[i]? = some y ∧ w = .d (.tup [x, y])
  | [], _, _, _, h => by simp [zipD] at h
  | _ :: _, [], _, _, h => by simp [zipD] at h
  | x :: xs, y :: ys, 0, w, h => by simp [zipD] at h; exact ⟨x, y, rfl, rfl, h.symm⟩
  | x :: xs, y :: ys, i + 1, w, h => by
    obtain ⟨a, b, h1, h2, h3⟩ := zipD_get (xs := xs) (ys := ys) (i := i) (w := w) (by simpa [zipD] using h)
    exact ⟨a, b, by simpa using h1, by simpa using h2, h3⟩
theorem zipD_len (xs ys : List D) : (zipD xs ys).length = min xs.length ys.length := by simp [zipD]
theorem enumD_len : ∀ (xs : List D) (k : Nat), (enumD k xs).length = xs.length
  | [], _ => rfl
  | _ :: xs, k => by simp [enumD, enumD_len xs (k + 1)]
theorem enumD_get : ∀ {xs : List D} {k i : Nat} {w : W}, (enumD k xs)[i]? = some w → ∃ x, xs[i]? = some x ∧ w = .d (.tup [.int ((k + i : Nat) : Int), x])
  | [], _, _, _, h => by simp [enumD] at h
  | x :: xs, k, 0, w, h => by simp [enumD] at h; exact ⟨x, rfl, by simpa using h.symm⟩
  | x :: xs, k, i + 1, w, h => by
    obtain ⟨a, h1, h2⟩ := enumD_get (xs := xs) (k := k + 1) (i := i) (w := w) (by simpa [enumD] using h)
    refine ⟨a, by simpa using h1, ?_⟩
    rw [h2]
    congr 4
    omega
theorem Mok.pair {K : PySem.W.Frag} {mg : Str → Option Value} {Hi H : Hp} {ι : List Addr} {m : Mem} {T : Addr} {x y : V} {a b : D} (M : Mok K mg Hi ι m H) (hT : H T = none) (r1 : Rep K mg Hi x a) (r2 : Rep K mg Hi y b) :
    ∃ Hi2, Step Hi ι H Hi2 ι (upd H T (.tup [x, y])) ∧ Mok K mg Hi2 ι m (upd H T (.tup [x, y])) ∧ RepW K mg Hi2 ι (.ref T) (.d (.tup [a, b])) := by
  obtain ⟨M2, st2⟩ := M.newD (o := .tup [x, y]) hT
  exact ⟨_, st2, M2, Rep.tup (.inl (.inl upd_same)) (.cons (r1.mono st2.imm) (.cons (r2.mono st2.imm) .nil))⟩
theorem itOk_zipL {K : PySem.W.Frag} {mg : Str → Option Value} {Hi : Hp} {ι : List Addr} {a b : Addr} {vs us : List V} {xs ys : List D} (s1 : Hi a = some (.lst vs)) (r1 : RepL K mg Hi vs xs) (s2 : Hi b = some (.lst us)) (r2 : RepL K mg Hi us ys) : ItOk K mg Hi ι (Itz K a b) (zipD xs ys) where
  go := fun i Hi1 ι1 m1 H1 sm _ M hi => by
    rw [zipD_len] at hi
    have h1 : i < vs.length := by rw [r1.length]; omega
    have h2 : i < us.length := by rw [r2.length]; omega
    exact ⟨vs, us, vs[i], us[i], .inl (.inl (M.sub _ _ (sm _ _ s1))), .inl (.inl (M.sub _ _ (sm _ _ s2))), by simp [h1], by simp [h2]⟩
  stop := fun i Hi1 ι1 m1 H1 sm _ M hi => by
    rw [zipD_len] at hi
    exact ⟨vs, us, .inl (.inl (M.sub _ _ (sm _ _ s1))), .inl (.inl (M.sub _ _ (sm _ _ s2))), by rw [r1.length, r2.length]; omega⟩
  yld := fun i w Hi1 ι1 m1 H1 x H2 sm pr M hw hy => by
    obtain ⟨T, p, q, rfl, hT, rfl, h1, h2⟩ := hy
    obtain ⟨d, e, e1, e2, rfl⟩ := zipD_get hw
    have z1 := h1 vs (.inl (.inl (M.sub _ _ (sm _ _ s1))))
    have z2 := h2 us (.inl (.inl (M.sub _ _ (sm _ _ s2))))
    obtain ⟨v, q1, q2⟩ := r1.get e1
    obtain ⟨u, q3, q4⟩ := r2.get e2
    rw [z1] at q1
    rw [z2] at q3
    cases q1
    cases q3
    exact M.pair hT (q2.mono sm) (q4.mono sm)
theorem itOk_zipT {K : PySem.W.Frag} {mg : Str → Option Value} {Hi : Hp} {ι : List Addr} {a b : Addr} {vs us : List V} {xs ys : List D} (s1 : SqT K Hi a vs) (r1 : RepL K mg Hi vs xs) (s2 : SqT K Hi b us) (r2 : RepL K mg Hi us ys) : ItOk K mg Hi ι (RZ.ItzT K a b) (zipD xs ys) where
  go := fun i Hi1 ι1 m1 H1 sm _ M hi => by
    rw [zipD_len] at hi
    have h1 : i < vs.length := by rw [r1.length]; omega
    have h2 : i < us.length := by rw [r2.length]; omega
    exact ⟨vs, us, vs[i], us[i], sqT_mono (sm.trans M.sub) s1, sqT_mono (sm.trans M.sub) s2, by simp [h1], by simp [h2]⟩
  stop := fun i Hi1 ι1 m1 H1 sm _ M hi => by
    rw [zipD_len] at hi
    exact ⟨vs, us, sqT_mono (sm.trans M.sub) s1, sqT_mono (sm.trans M.sub) s2, by rw [r1.length, r2.length]; omega⟩
  yld := fun i w Hi1 ι1 m1 H1 x H2 sm pr M hw hy => by
    obtain ⟨T, p, q, rfl, hT, rfl, h1, h2⟩ := hy
    obtain ⟨d, e, e1, e2, rfl⟩ := zipD_get hw
    have z1 := h1 vs (sqT_mono (sm.trans M.sub) s1)
    have z2 := h2 us (sqT_mono (sm.trans M.sub) s2)
    obtain ⟨v, q1, q2⟩ := r1.get e1
    obtain ⟨u, q3, q4⟩ := r2.get e2
    rw [z1] at q1
    rw [z2] at q3
    cases q1
    cases q3
    exact M.pair hT (q2.mono sm) (q4.mono sm)
theorem itOk_enum {K : PySem.W.Frag} {mg : Str → Option Value} {Hi : Hp} {ι : List Addr} {a : Addr} {vs : List V} {xs : List D} (s1 : Hi a = some (.lst vs)) (r1 : RepL K mg Hi vs xs) : ItOk K mg Hi ι (Ite K a) (enumD 0 xs) where
  go := fun i Hi1 ι1 m1 H1 sm _ M hi => by
    rw [enumD_len] at hi
    have h1 : i < vs.length := by rw [r1.length]; omega
    exact ⟨vs, vs[i], .inl (.inl (M.sub _ _ (sm _ _ s1))), by simp [h1]⟩
  stop := fun i Hi1 ι1 m1 H1 sm _ M hi => by
    rw [enumD_len] at hi
    exact ⟨vs, .inl (.inl (M.sub _ _ (sm _ _ s1))), by rw [r1.length]; omega⟩
  yld := fun i w Hi1 ι1 m1 H1 x H2 sm pr M hw hy => by
    obtain ⟨T, p, rfl, hT, rfl, h1⟩ := hy
    obtain ⟨d, e1, rfl⟩ := enumD_get hw
    have z1 := h1 vs (.inl (.inl (M.sub _ _ (sm _ _ s1))))
    obtain ⟨v, q1, q2⟩ := r1.get e1
    rw [z1] at q1
    cases q1
    rw [Nat.zero_add]
    exact M.pair hT (.int _) (q2.mono sm)
section
variable {X : Cx} {Wx : WX} {kk : Nat}
theorem pid_zip {e e2 : Expr} {p pos tpos : Pos} {elts : List Expr} {k1 : Nat} {f : EvL} (hg : Gl X "zip") (hm : X.mg "zip" = none) (ha : PA X [e, e2] (tDA X.K X.mg Wx f))
    (hs : starEach [e, e2] X.env = (false, eval e X.env) :: starEach [e2] X.env := by rfl) (hpl : (backTo pos (starEach [e2] X.env)).any (·.1) = false := by rfl) :
    PI X (.Tuple elts k1 tpos) (.Call (.Name "zip" p) [e, e2] [] pos) (tDI X.K X.mg Wx (iZip2 f)) := PI.imp (RZ.pi_zipA hg hm ha hs hpl) fun σ H Q t => by
  obtain ⟨Hi, ι, ρ, m, RR, gd⟩ := t
  refine ⟨Hi, ι, ρ, m, RR, good_bind gd fun ws m1 Hi1 ι1 vs H1 st M rv g1 => ?_⟩
  split at g1
  · cases rv with
    | cons r1 r2 =>
      cases r2 with
      | cons r2 r3 =>
        cases r3
        cases r1 with
        | tup s1 q1 =>
          cases r2 with
          | tup s2 q2 => exact ⟨_, _, _, _, rfl, .inr ⟨sqT_mono M.sub s1, sqT_mono M.sub s2, g1 _ _ _ _ Step.refl M (itOk_zipT s1 q1 s2 q2)⟩⟩
  · cases rv with
    | cons r1 r2 =>
      cases r2 with
      | cons r2 r3 =>
        cases r3
        cases r1 with
        | lst s1 q1 =>
          cases r2 with
          | lst s2 q2 => exact ⟨_, _, _, _, rfl, .inl ⟨.inl (.inl (M.sub _ _ s1)), .inl (.inl (M.sub _ _ s2)), g1 _ _ _ _ Step.refl M (itOk_zipL s1 q1 s2 q2)⟩⟩
  · exact g1.elim
theorem pid_enum {e : Expr} {p pos tpos : Pos} {elts : List Expr} {k1 : Nat} {f : EvL} (hg : Gl X "enumerate") (hm : X.mg "enumerate" = none) (ha : PA X [e] (tDA X.K X.mg Wx f)) (hs : starEach [e] X.env = [(false, eval e X.env)] := by rfl) :
    PI X (.Tuple elts k1 tpos) (.Call (.Name "enumerate" p) [e] [] pos) (tDI X.K X.mg Wx (iEnum1 f)) := PI.imp (pi_enum hg hm ha hs) fun σ H Q t => by
  obtain ⟨Hi, ι, ρ, m, RR, gd⟩ := t
  refine ⟨Hi, ι, ρ, m, RR, good_bind gd fun ws m1 Hi1 ι1 vs H1 st M rv g1 => ?_⟩
  split at g1
  · cases rv with
    | cons r1 r2 =>
      cases r2
      cases r1 with
      | lst s1 q1 => exact ⟨_, _, rfl, .inl (.inl (M.sub _ _ s1)), g1 _ _ _ _ Step.refl M (itOk_enum s1 q1)⟩
  · exact g1.elim
end

/-! ### keywords -/
theorem PK.imp {X : Cx} {kws : List Keyword} {t t' : TA} (h : PK X kws t) (hi : ∀ σ H Q, t' σ H Q → t σ H Q) : PK X kws t' := ⟨fun p pins s σ H Q I q => h.run p pins s σ H Q I (hi σ H Q q)⟩
/-- a def called with the keywords ks: pm puts positional and keyword values in the parameters' order -/
structure DefKw (P : Program) (w : World) (K : PySem.W.Frag) (mg : Str → Option Value) (base : Heap) (x : Str) (ks : List Str) (k : Nat) (pm : List W → List W → List W) (g : Fn) : Prop where
  ex : ∃ f, (∀ (A : Around) (outer : List PySem.Env) (s : Shared) (H : Hp) (us ks' : List Value) (vs zs : List V) (Q : VK) (E : XK), Room k A → Env0 P w K mg base A outer s H → Vals vs us → Vals zs ks' →
      (∃ Hi ι ws ws' m, Mok K mg Hi ι m H ∧ RepWs K mg Hi ι vs ws ∧ RepWs K mg Hi ι zs ws' ∧ Good K mg (RepW K mg) (fun c d _ H' => E c d H') [] Hi ι H (g (pm ws ws') m) Q) →
      codeAny (model P w) A (.call (.ref f) ⟨us, ks.zip ks'⟩) (CR (L2.CX P w) outer P w H s Q E) s) ∧ mg x = some (.ref f) ∧ PySem.W.keepIn K (.ref f) = true
/-- how the places are permuted: the same for values of every kind -/
theorem def_kw {P : Program} {w : World} {K : PySem.W.Frag} {mg : Str → Option Value} {base : Heap} {x : Str} {st : Stmt} {N ps ks : List Str} {k n np : Nat} {b : Ex} (pm : ∀ {α : Type}, List α → List α → List α) (mu : Bool) (T : TopDef K mg x st) (S : FnScope N ps (defScope st)) (hn : N.length = n) (hp : ps.length = np)
    (hb : ∀ (kV doc pm' : Value) (an : Option Addr) (cdv ct : Value) (us ws : List Value), (pm us ws).length = ps.length → bindArgs (PySem.W.fnOf x x (defArgs st) (defBody st) (defScope st) .none kV doc pm' an cdv ct) ⟨us, ks.zip ws⟩ = pure (ps.zip (pm us ws)))
    (hv : ∀ {vs us zs ws}, Vals vs us → Vals zs ws → Vals (pm vs zs) (pm us ws)) (hw : ∀ {Hi ι vs us zs ws}, RepWs K mg Hi ι vs us → RepWs K mg Hi ι zs ws → RepWs K mg Hi ι (pm vs zs) (pm us ws))
    (hbody : ∀ (f : Addr) (cdv : Value) (A : Around) (outer : List PySem.Env) (s : Shared) (H : Hp) (E : XK),
      Cc (cxOf (L2.CX P w) P w K mg base N x (defScope st) f cdv A outer s H E) (fun c d _ H' => E c d H') k →
      PSs (cxOf (L2.CX P w) P w K mg base N x (defScope st) f cdv A outer s H E) (defBody st) (tDS K mg (fun c d _ H' => E c d H') b)) : DefKw P w K mg base x ks (k + 1) pm (fnOf mu np n b) := by
  obtain ⟨f, fd, F, hm⟩ := T.ex
  have G := fun_ok (P := P) (w := w) (base := base) (mg := mg) (mu := mu) F S hn hp fun cdv A outer s H E hr => hbody f cdv A outer s H E ⟨takes_of rfl rfl rfl rfl, passes_of rfl, S.nd, rfl, hr⟩
  refine ⟨f, fun A outer s H us ks' vs zs Q E hr e0 r rz h => ?_, hm, F.kp⟩
  obtain ⟨Hi, ι, ws, ws', m, M, r1, r2, g⟩ := h
  have sp : spN K mg (fnOf mu np n b) (pm vs zs) H Q E := ⟨Hi, ι, _, m, M, hw r1 r2, g⟩
  have rr := hv r rz
  have hl : (pm us ks').length = ps.length := by rw [← rr.length]; exact G.len _ _ _ _ sp
  obtain ⟨oc, od, kV, doc, pm', an, cdv, ct, osl, rfl, lk, hcd⟩ := F.ex
  exact G.run A outer s H ⟨us, ks.zip ks'⟩ (pm us ks') (pm vs zs) Q E hr e0 (.of_eq (hb kV doc pm' an cdv ct us ks' hl)) rr sp
section
variable {X : Cx} {Wx : WX} {kk j : Nat}
theorem pkd_nil : PK X [] (tDA X.K X.mg Wx fNil) := PK.imp pk_nil fun σ H Q t => by
  obtain ⟨Hi, ι, ρ, m, R, g⟩ := t
  exact g.here (rep := RepWs X.K X.mg) R.mok .nil
theorem pkd_cons {e : Expr} {nm : Option Str} {kpos : Pos} {kws : List Keyword} {f : Ev} {g : EvL} (ha : PE X e (tD X.K X.mg Wx f)) (hr : PK X kws (tDA X.K X.mg Wx g)) : PK X (⟨nm, e, kpos⟩ :: kws) (tDA X.K X.mg Wx (fCons f g)) :=
  PK.imp (pk_cons ha hr) fun σ H Q t => by
    obtain ⟨Hi, ι, ρ, m, R, g⟩ := t
    refine ⟨Hi, ι, ρ, m, R, good_bind g fun w m1 Hi1 ι1 v H1 st M rv g1 => ⟨Hi1, ι1, ρ, m1, R.step st M, good_bind g1 fun ws m2 Hi2 ι2 vs H2 st2 M2 rvs g2 => ?_⟩⟩
    exact g2.here M2 (.cons (rv.step st2) rvs)
theorem run_kw {CX : CXT} {pins : List (Addr × Obj)} {σ : L2.St} {H : Hp} {s : Shared} {f : Addr} {args : Args} {Q : VK} {E : XK} (hx : PassesAt CX X σ E) (I : Inv X pins σ H s)
    (h : codeAny (model X.prog X.w) X.A (.call (.ref f) args) (CR CX X.stack X.prog X.w H s Q E) s) : codeAny (model X.prog X.w) X.A (.call (.ref f) args) (fun r s' => match r with | .ok (.ret v) => EP X pins σ Q v s' | .ok _ => False | .error e => X.xe e s') s := by
  refine codeAny_mono h fun r s' hq => ?_
  cases r with
  | error e => exact hx pins H s e s' I hq
  | ok fl =>
    cases fl with
    | ret u => exact I.after hq
    | next => exact False.elim hq
    | brk => exact False.elim hq
    | cont => exact False.elim hq
theorem pd_callK {x : Str} {p pos : Pos} {e : Expr} {es : List Expr} {kws : List Keyword} {ks : List Str} {pm : List W → List W → List W} {g : Fn} {a b : EvL} (c : Cc X Wx kk) (F : DefKw X.prog X.w X.K X.mg X.base x ks j pm g) (hj : j ≤ kk) (hg : Gl X x) (ha : PA X (e :: es) (tDA X.K X.mg Wx a)) (hkw : PK X kws (tDA X.K X.mg Wx b))
    (hall : (backToKw pos (keywordEach kws X.env)).all (·.1.isSome) = true := by rfl) (hks : (backToKw pos (keywordEach kws X.env)).filterMap (·.1) = ks := by rfl)
    (hdb : (x == ("__debug__" : Str)) = false := by decide) (he : starEach (e :: es) X.env = (false, eval e X.env) :: starEach es X.env := by rfl)
    (hpl : ((backTo pos (starEach (e :: es) X.env)).any (·.1) || (backToKw pos (keywordEach kws X.env)).any (·.1.isNone)) = false := by rfl) :
    PE X (.Call (.Name x p) (e :: es) kws pos) (tD X.K X.mg Wx (fCallK g pm a b)) := by
  obtain ⟨f, F, hm, hk⟩ := F.ex
  refine ⟨fun pins s σ H Q I h => ?_⟩
  refine wpAny_Call_Name_kw (ld_glob I hg hm ?_ hdb)
  have h' : tDA X.K X.mg Wx a σ H (fun vs H1 => tDA X.K X.mg Wx b σ H1 (fun zs H2 => ∃ Hi ι ws ws' m, Mok X.K X.mg Hi ι m H2 ∧ RepWs X.K X.mg Hi ι vs ws ∧ RepWs X.K X.mg Hi ι zs ws' ∧ Good X.K X.mg (RepW X.K X.mg) (fun c d _ H' => WE Wx σ c d H') [] Hi ι H2 (g (pm ws ws') m) Q)) := by
    obtain ⟨Hi, ι, ρ, m, RR, gd⟩ := h
    exact ⟨Hi, ι, ρ, m, RR, good_bind gd fun ws m1 Hi1 ι1 vs H1 st M rv g1 => ⟨Hi1, ι1, ρ, m1, RR.step st M, good_bind g1 fun zs m2 Hi2 ι2 us H2 st2 M2 rz g2 => ⟨Hi2, ι2, ws, zs, m2, M2, rv.step st2, rz, g2⟩⟩⟩
  refine PySem.W.callWith_KW (h₀ := X.base) I.ok.mod.kin hk hall (thn (ha.run pos pins s σ H _ I h') fun us s1 ⟨vs, H1, I1, r, q⟩ => ?_) hpl he
  refine thn (hkw.run pos pins s1 σ H1 _ I1 q) fun ws s2 ⟨zs, H2, I2, rz, q2⟩ => ⟨I2.kIn, ?_⟩
  rw [hks]
  exact wpAny_call (run_kw (passAt c.tk σ) I2 (F X.A X.stack s2 H2 _ ws vs zs Q _ (c.room.mono hj) I2.env0 r rz q2))
theorem pd_callK0 {x : Str} {p pos : Pos} {kws : List Keyword} {ks : List Str} {pm : List W → List W → List W} {g : Fn} {b : EvL} (c : Cc X Wx kk) (F : DefKw X.prog X.w X.K X.mg X.base x ks j pm g) (hj : j ≤ kk) (hg : Gl X x) (hkw : PK X kws (tDA X.K X.mg Wx b))
    (hall : (backToKw pos (keywordEach kws X.env)).all (·.1.isSome) = true := by rfl) (hks : (backToKw pos (keywordEach kws X.env)).filterMap (·.1) = ks := by rfl)
    (hdb : (x == ("__debug__" : Str)) = false := by decide)
    (hpl : ((backTo pos (starEach [] X.env)).any (·.1) || (backToKw pos (keywordEach kws X.env)).any (·.1.isNone)) = false := by rfl) :
    PE X (.Call (.Name x p) [] kws pos) (tD X.K X.mg Wx (fCallK g pm fNil b)) := by
  obtain ⟨f, F, hm, hk⟩ := F.ex
  refine ⟨fun pins s σ H Q I h => ?_⟩
  refine wpAny_Call_Name_kw (ld_glob I hg hm ?_ hdb)
  have h' : tDA X.K X.mg Wx b σ H (fun zs H2 => ∃ Hi ι ws ws' m, Mok X.K X.mg Hi ι m H2 ∧ RepWs X.K X.mg Hi ι [] ws ∧ RepWs X.K X.mg Hi ι zs ws' ∧ Good X.K X.mg (RepW X.K X.mg) (fun c d _ H' => WE Wx σ c d H') [] Hi ι H2 (g (pm ws ws') m) Q) := by
    obtain ⟨Hi, ι, ρ, m, RR, gd⟩ := h
    exact ⟨Hi, ι, ρ, m, RR, good_bind (show Good _ _ _ _ _ _ _ _ ((b ρ m).bind fun zs m => g (pm [] zs) m) Q from gd) fun zs m2 Hi2 ι2 us H2 st2 M2 rz g2 => ⟨Hi2, ι2, [], zs, m2, M2, .nil, rz, g2⟩⟩
  refine PySem.W.callWith_KW0 (h₀ := X.base) I.ok.mod.kin hk hall ?_ hpl
  refine thn (hkw.run pos pins s σ H _ I h') fun ws s2 ⟨zs, H2, I2, rz, q2⟩ => ⟨I2.kIn, ?_⟩
  rw [hks]
  exact wpAny_call (run_kw (passAt c.tk σ) I2 (F X.A X.stack s2 H2 [] ws [] zs Q _ (c.room.mono hj) I2.env0 .nil rz q2))
end
end GD

/-! GD8: unpacking, recursion, the law's end. -/
namespace GD
open PySem PySem.Spec PyProof.Rows L2

/-- (a, b, ..) = a tuple or a list -/
def tgUn (n : Nat) (a : TgL) : Tg := fun w ρ m => match w with
  | .d (.tup xs) => if xs.length = n then a (xs.map .d) ρ m else .bad
  | .d (.lst xs) => if xs.length = n then a (xs.map .d) ρ m else .bad
  | _ => .bad
section
variable {X : Cx} {Wx : WX} {kk : Nat}
theorem PG.or {e : Expr} {t t' : TG} (h : PG X e t) (h' : PG X e t') : PG X e (fun v σ H Q => t v σ H Q ∨ t' v σ H Q) := ⟨fun pins s σ H v u Q I r q => q.elim (h.run pins s σ H v u Q I r) (h'.run pins s σ H v u Q I r)⟩
theorem pgd_un {es : List Expr} {k : Nat} {pos : Pos} {g : TgL} {n : Nat} (hc : X.calm = true) (h : PGs X es (tDGs X.K X.mg g)) (hn : (assignEach es X.env).length = n := by rfl) (hst : (assignEach es X.env).findIdx? (·.1) = none := by rfl) :
    PG X (.Tuple es k pos) (tDG X.K X.mg (tgUn n g)) := PG.imp (PG.or (pg_tup hc h hn hst) (pg_unl hc h hn hst)) fun v σ H Q t => by
  obtain ⟨Hi, ι, ρ, m, w, RR, rw', gd⟩ := t
  cases w with
  | m k => exact gd.elim
  | d x =>
    cases x with
    | tup xs =>
      by_cases hl : xs.length = n
      · have e : tgUn n g (.d (.tup xs)) ρ m = g (xs.map .d) ρ m := if_pos hl
        rw [e] at gd
        cases rw' with
        | tup s r =>
          rename_i a vs
          exact .inl ⟨a, vs, rfl, sqT_mono RR.mok.sub s, r.length.trans hl, Hi, ι, ρ, m, _, RR, r.ws, gd⟩
      · have e : tgUn n g (.d (.tup xs)) ρ m = .bad := if_neg hl
        rw [e] at gd
        exact gd.elim
    | lst xs =>
      by_cases hl : xs.length = n
      · have e : tgUn n g (.d (.lst xs)) ρ m = g (xs.map .d) ρ m := if_pos hl
        rw [e] at gd
        cases rw' with
        | lst s r =>
          rename_i a vs
          exact .inr ⟨a, vs, rfl, .inl (.inl (RR.mok.sub _ _ s)), r.length.trans hl, Hi, ι, ρ, m, _, RR, r.ws, gd⟩
      · have e : tgUn n g (.d (.lst xs)) ρ m = .bad := if_neg hl
        rw [e] at gd
        exact gd.elim
    | _ => exact gd.elim
end
/-- positional and keyword values in the parameters' order -/
def pmI {α : Type} (na nk : Nat) (ix : List Nat) (us ws : List α) : List α := if us.length = na ∧ ws.length = nk then ix.filterMap fun i => (us ++ ws)[i]? else []
theorem pmI_vals {na nk : Nat} {ix : List Nat} {vs zs : List V} {us ws : List Value} (h1 : Vals vs us) (h2 : Vals zs ws) : Vals (pmI na nk ix vs zs) (pmI na nk ix us ws) := by
  unfold pmI
  rw [← h1.length, ← h2.length]
  split
  · have h := h1.append h2
    induction ix with
    | nil => exact .nil
    | cons i r ih =>
      rw [List.filterMap_cons, List.filterMap_cons]
      cases e : (vs ++ zs)[i]? with
      | none => rw [h.none_of e]; exact ih
      | some v =>
        obtain ⟨u, e2, r2⟩ := h.get e
        rw [e2]
        exact .cons r2 ih
  · exact .nil
theorem pmI_rep {K : PySem.W.Frag} {mg : Str → Option Value} {Hi : Hp} {ι : List Addr} {na nk : Nat} {ix : List Nat} {vs zs : List V} {us ws : List W} (h1 : RepWs K mg Hi ι vs us) (h2 : RepWs K mg Hi ι zs ws) : RepWs K mg Hi ι (pmI na nk ix vs zs) (pmI na nk ix us ws) := by
  unfold pmI
  rw [← h1.length, ← h2.length]
  split
  · have h := RepWs.append h1 h2
    induction ix with
    | nil => exact .nil
    | cons i r ih =>
      rw [List.filterMap_cons, List.filterMap_cons]
      cases e : (us ++ ws)[i]? with
      | none =>
        have e2 : (vs ++ zs)[i]? = none := by
          have hl := h.length
          have := List.getElem?_eq_none_iff.mp e
          exact List.getElem?_eq_none_iff.mpr (by omega)
        rw [e2]
        exact ih
      | some u =>
        obtain ⟨v, e2, r2⟩ := h.get e
        rw [e2]
        exact .cons r2 ih
  · exact .nil
/-- a def of which nothing is told -/
theorem def_bad {P : Program} {w : World} {K : PySem.W.Frag} {mg : Str → Option Value} {base : Heap} {x : Str} {st : Stmt} {k : Nat} (T : TopDef K mg x st) : DefOk P w K mg base x k (fun _ _ => .bad) := by
  obtain ⟨f, fd, F, hm⟩ := T.ex
  exact ⟨f, fun A outer s H us vs Q E hr e0 r h => by obtain ⟨_, _, _, _, _, _, g⟩ := h; exact g.elim, hm, F.kp⟩
/-- what the law promises -/
def spLaw (K : PySem.W.Frag) : Sp := fun vs _ Q _ => ∃ (a : Addr) (ns : List Int), vs = [.ref a] ∧ ns.length ≤ 63 ∧ SqL K (fun _ => none) a (ns.map V.int) ∧ ∀ H', Q (.bl true) H'
def spLawH (K : PySem.W.Frag) : Sp := fun vs H Q _ => ∃ (a : Addr) (ns : List Int), vs = [.ref a] ∧ ns.length ≤ 63 ∧ SqL K H a (ns.map V.int) ∧ ∀ H', Q (.bl true) H'
theorem ints_repL {K : PySem.W.Frag} {mg : Str → Option Value} {H : Hp} : ∀ ns : List Int, RepL K mg H (ns.map V.int) (ns.map D.int)
  | [] => .nil
  | n :: ns => .cons (.int n) (ints_repL ns)
theorem law_imp {K : PySem.W.Frag} {mg : Str → Option Value} {g : Fn} (h : ∀ ns : List Int, ns.length ≤ 63 → ∃ m, g [.d (.fls (ns.map .int))] [] = .ok (.d (.bl true)) m) (vs : List V) (H : Hp) (Q : VK) (E : XK) (s : spLawH K vs H Q E) : spN K mg g vs H Q E := by
  obtain ⟨a, ns, rfl, hl, sq, q⟩ := s
  obtain ⟨m, e⟩ := h ns hl
  refine ⟨H, [], [.d (.fls (ns.map .int))], [], ⟨fun _ _ h => h, rfl, .nil, (fun k mo a h1 _ _ => by simp at h1), fun k mo a h1 _ => by simp at h1⟩, .cons (Rep.fls sq (ints_repL ns)) .nil, ?_⟩
  rw [e]
  intro Hi' ι' x H' st M r
  cases r
  exact q H'
end GD

/-! GD9: chains of comparisons. -/
namespace GD
open PySem PySem.Spec PyProof.Rows L2

def fChain (o o' : O2) (a b c : Ev) : Ev := fun ρ m => (a ρ m).bind fun x m => (b ρ m).bind fun y m => (o x y m).bind fun z m => match z with
  | .d (.bl true) => (c ρ m).bind fun w m => o' y w m
  | .d (.bl false) => .ok (.d (.bl false)) m
  | _ => .bad
section
variable {X : Cx} {Wx : WX} {kk : Nat}
theorem chain_imp {r r' : R2} {o o' : O2} {fa fb fc : Ev} (so : S2 X.K X.mg r o) (so' : S2 X.K X.mg r' o') {σ : L2.St} {H : Hp} {Q : VK} (t : tD X.K X.mg Wx (fChain o o' fa fb fc) σ H Q) : tChain r r' (tD X.K X.mg Wx fa) (tD X.K X.mg Wx fb) (tD X.K X.mg Wx fc) σ H Q := by
  obtain ⟨Hi, ι, ρ, m, RR, g⟩ := t
  refine ⟨Hi, ι, ρ, m, RR, good_bind g fun x m1 Hi1 ι1 v H1 st M rv g1 => ⟨Hi1, ι1, ρ, m1, RR.step st M, good_bind g1 fun y m2 Hi2 ι2 u H2 st2 M2 ru g2 => so Wx σ _ _ _ _ _ _ _ _ _ M2 (rv.step st2) ru (good_bind g2 fun z m3 Hi3 ι3 z' H3 st3 M3 rz g3 => ?_)⟩⟩
  split at g3
  · cases rz
    refine ⟨true, rfl, ?_⟩
    rw [if_pos rfl]
    exact ⟨Hi3, ι3, ρ, m3, ((RR.step st M).step st2 M2).step st3 M3, good_bind g3 fun q m4 Hi4 ι4 q' H4 st4 M4 rq g4 => so' Wx σ _ _ _ _ _ _ _ _ _ M4 ((ru.step st3).step st4) rq g4⟩
  · cases rz
    refine ⟨false, rfl, ?_⟩
    rw [if_neg (by decide)]
    exact g3.here (rep := RepW X.K X.mg) M3 (.bl false)
  · exact g3.elim
theorem pd_chain {a b c : Expr} {op op' : CmpOp} {pos : Pos} {r r' : R2} {o o' : O2} {fa fb fc : Ev} (ho : OpR X (compareOp op) r) (so : S2 X.K X.mg r o) (ho' : OpR X (compareOp op') r') (so' : S2 X.K X.mg r' o') (ha : PE X a (tD X.K X.mg Wx fa)) (hb : PE X b (tD X.K X.mg Wx fb)) (hc : PE X c (tD X.K X.mg Wx fc))
    (hm : lastMarks [op, op'] [b, c] = false := by with_unfolding_all rfl) : PE X (.Compare a [op, op'] [b, c] pos) (tD X.K X.mg Wx (fChain o o' fa fb fc)) :=
  PE.imp (pe_chain ho ho' ha hb hc hm) fun σ H Q t => chain_imp so so' t
theorem ptd_chain {a b c : Expr} {op op' : CmpOp} {pos : Pos} {r r' : R2} {o o' : O2} {fa fb fc : Ev} (ho : OpR X (compareOp op) r) (so : S2 X.K X.mg r o) (ho' : OpR X (compareOp op') r') (so' : S2 X.K X.mg r' o') (ha : PE X a (tD X.K X.mg Wx fa)) (hb : PE X b (tD X.K X.mg Wx fb)) (hc : PE X c (tD X.K X.mg Wx fc))
    (hm : lastMarks [op, op'] [b, c] = false := by with_unfolding_all rfl) : PT X (.Compare a [op, op'] [b, c] pos) (tDT X.K X.mg Wx (gBool (fChain o o' fa fb fc))) :=
  PT.imp (pt_chain ho ho' ha hb hc hm) fun σ H Q t => by
    obtain ⟨Hi, ι, ρ, m, RR, g⟩ := t
    refine chain_imp so so' ⟨Hi, ι, ρ, m, RR, good_bind g fun z m1 Hi1 ι1 z' H1 st M rz g1 => ?_⟩
    split at g1
    · cases rz
      exact ⟨_, rfl, g1.here M rfl⟩
    · exact g1.elim
end
/-! ### powers of great numbers -/
end GD

/-! GDS: how mirrors are reckoned. -/
namespace GD
open PySem PySem.Spec PyProof.Rows L2
section
variable {i j : Int} {x y : Str} {a b : Bool} {xs ys : List D} {k : Nat} {m : Mem} {ρ : Env} {d e : D}
@[simp] theorem oAdd_ii : oAdd (.d (.int i)) (.d (.int j)) m = .ok (.d (.int (i + j))) m := rfl
@[simp] theorem oAdd_tt : oAdd (.d (.tup xs)) (.d (.tup ys)) m = if xs.length + ys.length ≤ 100000 then .ok (.d (.tup (xs ++ ys))) m else .bad := rfl
@[simp] theorem oAdd_ss : oAdd (.d (.str x)) (.d (.str y)) m = if x.length + y.length ≤ 100000 then .ok (.d (.str (x ++ y))) m else .bad := rfl
@[simp] theorem oAdd_ll : oAdd (.d (.lst xs)) (.d (.lst ys)) m = if xs.length + ys.length ≤ 100000 then .ok (.d (.lst (xs ++ ys))) m else .bad := rfl
@[simp] theorem oSub_ii : oSub (.d (.int i)) (.d (.int j)) m = .ok (.d (.int (i - j))) m := rfl
@[simp] theorem oMul_ii : oMul (.d (.int i)) (.d (.int j)) m = if small i && small j then .ok (.d (.int (i * j))) m else .bad := rfl
@[simp] theorem oDiv_ii : oDiv (.d (.int i)) (.d (.int j)) m = if decide (0 < j) && small j then .ok (.d (.int (i / j))) m else .bad := rfl
@[simp] theorem oMod_ii : oMod (.d (.int i)) (.d (.int j)) m = if 0 < j then .ok (.d (.int (i % j))) m else .bad := rfl
theorem oPow_ii : oPow (.d (.int i)) (.d (.int j)) m = if (decide (0 ≤ j) && decide (j ≤ 1000)) && small i then .ok (.d (.int (i ^ j.toNat))) m else .bad := rfl
@[simp] theorem oNeg_i : oNeg (.d (.int i)) m = .ok (.d (.int (-i))) m := rfl
@[simp] theorem oLt_ii : oLt (.d (.int i)) (.d (.int j)) m = .ok (.d (.bl (decide (i < j)))) m := rfl
@[simp] theorem oLe_ii : oLe (.d (.int i)) (.d (.int j)) m = .ok (.d (.bl (decide (i ≤ j)))) m := rfl
@[simp] theorem oGt_ii : oGt (.d (.int i)) (.d (.int j)) m = .ok (.d (.bl (decide (j < i)))) m := rfl
@[simp] theorem oGe_ii : oGe (.d (.int i)) (.d (.int j)) m = .ok (.d (.bl (decide (j ≤ i)))) m := rfl
@[simp] theorem oEq_ii : oEq (.d (.int i)) (.d (.int j)) m = .ok (.d (.bl (decide (i = j)))) m := rfl
@[simp] theorem oEq_ss : oEq (.d (.str x)) (.d (.str y)) m = .ok (.d (.bl (decide (x = y)))) m := rfl
@[simp] theorem oEq_bb : oEq (.d (.bl a)) (.d (.bl b)) m = .ok (.d (.bl (decide (a = b)))) m := rfl
@[simp] theorem oNe_ii : oNe (.d (.int i)) (.d (.int j)) m = .ok (.d (.bl (!decide (i = j)))) m := rfl
@[simp] theorem oNe_ss : oNe (.d (.str x)) (.d (.str y)) m = .ok (.d (.bl (!decide (x = y)))) m := rfl
@[simp] theorem oNe_bb : oNe (.d (.bl a)) (.d (.bl b)) m = .ok (.d (.bl (!decide (a = b)))) m := rfl
@[simp] theorem oIs_nn : oIs (.d .non) (.d .non) m = .ok (.d (.bl true)) m := rfl
@[simp] theorem oIs_in : oIs (.d (.int i)) (.d .non) m = .ok (.d (.bl false)) m := rfl
@[simp] theorem oIs_sn : oIs (.d (.str x)) (.d .non) m = .ok (.d (.bl false)) m := rfl
@[simp] theorem oIs_bn : oIs (.d (.bl a)) (.d .non) m = .ok (.d (.bl false)) m := rfl
@[simp] theorem oIs_tn : oIs (.d (.tup xs)) (.d .non) m = .ok (.d (.bl false)) m := rfl
@[simp] theorem oIs_ln : oIs (.d (.lst xs)) (.d .non) m = .ok (.d (.bl false)) m := rfl
@[simp] theorem oIs_bb : oIs (.d (.bl a)) (.d (.bl b)) m = .ok (.d (.bl (decide (a = b)))) m := rfl
/-- the item at a place -/
def itm (xs : List D) (i : Int) (m : Mem) : R W := match atI xs i with
  | some x => .ok (.d x) m
  | none => .bad
@[simp] theorem oIx_t : oIx (.d (.tup xs)) (.d (.int i)) m = itm xs i m := rfl
@[simp] theorem oIx_l : oIx (.d (.lst xs)) (.d (.int i)) m = itm xs i m := rfl
@[simp] theorem oIx_m : oIx (.m k) (.d (.int i)) m = match m[k]? with
    | some (.lst xs) => itm xs i m
    | _ => .bad := by
  have e : oIx (.m k) (.d (.int i)) m = match lstOf (.m k) m with
    | some xs => itm xs i m
    | none => .bad := rfl
  rw [e]
  cases h : m[k]? with
  | none => simp [lstOf, h]
  | some mo => cases mo <;> simp [lstOf, h]
theorem atI_nat {α : Type} (xs : List α) (n : Nat) : atI xs (n : Int) = xs[n]? := by
  unfold atI ixN
  by_cases h : n < xs.length
  · rw [if_pos (by omega), if_pos (by omega)]
    simp
  · rw [if_pos (by omega), if_neg (by omega)]
    simp; omega
@[simp] theorem itm_nat {n : Nat} : itm xs (n : Int) m = match xs[n]? with
    | some x => .ok (.d x) m
    | none => .bad := by unfold itm; rw [atI_nat]
@[simp] theorem itm_0 : itm (d :: xs) 0 m = .ok (.d d) m := itm_nat (n := 0)
@[simp] theorem itm_1 {d0 : D} : itm (d0 :: d :: xs) 1 m = .ok (.d d) m := itm_nat (n := 1)
@[simp] theorem itm_2 {d0 d1 : D} : itm (d0 :: d1 :: d :: xs) 2 m = .ok (.d d) m := itm_nat (n := 2)
@[simp] theorem itm_3 {d0 d1 d2 : D} : itm (d0 :: d1 :: d2 :: d :: xs) 3 m = .ok (.d d) m := itm_nat (n := 3)
@[simp] theorem oLen_t : oLen [.d (.tup xs)] m = .ok (.d (.int xs.length)) m := rfl
@[simp] theorem oLen_l : oLen [.d (.lst xs)] m = .ok (.d (.int xs.length)) m := rfl
@[simp] theorem oLen_s : oLen [.d (.str x)] m = if x.length ≤ 100000 then .ok (.d (.int x.length)) m else .bad := rfl
@[simp] theorem oInt_i : oInt [.d (.int i)] m = .ok (.d (.int i)) m := rfl
@[simp] theorem oAbs_i : oAbs [.d (.int i)] m = .ok (.d (.int (if i < 0 then -i else i))) m := rfl
@[simp] theorem oMax_ii : oMax [.d (.int i), .d (.int j)] m = .ok (.d (.int (if j > i then j else i))) m := rfl
@[simp] theorem oMin_ii : oMin [.d (.int i), .d (.int j)] m = .ok (.d (.int (if j < i then j else i))) m := rfl
end
/-! ### the rules of reckoning -/
section
variable {ρ ρ1 ρ2 : Env} {m m1 m2 m3 : Mem} {w w1 w2 : W} {ws ws1 : List W} {a b : Ev} {la lb : EvL} {t u : EvT} {r : R W} {rb : R Bool} {q : RS} {p s : Ex} {x y : Bool}
theorem ev_var {n : Nat} (h : ρ[n]? = some (some w)) : fVar n ρ m = .ok w m := by unfold fVar; rw [h]
theorem ev_c {d : D} : fC d ρ m = .ok (.d d) m := rfl
theorem ev_nil : fNil ρ m = .ok [] m := rfl
theorem ev_cons (h1 : a ρ m = .ok w m1) (h2 : la ρ m1 = .ok ws m2) : fCons a la ρ m = .ok (w :: ws) m2 := by unfold fCons; rw [h1, R.bind_ok, h2]; rfl
theorem ev_op {o : O2} (h1 : a ρ m = .ok w1 m1) (h2 : b ρ m1 = .ok w2 m2) (h3 : o w1 w2 m2 = r) : fOp o a b ρ m = r := by unfold fOp; rw [h1, R.bind_ok, h2]; exact h3
theorem ev_un {o : O1} (h1 : a ρ m = .ok w1 m1) (h3 : o w1 m1 = r) : fUn o a ρ m = r := by unfold fUn; rw [h1]; exact h3
theorem ev_tup {xs : List D} (h1 : la ρ m = .ok ws m1) (h2 : dats ws = some xs) (h3 : xs.length ≤ 100000 := by decide) : fTup la ρ m = .ok (.d (.tup xs)) m1 := by unfold fTup; rw [h1, R.bind_ok, h2]; exact if_pos h3
theorem ev_lst {xs : List D} (h1 : la ρ m = .ok ws m1) (h2 : dats ws = some xs) (h3 : xs.length ≤ 100000 := by decide) : fLst la ρ m = .ok (.d (.lst xs)) m1 := by unfold fLst; rw [h1, R.bind_ok, h2]; exact if_pos h3
theorem ev_lstM {xs : List D} (h1 : la ρ m = .ok ws m1) (h2 : dats ws = some xs) (h3 : xs.length ≤ 100000 := by decide) : fLstM la ρ m = .ok (.m m1.length) (m1 ++ [.lst xs]) := by unfold fLstM; rw [h1, R.bind_ok, h2]; exact if_pos h3
theorem ev_cb {o : ON} (h1 : la ρ m = .ok ws m1) (h2 : o ws m1 = r) : fCB o la ρ m = r := by unfold fCB; rw [h1]; exact h2
theorem ev_call {f : Fn} (h1 : la ρ m = .ok ws m1) (h2 : f ws m1 = r) : fCall f la ρ m = r := by unfold fCall; rw [h1]; exact h2
theorem ev_callK {f : Fn} {g : List W → List W → List W} (h1 : la ρ m = .ok ws m1) (h0 : lb ρ m1 = .ok ws1 m2) (h2 : f (g ws ws1) m2 = r) : fCallK f g la lb ρ m = r := by unfold fCallK; rw [h1, R.bind_ok, h0]; exact h2
theorem ev_bm {ty : W → Mem → Bool} {op : OM} (h1 : a ρ m = .ok w m1) (h2 : ty w m1 = true) (h3 : la ρ m1 = .ok ws m2) (h4 : op w ws m2 = r) : fBM ty op a la ρ m = r := by unfold fBM; rw [h1, R.bind_ok, if_pos h2, h3]; exact h4
theorem ev_bm0 {ty : W → Mem → Bool} {op : OM} (h1 : a ρ m = .ok w m1) (h2 : ty w m1 = true) (h4 : op w [] m1 = r) : fBM0 ty op a ρ m = r := by unfold fBM0; rw [h1, R.bind_ok, if_pos h2]; exact h4
theorem ev_ifT (h1 : t ρ m = .ok true m1) (h2 : a ρ m1 = r) : fIf t a b ρ m = r := by unfold fIf; rw [h1]; exact h2
theorem ev_ifF (h1 : t ρ m = .ok false m1) (h2 : b ρ m1 = r) : fIf t a b ρ m = r := by unfold fIf; rw [h1]; exact h2
theorem ev_if (h1 : t ρ m = .ok x m1) (h2 : (if x then a ρ m1 else b ρ m1) = r) : fIf t a b ρ m = r := by unfold fIf; rw [h1]; exact h2
theorem ev_andT (h1 : a ρ m = .ok (.d (.bl true)) m1) (h2 : b ρ m1 = r) : fAnd a b ρ m = r := by unfold fAnd; rw [h1]; exact h2
theorem ev_andF (h1 : a ρ m = .ok (.d (.bl false)) m1) : fAnd a b ρ m = .ok (.d (.bl false)) m1 := by unfold fAnd; rw [h1]; rfl
theorem ev_and (h1 : a ρ m = .ok (.d (.bl x)) m1) (h2 : b ρ m1 = .ok (.d (.bl y)) m1) : fAnd a b ρ m = .ok (.d (.bl (x && y))) m1 := by
  cases x with
  | true => exact ev_andT h1 h2
  | false => exact ev_andF h1
theorem ev_orT (h1 : a ρ m = .ok (.d (.bl true)) m1) : fOr a b ρ m = .ok (.d (.bl true)) m1 := by unfold fOr; rw [h1]; rfl
theorem ev_orF (h1 : a ρ m = .ok (.d (.bl false)) m1) (h2 : b ρ m1 = r) : fOr a b ρ m = r := by unfold fOr; rw [h1]; exact h2
theorem ev_or (h1 : a ρ m = .ok (.d (.bl x)) m1) (h2 : b ρ m1 = .ok (.d (.bl y)) m1) : fOr a b ρ m = .ok (.d (.bl (x || y))) m1 := by
  cases x with
  | true => exact ev_orT h1
  | false => exact ev_orF h1 h2
theorem ev_not (h1 : a ρ m = .ok (.d (.bl x)) m1) : fNot a ρ m = .ok (.d (.bl (!x))) m1 := by unfold fNot; rw [h1]; rfl
/-- tests -/
theorem et_bool (h1 : a ρ m = .ok (.d (.bl x)) m1) : gBool a ρ m = .ok x m1 := by unfold gBool; rw [h1]; rfl
theorem et_test (h1 : a ρ m = .ok w m1) (h2 : truth w m1 = some x) : gTest a ρ m = .ok x m1 := by unfold gTest; rw [h1, R.bind_ok, h2]
theorem et_and (h1 : t ρ m = .ok x m1) (h2 : u ρ m1 = .ok y m1) : gAnd t u ρ m = .ok (x && y) m1 := by
  unfold gAnd
  rw [h1, R.bind_ok]
  cases x with
  | true => exact h2
  | false => rfl
theorem et_andT (h1 : t ρ m = .ok true m1) (h2 : u ρ m1 = rb) : gAnd t u ρ m = rb := by unfold gAnd; rw [h1, R.bind_ok]; exact h2
theorem et_andF (h1 : t ρ m = .ok false m1) : gAnd t u ρ m = .ok false m1 := by unfold gAnd; rw [h1, R.bind_ok]; rfl
theorem et_or (h1 : t ρ m = .ok x m1) (h2 : u ρ m1 = .ok y m1) : gOr t u ρ m = .ok (x || y) m1 := by
  unfold gOr
  rw [h1, R.bind_ok]
  cases x with
  | true => rfl
  | false => exact h2
theorem et_orT (h1 : t ρ m = .ok true m1) : gOr t u ρ m = .ok true m1 := by unfold gOr; rw [h1, R.bind_ok]; rfl
theorem et_orF (h1 : t ρ m = .ok false m1) (h2 : u ρ m1 = rb) : gOr t u ρ m = rb := by unfold gOr; rw [h1, R.bind_ok]; exact h2
theorem et_not (h1 : t ρ m = .ok x m1) : gNot t ρ m = .ok (!x) m1 := by unfold gNot; rw [h1]; rfl
/-- statements -/
theorem es_seq (h1 : p ρ m = .nx ρ1 m1) (h2 : s ρ1 m1 = q) : sSeq p s ρ m = q := by unfold sSeq; rw [h1]; exact h2
theorem es_seqR (h1 : p ρ m = .rt w m1) : sSeq p s ρ m = .rt w m1 := by unfold sSeq; rw [h1]
theorem es_seqX {c : Str} {ns : List Str} {vs : List D} (h1 : p ρ m = .xc c ns vs ρ1 m1) : sSeq p s ρ m = .xc c ns vs ρ1 m1 := by unfold sSeq; rw [h1]
theorem es_ifT (h1 : t ρ m = .ok true m1) (h2 : p ρ m1 = q) : sIf t p s ρ m = q := by unfold sIf; rw [h1]; exact h2
theorem es_ifF (h1 : t ρ m = .ok false m1) (h2 : s ρ m1 = q) : sIf t p s ρ m = q := by unfold sIf; rw [h1]; exact h2
theorem es_if (h1 : t ρ m = .ok x m1) (h2 : (if x then p ρ m1 else s ρ m1) = q) : sIf t p s ρ m = q := by unfold sIf; rw [h1]; exact h2
theorem es_frz {i k : Nat} {xs : List D} (h : p ρ m = .nx ρ1 m1) (h1 : ρ1[i]? = some (some (.m k))) (h2 : m1[k]? = some (.lst xs)) : sFrz i p ρ m = .nx (ρ1.set i (some (.d (.lst xs)))) (m1.set k .dead) := by
  unfold sFrz; rw [h]; dsimp only; rw [h1]; dsimp only; rw [h2]
theorem es_next : sNext ρ m = .nx ρ m := rfl
theorem es_drop (h1 : a ρ m = .ok w m1) : sDrop a ρ m = .nx ρ m1 := by unfold sDrop; rw [h1]; rfl
theorem es_ret (h1 : a ρ m = .ok w m1) : sRet a ρ m = .rt w m1 := by unfold sRet; rw [h1]; rfl
theorem es_retX {c : Str} {ns : List Str} {vs : List D} (h1 : a ρ m = .exc c ns vs m1) : sRet a ρ m = .xc c ns vs ρ m1 := by unfold sRet; rw [h1]; rfl
theorem es_set {n : Nat} (h1 : a ρ m = .ok w m1) : sAsg a (tgName n) ρ m = .nx (ρ.set n (some w)) m1 := by unfold sAsg; rw [h1]; rfl
theorem es_asg {g : Tg} (h1 : a ρ m = .ok w m1) (h2 : g w ρ m1 = .ok ρ2 m2) : sAsg a g ρ m = .nx ρ2 m2 := by unfold sAsg; rw [h1, R.lift_ok, h2]; rfl
theorem es_par {i j : Nat} (h1 : la ρ m = .ok [w1, w2] m1) : sPar i j la ρ m = .nx ((ρ.set i (some w1)).set j (some w2)) m1 := by unfold sPar; rw [h1]; rfl
theorem es_for {g : Tg} {it : EvL} (h1 : it ρ m = .ok ws m1) (h2 : loop g p ws ρ m1 = q) : sFor it g p ρ m = q := by unfold sFor; rw [h1]; exact h2
theorem es_while {fu : Env → Mem → Nat} (h : whl t p (fu ρ m) ρ m = q) : sWhile fu t p ρ m = q := h
theorem tg_un2t {g : TgL} {n : Nat} {xs : List D} {rr : R Env} (h : xs.length = n) (h2 : g (xs.map .d) ρ m = rr) : tgUn n g (.d (.tup xs)) ρ m = rr := by unfold tgUn; dsimp only; rw [if_pos h]; exact h2
theorem tg_un2l {g : TgL} {n : Nat} {xs : List D} {rr : R Env} (h : xs.length = n) (h2 : g (xs.map .d) ρ m = rr) : tgUn n g (.d (.lst xs)) ρ m = rr := by unfold tgUn; dsimp only; rw [if_pos h]; exact h2
theorem loop_nil {g : Tg} : loop g p [] ρ m = .nx ρ m := rfl
theorem loop_cons {g : Tg} (h1 : g w ρ m = .ok ρ1 m1) (h2 : p ρ1 m1 = .nx ρ2 m2) (h3 : loop g p ws ρ2 m2 = q) : loop g p (w :: ws) ρ m = q := by unfold loop; rw [h1]; simp only [noX, R.lift_ok]; rw [h2]; exact h3
theorem loop_ret {g : Tg} (h1 : g w ρ m = .ok ρ1 m1) (h2 : p ρ1 m1 = .rt w1 m2) : loop g p (w :: ws) ρ m = .rt w1 m2 := by unfold loop; rw [h1]; simp only [noX, R.lift_ok]; rw [h2]
theorem whl_stop {n : Nat} (h1 : t ρ m = .ok false m1) : whl t p (n + 1) ρ m = .nx ρ m1 := by unfold whl; rw [h1]; rfl
theorem whl_turn {n : Nat} (h1 : t ρ m = .ok true m1) (h2 : p ρ m1 = .nx ρ1 m2) (h3 : whl t p n ρ1 m2 = q) : whl t p (n + 1) ρ m = q := by unfold whl; rw [h1]; simp only [R.lift_ok, if_true]; rw [h2]; exact h3
theorem fn_ret {mu : Bool} {np N : Nat} (hl : ws.length = np) (h : p (ws.map some ++ List.replicate (N - ws.length) none) m = .rt w m1) : fnOf mu np N p ws m = leave mu m.length w m1 := by unfold fnOf; rw [if_pos hl, h]
theorem fn_nx {mu : Bool} {np N : Nat} (hl : ws.length = np) (h : p (ws.map some ++ List.replicate (N - ws.length) none) m = .nx ρ1 m1) : fnOf mu np N p ws m = leave mu m.length (.d .non) m1 := by unfold fnOf; rw [if_pos hl, h]
theorem fn_xc {mu : Bool} {np N : Nat} {c : Str} {ns : List Str} {vs : List D} (hl : ws.length = np) (h : p (ws.map some ++ List.replicate (N - ws.length) none) m = .xc c ns vs ρ1 m1) : fnOf mu np N p ws m = .exc c ns vs (m1.take m.length) := by unfold fnOf; rw [if_pos hl, h]
theorem leave_d {mu : Bool} {n : Nat} {x : D} : leave mu n (.d x) m = .ok (.d x) (m.take n) := rfl
theorem lc_eq {it : EvL} {g : Tg} {vs : List Nat} {xs : List D} (h1 : it ρ m = .ok ws m1) (h2 : lcs g t a (wipeE ρ vs) ws [] m1 = .ok xs m2) : fLc it g t a vs ρ m = .ok (.d (.lst xs)) m2 := by unfold fLc; rw [h1, R.bind_ok, h2]; rfl
theorem lcs_nil {g : Tg} {acc : List D} : lcs g t a ρ [] acc m = .ok acc m := rfl
theorem lcs_take {g : Tg} {acc : List D} {d : D} {rr : R (List D)} (h1 : g w ρ m = .ok ρ1 m1) (h2 : t ρ1 m1 = .ok true m2) (h3 : a ρ1 m2 = .ok (.d d) m3) (hl : acc.length < 100000) (h4 : lcs g t a ρ ws (acc ++ [d]) m3 = rr) : lcs g t a ρ (w :: ws) acc m = rr := by
  unfold lcs; rw [h1, R.bind_ok, h2, R.bind_ok, if_pos rfl, h3, R.bind_ok]; dsimp only; rw [if_pos hl]; exact h4
theorem lcs_skip {g : Tg} {acc : List D} {rr : R (List D)} (h1 : g w ρ m = .ok ρ1 m1) (h2 : t ρ1 m1 = .ok false m2) (h4 : lcs g t a ρ ws acc m2 = rr) : lcs g t a ρ (w :: ws) acc m = rr := by
  unfold lcs; rw [h1, R.bind_ok, h2, R.bind_ok, if_neg (by decide)]; exact h4
/-- a comprehension that changes nothing: map and filter -/
theorem lcs_pure {g : Tg} (P : W → Bool) (f : W → D) (hg : ∀ w ∈ ws, ∃ ρ1, g w ρ m = .ok ρ1 m ∧ t ρ1 m = .ok (P w) m ∧ (P w = true → a ρ1 m = .ok (.d (f w)) m)) : ∀ (acc : List D), acc.length + ws.length ≤ 100000 → lcs g t a ρ ws acc m = .ok (acc ++ (ws.filter P).map f) m := by
  induction ws with
  | nil => intro acc _; simp [lcs]
  | cons w ws ih =>
    intro acc hl
    obtain ⟨ρ1, h1, h2, h3⟩ := hg w List.mem_cons_self
    have ih' := ih fun w' hw => hg w' (List.mem_cons_of_mem _ hw)
    rw [List.length_cons] at hl
    cases hp : P w with
    | true =>
      rw [hp] at h2
      rw [lcs_take h1 h2 (h3 hp) (by omega) (ih' _ (by simp; omega)), List.filter_cons_of_pos hp]
      simp
    | false =>
      rw [hp] at h2
      rw [lcs_skip h1 h2 (ih' _ (by omega)), List.filter_cons_of_neg (by simp [hp])]
end
/-! numbers that are not too great -/
theorem small_of {i : Int} (h : i.natAbs < 10 ^ 200) : small i = true := by
  unfold small BIG
  exact decide_eq_true (Nat.lt_trans h (by decide +kernel))
section
variable {i j : Int} {m : Mem}
theorem mul_ok (h1 : small i = true) (h2 : small j = true) : oMul (.d (.int i)) (.d (.int j)) m = .ok (.d (.int (i * j))) m := by rw [oMul_ii, h1, h2]; rfl
theorem div_ok (h1 : 0 < j) (h2 : small j = true) : oDiv (.d (.int i)) (.d (.int j)) m = .ok (.d (.int (i / j))) m := by rw [oDiv_ii, decide_eq_true h1, h2]; rfl
theorem mod_ok (h1 : 0 < j) : oMod (.d (.int i)) (.d (.int j)) m = .ok (.d (.int (i % j))) m := by rw [oMod_ii, if_pos h1]
theorem powW_ok (h1 : 0 ≤ j) (h2 : j ≤ 1000) (h3 : small i = true) : oPow (.d (.int i)) (.d (.int j)) m = .ok (.d (.int (i ^ j.toNat))) m := by
  rw [oPow_ii, if_pos]
  rw [Bool.and_eq_true, Bool.and_eq_true]
  exact ⟨⟨decide_eq_true h1, decide_eq_true h2⟩, h3⟩
theorem pow_ok (h1 : 0 ≤ j ∧ j ≤ 1000 ∧ i.natAbs < 1000) : oPow (.d (.int i)) (.d (.int j)) m = .ok (.d (.int (i ^ j.toNat))) m := powW_ok h1.1 h1.2.1 (small_of (Nat.lt_of_lt_of_le h1.2.2 (by decide)))
theorem ixm_ok {k : Nat} {xs : List D} {x : D} (h1 : m[k]? = some (.lst xs)) (h2 : atI xs i = some x) : oIx (.m k) (.d (.int i)) m = .ok (.d x) m := by rw [oIx_m, h1]; dsimp only; unfold itm; rw [h2]
theorem ixt_ok {xs : List D} {x : D} (h2 : atI xs i = some x) : oIx (.d (.tup xs)) (.d (.int i)) m = .ok (.d x) m := by rw [oIx_t]; unfold itm; rw [h2]
theorem ixl_ok {xs : List D} {x : D} (h2 : atI xs i = some x) : oIx (.d (.lst xs)) (.d (.int i)) m = .ok (.d x) m := by rw [oIx_l]; unfold itm; rw [h2]
theorem tgSub_ok {fo fi : Ev} {ρ : Env} {m1 m2 : Mem} {k n : Nat} {xs : List D} {x : D} (h1 : fo ρ m = .ok (.m k) m1) (h2 : fi ρ m1 = .ok (.d (.int i)) m2) (h3 : m2[k]? = some (.lst xs)) (h4 : ixN xs.length i = some n) : tgSub fo fi (.d x) ρ m = .ok ρ (m2.set k (.lst (xs.set n x))) := by
  unfold tgSub; rw [h1, R.bind_ok, h2, R.bind_ok]; dsimp only; rw [h3]; dsimp only; rw [h4]
end
end GD

namespace GD
open PySem PySem.Spec PyProof.Rows L2
def b__law_bag : Ex :=
    (sSeq (sAsg (fC (.int 3817)) (tgName 1))
    (sSeq (sFor (iSeq (fSl false (fVar 0) pNone (pSome (fC (.int 63))))) (tgName 2)
    (sAsg (fOp oMod (fCB oInt (fCons (fOp oAdd (fOp oAdd (fOp oMul (fVar 1) (fC (.int 44021))) (fOp oMod (fCB oInt (fCons (fVar 2) fNil)) (fC (.int 2147483579)))) (fC (.int 19))) fNil)) (fC (.int 2147483647))) (tgName 1)))
    (sRet (fLstM (fCons (fCB (oList false) (fCons (fSl false (fVar 0) pNone (pSome (fC (.int 63)))) fNil)) (fCons (fC (.int 0)) (fCons (fC (.int 0)) (fCons (fVar 1) fNil))))))))
def m__law_bag : Fn := fnOf true 1 3 b__law_bag
def b__law_pull : Ex :=
    (sSeq (sIf (gAnd (gBool (fOp oEq (fOp oIx (fVar 0) (fC (.int 2))) (fC (.int 0)))) (gBool (fOp oLt (fOp oIx (fVar 0) (fC (.int 1))) (fCB oLen (fCons (fOp oIx (fVar 0) (fC (.int 0))) fNil)))))
    (sSeq (sAsg (fOp oIx (fOp oIx (fVar 0) (fC (.int 0))) (fOp oIx (fVar 0) (fC (.int 1)))) (tgName 2))
    (sSeq (sAsg (fOp oAdd (fOp oIx (fVar 0) (fC (.int 1))) (fC (.int 1))) (tgSub (fVar 0) (fC (.int 1))))
    (sIf (gBool (fOp oGe (fVar 2) (fOp oPow (fC (.int 10)) (fC (.int 18)))))
    (sAsg (fVar 2) (tgSub (fVar 0) (fC (.int 2))))
    (sAsg (fOp oMod (fCB oInt (fCons (fOp oAdd (fOp oAdd (fOp oMul (fOp oIx (fVar 0) (fC (.int 3))) (fC (.int 40692))) (fOp oMul (fOp oMod (fCB oInt (fCons (fVar 2) fNil)) (fC (.int 2147483579))) (fC (.int 69621)))) (fC (.int 11))) fNil)) (fC (.int 2147483647))) (tgSub (fVar 0) (fC (.int 3)))))))
    sNext)
    (sSeq (sIf (gBool (fOp oGt (fOp oIx (fVar 0) (fC (.int 2))) (fC (.int 0))))
    (sSeq (sAsg (fOp oMod (fCB oInt (fCons (fOp oIx (fVar 0) (fC (.int 2))) fNil)) (fVar 1)) (tgName 3))
    (sSeq (sAsg (fOp oDiv (fOp oIx (fVar 0) (fC (.int 2))) (fVar 1)) (tgSub (fVar 0) (fC (.int 2))))
    (sRet (fVar 3))))
    sNext)
    (sSeq (sAsg (fOp oIx (fVar 0) (fC (.int 3))) (tgName 4))
    (sSeq (sAsg (fOp oMod (fCB oInt (fCons (fOp oAdd (fOp oAdd (fOp oMul (fVar 4) (fVar 4)) (fOp oMul (fVar 4) (fC (.int 48271)))) (fC (.int 1013904223))) fNil)) (fC (.int 2147483647))) (tgSub (fVar 0) (fC (.int 3))))
    (sRet (fOp oMod (fCB oInt (fCons (fOp oAdd (fOp oDiv (fOp oIx (fVar 0) (fC (.int 3))) (fC (.int 97))) (fOp oMul (fOp oMod (fCB oInt (fCons (fOp oIx (fVar 0) (fC (.int 3))) fNil)) (fC (.int 8191))) (fC (.int 67)))) fNil)) (fVar 1)))))))
def m__law_pull : Fn := fnOf false 2 5 b__law_pull

local macro_rules | `(tactic| walk_at "ev") => `(tactic| (repeat (first
  | with_reducible exact ev_c | with_reducible exact ev_nil | with_reducible exact es_next | ((with_reducible apply ev_var); exact rfl)
  | with_reducible apply ev_cons | with_reducible apply ev_op | with_reducible apply ev_un | with_reducible apply ev_cb | with_reducible apply ev_call | with_reducible apply ev_callK
  | with_reducible apply et_bool | with_reducible apply et_not
  | with_reducible apply es_seq | with_reducible apply es_drop | with_reducible apply es_ret | with_reducible apply es_set | with_reducible apply es_par
  | with_reducible exact oAdd_ii | with_reducible exact oSub_ii | with_reducible exact oLt_ii | with_reducible exact oLe_ii | with_reducible exact oGt_ii | with_reducible exact oGe_ii | with_reducible exact oEq_ii | with_reducible exact oNe_ii | with_reducible exact oInt_i | with_reducible exact oLen_l | with_reducible exact oNeg_i | with_reducible exact oAbs_i | with_reducible exact oMax_ii | with_reducible exact oMin_ii
  | ((with_reducible apply mod_ok); first | decide | with_reducible assumption) | ((with_reducible apply mul_ok) <;> with_reducible assumption) | ((with_reducible apply div_ok) <;> with_reducible assumption)
  | ((with_reducible apply ixm_ok); exact rfl; exact rfl) | ((with_reducible apply ixt_ok); exact rfl) | ((with_reducible apply ixl_ok); exact rfl) | ((with_reducible apply pow_ok); decide)
  | ((with_reducible apply ev_tup); rotate_left; exact rfl; decide) | ((with_reducible apply ev_lst); rotate_left; exact rfl; decide))))
/-- the bag -/
structure Bag where
  cells : List Int
  i : Nat
  rest : Nat
  seed : Nat
  hs : seed < 2147483647
def Bag.mo (b : Bag) : MO := .lst [.lst (b.cells.map .int), .int b.i, .int b.rest, .int b.seed]
/-- the first part of a pull: a cell is taken -/
def Bag.take (b : Bag) : Bag := if b.rest = 0 then (match b.cells[b.i]? with
  | some c => if 10 ^ 18 ≤ c then { b with i := b.i + 1, rest := c.toNat } else { b with i := b.i + 1, seed := (b.seed * 40692 + (c % 2147483579).toNat * 69621 + 11) % 2147483647, hs := Nat.mod_lt _ (by decide) }
  | none => b) else b
def Bag.turn (b : Bag) : Bag := { b with seed := (b.seed * b.seed + b.seed * 48271 + 1013904223) % 2147483647, hs := Nat.mod_lt _ (by decide) }
def Bag.val (b : Bag) (k : Nat) : Nat := if 0 < b.take.rest then b.take.rest % k else (b.take.turn.seed / 97 + b.take.turn.seed % 8191 * 67) % k
def Bag.nxt (b : Bag) (k : Nat) : Bag := if 0 < b.take.rest then { b.take with rest := b.take.rest / k } else b.take.turn
theorem Bag.val_lt (b : Bag) {k : Nat} (h : 0 < k) : b.val k < k := by
  unfold Bag.val
  split <;> exact Nat.mod_lt _ h
theorem small_nat {n : Nat} (h : n < 10 ^ 200) : small (n : Int) = true := small_of (by simpa using h)
theorem bag_set1 {ρ : Env} {b : Bag} {rest : Mem} {x : Nat} (h : ρ[0]? = some (some (.m 0))) : tgSub (fVar 0) (fC (.int 1)) (.d (.int (x : Int))) ρ (b.mo :: rest) = .ok ρ (({ b with i := x } : Bag).mo :: rest) :=
  tgSub_ok (xs := [.lst (b.cells.map .int), .int b.i, .int b.rest, .int b.seed]) (n := 1) (ev_var h) ev_c rfl rfl
theorem bag_set2 {ρ : Env} {b : Bag} {rest : Mem} {x : Nat} (h : ρ[0]? = some (some (.m 0))) : tgSub (fVar 0) (fC (.int 2)) (.d (.int (x : Int))) ρ (b.mo :: rest) = .ok ρ (({ b with rest := x } : Bag).mo :: rest) :=
  tgSub_ok (xs := [.lst (b.cells.map .int), .int b.i, .int b.rest, .int b.seed]) (n := 2) (ev_var h) ev_c rfl rfl
theorem bag_set3 {ρ : Env} {b : Bag} {rest : Mem} {x : Nat} (hx : x < 2147483647) (h : ρ[0]? = some (some (.m 0))) : tgSub (fVar 0) (fC (.int 3)) (.d (.int (x : Int))) ρ (b.mo :: rest) = .ok ρ (({ b with seed := x, hs := hx } : Bag).mo :: rest) :=
  tgSub_ok (xs := [.lst (b.cells.map .int), .int b.i, .int b.rest, .int b.seed]) (n := 3) (ev_var h) ev_c rfl rfl
/-- the second part -/
theorem pull2 (b : Bag) (rest : Mem) (k : Nat) (hk : 0 < k) (hs : k < 10 ^ 200) (o : Option W) {p : Ex}
    (hp : p = (sSeq (sIf (gBool (fOp oGt (fOp oIx (fVar 0) (fC (.int 2))) (fC (.int 0))))
    (sSeq (sAsg (fOp oMod (fCB oInt (fCons (fOp oIx (fVar 0) (fC (.int 2))) fNil)) (fVar 1)) (tgName 3))
    (sSeq (sAsg (fOp oDiv (fOp oIx (fVar 0) (fC (.int 2))) (fVar 1)) (tgSub (fVar 0) (fC (.int 2))))
    (sRet (fVar 3))))
    sNext)
    (sSeq (sAsg (fOp oIx (fVar 0) (fC (.int 3))) (tgName 4))
    (sSeq (sAsg (fOp oMod (fCB oInt (fCons (fOp oAdd (fOp oAdd (fOp oMul (fVar 4) (fVar 4)) (fOp oMul (fVar 4) (fC (.int 48271)))) (fC (.int 1013904223))) fNil)) (fC (.int 2147483647))) (tgSub (fVar 0) (fC (.int 3))))
    (sRet (fOp oMod (fCB oInt (fCons (fOp oAdd (fOp oDiv (fOp oIx (fVar 0) (fC (.int 3))) (fC (.int 97))) (fOp oMul (fOp oMod (fCB oInt (fCons (fOp oIx (fVar 0) (fC (.int 3))) fNil)) (fC (.int 8191))) (fC (.int 67)))) fNil)) (fVar 1))))))) :
    p [some (.m 0), some (.d (.int k)), o, none, none] (b.mo :: rest) = .rt (.d (.int ((if 0 < b.rest then b.rest % k else (b.turn.seed / 97 + b.turn.seed % 8191 * 67) % k : Nat) : Int))) ((if 0 < b.rest then { b with rest := b.rest / k } else b.turn : Bag).mo :: rest) := by
  subst hp
  have s3 : small 48271 = true := small_of (by decide)
  have s4 : small 97 = true := small_of (by decide)
  have s5 : small 67 = true := small_of (by decide)
  have sk : small (k : Int) = true := small_nat hs
  have hk' : (0 : Int) < (k : Int) := by omega
  by_cases h0 : 0 < b.rest
  · rw [if_pos h0, if_pos h0]
    refine' es_seqR (es_ifT (m1 := b.mo :: rest) ?_ ?_)
    · refine et_bool ?_
      refine ev_op (w1 := .d (.int b.rest)) (m1 := b.mo :: rest) ?_ ev_c (by rw [oGt_ii, decide_eq_true (by omega)])
      walk_at "ev"
    · walk_at "ev"
      · refine' es_asg (w := .d (.int ((b.rest / k : Nat) : Int))) (ev_op (w1 := .d (.int b.rest)) (m1 := b.mo :: rest) ?_ (ev_var rfl) (div_ok hk' sk)) (bag_set2 rfl)
        walk_at "ev"
      · exact es_ret (ev_var (w := .d (.int ((b.rest % k : Nat) : Int))) rfl)
  · rw [if_neg h0, if_neg h0]
    have h00 : b.rest = 0 := by omega
    have ss : small (b.seed : Int) = true := small_nat (Nat.lt_trans b.hs (by decide))
    have ss2 : small ((b.turn.seed % 8191 : Nat) : Int) = true := small_nat (Nat.lt_of_lt_of_le (Nat.mod_lt _ (by decide)) (by decide))
    refine' es_seq (es_ifF (m1 := b.mo :: rest) ?_ es_next) ?_
    · refine et_bool ?_
      refine ev_op (w1 := .d (.int b.rest)) (m1 := b.mo :: rest) ?_ ev_c (by rw [oGt_ii, decide_eq_false (by omega)])
      walk_at "ev"
    · refine es_seq (es_set (w := .d (.int b.seed)) (m1 := b.mo :: rest) ?_) ?_
      · walk_at "ev"
      refine es_seq (ρ1 := [some (.m 0), some (.d (.int k)), o, none, some (.d (.int b.seed))]) (m1 := b.turn.mo :: rest) (es_asg (w := .d (.int (b.turn.seed : Int))) (m1 := b.mo :: rest) ?_ (bag_set3 b.turn.hs rfl)) ?_
      · have e : (b.turn.seed : Int) = ((b.seed : Int) * b.seed + b.seed * 48271 + 1013904223) % 2147483647 := by
          show (((b.seed * b.seed + b.seed * 48271 + 1013904223) % 2147483647 : Nat) : Int) = _
          simp only [Int.natCast_emod, Int.natCast_add, Int.natCast_mul, Int.cast_ofNat_Int]
        rw [e]
        walk_at "ev"
      · refine es_ret ?_
        refine ev_op (w1 := .d (.int ((b.turn.seed / 97 + b.turn.seed % 8191 * 67 : Nat) : Int))) (m1 := b.turn.mo :: rest) ?_ (ev_var rfl) ?_
        · refine ev_cb (ev_cons (w := .d (.int ((b.turn.seed / 97 + b.turn.seed % 8191 * 67 : Nat) : Int))) (m1 := b.turn.mo :: rest) ?_ ev_nil) oInt_i
          refine ev_op (w1 := .d (.int ((b.turn.seed / 97 : Nat) : Int))) (m1 := b.turn.mo :: rest) ?_ (ev_op (w1 := .d (.int ((b.turn.seed % 8191 : Nat) : Int))) (m1 := b.turn.mo :: rest) ?_ ev_c (mul_ok ss2 s5)) ?_
          · refine ev_op (w1 := .d (.int b.turn.seed)) (m1 := b.turn.mo :: rest) ?_ ev_c (div_ok (by decide) s4)
            walk_at "ev"
          · refine ev_op (w1 := .d (.int b.turn.seed)) (m1 := b.turn.mo :: rest) ?_ ev_c (mod_ok (by decide))
            walk_at "ev"
          · rw [oAdd_ii]
            simp only [Int.natCast_add, Int.natCast_mul, Int.cast_ofNat_Int]
        · rw [mod_ok hk', ← Int.natCast_emod]
theorem pull_eq (b : Bag) (rest : Mem) (k : Nat) (hk : 0 < k) (hs : k < 10 ^ 200) : m__law_pull [.m 0, .d (.int k)] (b.mo :: rest) = .ok (.d (.int (b.val k))) ((b.nxt k).mo :: rest) := by
  have fin : ∀ (b' : Bag), b.take = b' → b__law_pull [some (.m 0), some (.d (.int k)), none, none, none] (b.mo :: rest) = .rt (.d (.int ((if 0 < b'.rest then b'.rest % k else (b'.turn.seed / 97 + b'.turn.seed % 8191 * 67) % k : Nat) : Int))) ((if 0 < b'.rest then { b' with rest := b'.rest / k } else b'.turn : Bag).mo :: rest) →
      m__law_pull [.m 0, .d (.int k)] (b.mo :: rest) = .ok (.d (.int (b.val k))) ((b.nxt k).mo :: rest) := by
    intro b' h3 h2
    have z := fn_ret (mu := false) (np := 2) (N := 5) (ws := [.m 0, .d (.int k)]) rfl h2
    show fnOf false 2 5 b__law_pull _ _ = _
    rw [z]
    unfold Bag.val Bag.nxt
    rw [h3]
    show R.ok _ (((if 0 < b'.rest then { b' with rest := b'.rest / k } else b'.turn : Bag).mo :: rest).take (rest.length + 1)) = _
    simp
  have hk' : (0 : Int) < (k : Int) := by omega
  obtain ⟨cells, i, r, seed, hseed⟩ := b
  by_cases h0 : r = 0
  · subst h0
    cases hc : cells[i]? with
    | none =>
      have hi : ¬ (i : Int) < (cells.length : Int) := by
        have := List.getElem?_eq_none_iff.mp hc
        omega
      have ht : (Bag.mk cells i 0 seed hseed).take = Bag.mk cells i 0 seed hseed := by simp [Bag.take, hc]
      refine fin ⟨cells, i, 0, seed, hseed⟩ ht ?_
      unfold b__law_pull
      refine es_seq (ρ1 := [some (.m 0), some (.d (.int k)), none, none, none]) (m1 := (Bag.mk cells i 0 seed hseed).mo :: rest) (es_ifF (m1 := (Bag.mk cells i 0 seed hseed).mo :: rest) (et_andT (m1 := (Bag.mk cells i 0 seed hseed).mo :: rest) ?_ ?_) es_next) ?_
      · refine et_bool (ev_op (w1 := .d (.int (0 : Nat))) (m1 := (Bag.mk cells i 0 seed hseed).mo :: rest) ?_ ev_c (by rw [oEq_ii]; rfl))
        walk_at "ev"
      · refine et_bool ?_
        refine ev_op (w1 := .d (.int i)) (m1 := (Bag.mk cells i 0 seed hseed).mo :: rest) ?_ (ev_cb (ev_cons (w := .d (.lst (cells.map .int))) (m1 := (Bag.mk cells i 0 seed hseed).mo :: rest) ?_ ev_nil) oLen_l) ?_
        · walk_at "ev"
        · walk_at "ev"
        · rw [oLt_ii, List.length_map, decide_eq_false hi]
      · exact pull2 ⟨cells, i, 0, seed, hseed⟩ rest k hk hs none rfl
    | some c =>
      have hl : i < cells.length := (List.getElem?_eq_some_iff.mp hc).1
      have hi : (i : Int) < (cells.length : Int) := by omega
      have hat : atI (cells.map D.int) (i : Int) = some (.int c) := by rw [GD.atI_nat, List.getElem?_map, hc]; rfl
      have hd : (Bag.mk cells (i + 1) 0 seed hseed).mo = (Bag.mk cells (i + 1) 0 seed hseed).mo := rfl
      have test : gAnd (gBool (fOp oEq (fOp oIx (fVar 0) (fC (.int 2))) (fC (.int 0)))) (gBool (fOp oLt (fOp oIx (fVar 0) (fC (.int 1))) (fCB oLen (fCons (fOp oIx (fVar 0) (fC (.int 0))) fNil)))) [some (.m 0), some (.d (.int k)), none, none, none] ((Bag.mk cells i 0 seed hseed).mo :: rest) = .ok true ((Bag.mk cells i 0 seed hseed).mo :: rest) := by
        refine et_andT (m1 := (Bag.mk cells i 0 seed hseed).mo :: rest) ?_ ?_
        · refine et_bool (ev_op (w1 := .d (.int (0 : Nat))) (m1 := (Bag.mk cells i 0 seed hseed).mo :: rest) ?_ ev_c (by rw [oEq_ii]; rfl))
          walk_at "ev"
        · refine et_bool ?_
          refine ev_op (w1 := .d (.int i)) (m1 := (Bag.mk cells i 0 seed hseed).mo :: rest) ?_ (ev_cb (ev_cons (w := .d (.lst (cells.map .int))) (m1 := (Bag.mk cells i 0 seed hseed).mo :: rest) ?_ ev_nil) oLen_l) ?_
          · walk_at "ev"
          · walk_at "ev"
          · rw [oLt_ii, List.length_map, decide_eq_true hi]
      -- the cell is taken, the place goes on
      have first : ∀ {q : Ex} {res : RS}, q [some (.m 0), some (.d (.int k)), some (.d (.int c)), none, none] ((Bag.mk cells (i + 1) 0 seed hseed).mo :: rest) = res →
          sSeq (sAsg (fOp oIx (fOp oIx (fVar 0) (fC (.int 0))) (fOp oIx (fVar 0) (fC (.int 1)))) (tgName 2)) (sSeq (sAsg (fOp oAdd (fOp oIx (fVar 0) (fC (.int 1))) (fC (.int 1))) (tgSub (fVar 0) (fC (.int 1)))) q) [some (.m 0), some (.d (.int k)), none, none, none] ((Bag.mk cells i 0 seed hseed).mo :: rest) = res := by
        intro q res h
        refine es_seq (es_set (w := .d (.int c)) (m1 := (Bag.mk cells i 0 seed hseed).mo :: rest) ?_) ?_
        · refine ev_op (w1 := .d (.lst (cells.map .int))) (m1 := (Bag.mk cells i 0 seed hseed).mo :: rest) (w2 := .d (.int i)) (m2 := (Bag.mk cells i 0 seed hseed).mo :: rest) ?_ ?_ (ixl_ok hat)
          · walk_at "ev"
          · walk_at "ev"
        · refine es_seq (es_asg (w := .d (.int ((i + 1 : Nat) : Int))) (m1 := (Bag.mk cells i 0 seed hseed).mo :: rest) ?_ (bag_set1 rfl)) h
          refine ev_op (w1 := .d (.int i)) (m1 := (Bag.mk cells i 0 seed hseed).mo :: rest) ?_ ev_c ?_
          · walk_at "ev"
          · rw [oAdd_ii]; rfl
      have big : ∀ (b' : Bag), b'.cells = cells → fOp oGe (fVar 2) (fOp oPow (fC (.int 10)) (fC (.int 18))) [some (.m 0), some (.d (.int k)), some (.d (.int c)), none, none] (b'.mo :: rest) = .ok (.d (.bl (decide ((10 : Int) ^ 18 ≤ c)))) (b'.mo :: rest) := by
        intro b' _
        refine ev_op (w1 := .d (.int c)) (m1 := b'.mo :: rest) (ev_var rfl) (w2 := .d (.int (10 ^ 18))) (m2 := b'.mo :: rest) ?_ ?_
        · exact ev_op ev_c ev_c (pow_ok (by decide))
        · rw [oGe_ii]
      by_cases hb : (10 : Int) ^ 18 ≤ c
      · have hc0 : ((c.toNat : Nat) : Int) = c := Int.toNat_of_nonneg (Int.le_trans (by decide) hb)
        have hcp : c.toNat ≠ 0 := by
          intro z
          rw [z] at hc0
          rw [← hc0] at hb
          exact absurd hb (by decide)
        have ht : (Bag.mk cells i 0 seed hseed).take = Bag.mk cells (i + 1) c.toNat seed hseed := by
          unfold Bag.take
          rw [if_pos rfl]
          show (match cells[i]? with | some c => _ | none => _) = _
          rw [hc]
          exact if_pos hb
        refine fin ⟨cells, i + 1, c.toNat, seed, hseed⟩ ht ?_
        unfold b__law_pull
        refine es_seq (ρ1 := [some (.m 0), some (.d (.int k)), some (.d (.int c)), none, none]) (m1 := (Bag.mk cells (i + 1) c.toNat seed hseed).mo :: rest) (es_ifT test (first ?_)) ?_
        · refine es_ifT (m1 := (Bag.mk cells (i + 1) 0 seed hseed).mo :: rest) (et_bool (by rw [big ⟨cells, i + 1, 0, seed, hseed⟩ rfl, decide_eq_true hb])) ?_
          refine es_asg (w := .d (.int ((c.toNat : Nat) : Int))) (m1 := (Bag.mk cells (i + 1) 0 seed hseed).mo :: rest) ?_ (bag_set2 rfl)
          rw [hc0]
          exact ev_var rfl
        · exact pull2 ⟨cells, i + 1, c.toNat, seed, hseed⟩ rest k hk hs (some (.d (.int c))) rfl
      · have hm : (((c % 2147483579).toNat : Nat) : Int) = c % 2147483579 := Int.toNat_of_nonneg (Int.emod_nonneg _ (by decide))
        have hml : (c % 2147483579).toNat < 2147483579 := by
          have := Int.emod_lt_of_pos c (show (0 : Int) < 2147483579 by decide)
          omega
        have hs' : (seed * 40692 + (c % 2147483579).toNat * 69621 + 11) % 2147483647 < 2147483647 := Nat.mod_lt _ (by decide)
        have ht : (Bag.mk cells i 0 seed hseed).take = Bag.mk cells (i + 1) 0 ((seed * 40692 + (c % 2147483579).toNat * 69621 + 11) % 2147483647) hs' := by
          unfold Bag.take
          rw [if_pos rfl]
          show (match cells[i]? with | some c => _ | none => _) = _
          rw [hc]
          exact if_neg hb
        refine fin ⟨cells, i + 1, 0, (seed * 40692 + (c % 2147483579).toNat * 69621 + 11) % 2147483647, hs'⟩ ht ?_
        unfold b__law_pull
        refine es_seq (ρ1 := [some (.m 0), some (.d (.int k)), some (.d (.int c)), none, none]) (m1 := (Bag.mk cells (i + 1) 0 ((seed * 40692 + (c % 2147483579).toNat * 69621 + 11) % 2147483647) hs').mo :: rest) (es_ifT test (first ?_)) ?_
        · refine es_ifF (m1 := (Bag.mk cells (i + 1) 0 seed hseed).mo :: rest) (et_bool (by rw [big ⟨cells, i + 1, 0, seed, hseed⟩ rfl, decide_eq_false hb])) ?_
          refine es_asg (w := .d (.int (((seed * 40692 + (c % 2147483579).toNat * 69621 + 11) % 2147483647 : Nat) : Int))) (m1 := (Bag.mk cells (i + 1) 0 seed hseed).mo :: rest) ?_ (bag_set3 hs' rfl)
          have e : (((seed * 40692 + (c % 2147483579).toNat * 69621 + 11) % 2147483647 : Nat) : Int) = ((seed : Int) * 40692 + (c % 2147483579) * 69621 + 11) % 2147483647 := by
            simp only [Int.natCast_emod, Int.natCast_add, Int.natCast_mul, Int.cast_ofNat_Int, hm]
          rw [e]
          have s1 : small 40692 = true := small_of (by decide)
          have s2 : small 69621 = true := small_of (by decide)
          have ss : small ((Bag.mk cells (i + 1) 0 seed hseed).seed : Int) = true := small_nat (Nat.lt_trans hseed (by decide))
          have sc : small (c % 2147483579) = true := by rw [← hm]; exact small_nat (Nat.lt_trans hml (by decide))
          walk_at "ev"
        · exact pull2 ⟨cells, i + 1, 0, (seed * 40692 + (c % 2147483579).toNat * 69621 + 11) % 2147483647, hs'⟩ rest k hk hs (some (.d (.int c))) rfl
  · have ht : (Bag.mk cells i r seed hseed).take = Bag.mk cells i r seed hseed := if_neg h0
    refine fin ⟨cells, i, r, seed, hseed⟩ ht ?_
    unfold b__law_pull
    refine es_seq (ρ1 := [some (.m 0), some (.d (.int k)), none, none, none]) (m1 := (Bag.mk cells i r seed hseed).mo :: rest) (es_ifF (m1 := (Bag.mk cells i r seed hseed).mo :: rest) (et_andF ?_) es_next) ?_
    · refine et_bool (ev_op (w1 := .d (.int r)) (m1 := (Bag.mk cells i r seed hseed).mo :: rest) ?_ ev_c (by rw [oEq_ii, decide_eq_false (by omega)]))
      walk_at "ev"
    · exact pull2 ⟨cells, i, r, seed, hseed⟩ rest k hk hs none rfl
/-! ### the bag is made -/
def saltStep (s : Nat) (c : Int) : Nat := (s * 44021 + (c % 2147483579).toNat + 19) % 2147483647
def saltOf (ns : List Int) : Nat := (ns.take 63).foldl saltStep 3817
theorem salt_lt : ∀ (ns : List Int) (s : Nat), s < 2147483647 → ns.foldl saltStep s < 2147483647
  | [], _, h => h
  | _ :: ns, _, _ => salt_lt ns _ (Nat.mod_lt _ (by decide))
def Bag.new (ns : List Int) : Bag := ⟨ns.take 63, 0, 0, (ns.take 63).foldl saltStep 3817, salt_lt _ _ (by decide)⟩
theorem cut63 (xs : List D) : cutD xs none (some 63) = xs.take 63 := by
  unfold cutD
  rw [HT.sIx_none]
  have e : HT.sIx xs.length xs.length (some 63) = min 63 xs.length := HT.sIx_nat xs.length xs.length 63
  rw [e, Nat.sub_zero, List.drop_zero]
  by_cases h : 63 ≤ xs.length
  · rw [Nat.min_eq_left h]
  · rw [Nat.min_eq_right (by omega), List.take_length, List.take_of_length_le (by omega)]
theorem salt_loop : ∀ (ns : List Int) (s : Nat) (o : Option W) (w : W), s < 2147483647 → ∃ o', loop (tgName 2) (sAsg (fOp oMod (fCB oInt (fCons (fOp oAdd (fOp oAdd (fOp oMul (fVar 1) (fC (.int 44021))) (fOp oMod (fCB oInt (fCons (fVar 2) fNil)) (fC (.int 2147483579)))) (fC (.int 19))) fNil)) (fC (.int 2147483647))) (tgName 1))
    ((ns.map D.int).map W.d) [some w, some (.d (.int s)), o] [] = .nx [some w, some (.d (.int ((ns.foldl saltStep s : Nat) : Int))), o'] []
  | [], s, o, w, _ => ⟨o, rfl⟩
  | n :: ns, s, o, w, h => by
    obtain ⟨o', e⟩ := salt_loop ns (saltStep s n) (some (.d (.int n))) w (Nat.mod_lt _ (by decide))
    refine ⟨o', ?_⟩
    rw [List.map_cons, List.map_cons]
    refine loop_cons (ρ1 := [some w, some (.d (.int s)), some (.d (.int n))]) (m1 := []) rfl (es_set (w := .d (.int (saltStep s n))) (m1 := []) ?_) e
    have hm : (((n % 2147483579).toNat : Nat) : Int) = n % 2147483579 := Int.toNat_of_nonneg (Int.emod_nonneg _ (by decide))
    have e2 : ((saltStep s n : Nat) : Int) = ((s : Int) * 44021 + n % 2147483579 + 19) % 2147483647 := by
      show (((s * 44021 + (n % 2147483579).toNat + 19) % 2147483647 : Nat) : Int) = _
      simp only [Int.natCast_emod, Int.natCast_add, Int.natCast_mul, Int.cast_ofNat_Int, hm]
    rw [e2]
    have s1 : small 44021 = true := small_of (by decide)
    have ss : small (s : Int) = true := small_nat (Nat.lt_trans h (by decide))
    walk_at "ev"
theorem bag_eq (ns : List Int) : m__law_bag [.d (.fls (ns.map .int))] [] = .ok (.m 0) [(Bag.new ns).mo] := by
  obtain ⟨o', e⟩ := salt_loop (ns.take 63) 3817 none (.d (.fls (ns.map .int))) (by decide)
  have es : fSl false (fVar 0) pNone (pSome (fC (.int 63))) [some (.d (.fls (ns.map .int))), some (.d (.int 3817)), none] [] = .ok (.d (.lst ((ns.take 63).map .int))) [] := by
    show R.ok (W.d (.lst (cutD (ns.map .int) none (some 63)))) [] = _
    rw [cut63, List.map_take]
  have es2 : ∀ s o, fSl false (fVar 0) pNone (pSome (fC (.int 63))) [some (.d (.fls (ns.map .int))), some (.d (.int s)), o] [] = .ok (.d (.lst ((ns.take 63).map .int))) [] := by
    intro s o
    show R.ok (W.d (.lst (cutD (ns.map .int) none (some 63)))) [] = _
    rw [cut63, List.map_take]
  have hb : b__law_bag [some (.d (.fls (ns.map .int))), none, none] [] = .rt (.m 0) [(Bag.new ns).mo] := by
    unfold b__law_bag
    refine es_seq (es_set ev_c) ?_
    refine es_seq (ρ1 := [some (.d (.fls (ns.map .int))), some (.d (.int ((ns.take 63).foldl saltStep 3817 : Nat))), o']) (m1 := []) (es_for (ws := ((ns.take 63).map D.int).map W.d) (m1 := []) ?_ e) ?_
    · unfold iSeq
      show (fSl false (fVar 0) pNone (pSome (fC (.int 63))) [some (.d (.fls (ns.map .int))), some (.d (.int 3817)), none] []).bind _ = _
      rw [es]
      rfl
    · refine es_ret ?_
      have z := ev_lstM (ρ := [some (.d (.fls (ns.map .int))), some (.d (.int ((ns.take 63).foldl saltStep 3817 : Nat))), o']) (m := []) (m1 := []) (la := fCons (fCB (oList false) (fCons (fSl false (fVar 0) pNone (pSome (fC (.int 63)))) fNil)) (fCons (fC (.int 0)) (fCons (fC (.int 0)) (fCons (fVar 1) fNil))))
        (ws := [.d (.lst ((ns.take 63).map .int)), .d (.int 0), .d (.int 0), .d (.int ((ns.take 63).foldl saltStep 3817 : Nat))]) (ev_cons (ev_cb (ev_cons (es2 _ _) ev_nil) rfl) (ev_cons ev_c (ev_cons ev_c (ev_cons (ev_var rfl) ev_nil)))) rfl (show 4 ≤ 100000 by decide)
      refine Eq.trans z ?_
      rfl
  have z := fn_ret (mu := true) (np := 1) (N := 3) (ws := [.d (.fls (ns.map .int))]) rfl hb
  show fnOf true 1 3 b__law_bag _ _ = _
  rw [z]
  rfl
end GD

namespace GD
open PySem PySem.Spec PyProof.Rows L2
def bR__law_same (m_rec : Fn) : Ex :=
    (sSeq (sIf (gOr (gTest (fCB oIsi (fCons (fVar 1) (fCons (fC (.ty "list")) fNil)))) (gTest (fCB oIsi (fCons (fVar 1) (fCons (fC (.ty "tuple")) fNil)))))
    (sSeq (sIf (gOr (gBool (fOp oNe (fCB oIsi (fCons (fVar 0) (fCons (fC (.ty "list")) fNil))) (fCB oIsi (fCons (fVar 1) (fCons (fC (.ty "list")) fNil))))) (gBool (fOp oNe (fCB oIsi (fCons (fVar 0) (fCons (fC (.ty "tuple")) fNil))) (fCB oIsi (fCons (fVar 1) (fCons (fC (.ty "tuple")) fNil))))))
    (sRet (fC (.bl false)))
    sNext)
    (sRet (fAnd (fOp oEq (fCB oLen (fCons (fVar 0) fNil)) (fCB oLen (fCons (fVar 1) fNil))) (fCB oAll (fCons (fLc (iZip2 (fCons (fVar 0) (fCons (fVar 1) fNil))) (tgTup 2 (tgCons (tgName 2) (tgCons (tgName 3) tgNil))) gYes (fCall m_rec (fCons (fVar 2) (fCons (fVar 3) fNil))) [2, 3]) fNil)))))
    sNext)
    (sSeq (sIf (gTest (fCB oIsi (fCons (fVar 1) (fCons (fC (.ty "dict")) fNil))))
    (sRet (fAnd (fCB oIsi (fCons (fVar 0) (fCons (fC (.ty "dict")) fNil))) (fAnd (fCall m_rec (fCons fBad (fCons fBad fNil))) (fCB oAll (fCons (fLc (iSeq (fCB (oList false) (fCons (fVar 1) fNil))) (tgName 4) gYes (fCall m_rec (fCons (fOp oIx (fVar 0) (fVar 4)) (fCons (fOp oIx (fVar 1) (fVar 4)) fNil))) [4]) fNil)))))
    sNext)
    (sSeq (sIf (gOr (gBool (fOp oIs (fVar 1) (fC .non))) (gBool (fOp oIs (fVar 0) (fC .non))))
    (sRet (fAnd (fOp oIs (fVar 1) (fC .non)) (fOp oIs (fVar 0) (fC .non))))
    sNext)
    (sSeq (sIf (gOr (gBool (fOp oNe (fCB oIsi (fCons (fVar 0) (fCons (fC (.ty "bool")) fNil))) (fCB oIsi (fCons (fVar 1) (fCons (fC (.ty "bool")) fNil))))) (gBool (fOp oNe (fCB oIsi (fCons (fVar 0) (fCons (fC (.ty "int")) fNil))) (fCB oIsi (fCons (fVar 1) (fCons (fC (.ty "int")) fNil))))))
    (sRet (fC (.bl false)))
    sNext)
    (sRet (fAnd (fOp oEq (fCB oIsi (fCons (fVar 0) (fCons (fC (.ty "str")) fNil))) (fCB oIsi (fCons (fVar 1) (fCons (fC (.ty "str")) fNil)))) (fOp oEq (fVar 0) (fVar 1))))))))
def m__law_same : Nat → Fn
  | 0 => fun _ _ => .bad
  | n + 1 => fnOf false 2 5 (bR__law_same (m__law_same n))
/-! ### a value is the same as itself -/
/-- plain data of at most n levels -/
def plainD : Nat → D → Bool
  | 0, _ => false
  | _ + 1, .non => true
  | _ + 1, .bl _ => true
  | _ + 1, .int _ => true
  | _ + 1, .str _ => true
  | n + 1, .tup xs => decide (xs.length ≤ 100000) && xs.all (plainD n)
  | n + 1, .lst xs => decide (xs.length ≤ 100000) && xs.all (plainD n)
  | _ + 1, _ => false
theorem isi_of {x : D} {t n : String} {m : Mem} {b : Bool} (h1 : tyName (.d x) m = some t) (h : subTy t n = some b) : oIsi [.d x, .d (.ty n)] m = .ok (.d (.bl b)) m := by
  unfold oIsi
  dsimp only
  rw [h1]
  dsimp only
  rw [h]
theorem zip_self {xs : List D} : zipD xs xs = xs.map fun x => W.d (.tup [x, x]) := by
  unfold zipD
  induction xs with
  | nil => rfl
  | cons a l ih => simp at ih ⊢; exact ih
theorem same_refl : ∀ (n : Nat) (x : D) (m : Mem), plainD n x = true → m__law_same n [.d x, .d x] m = .ok (.d (.bl true)) m
  | 0, _, _, h => by simp [plainD] at h
  | n + 1, x, m, hp => by
    have fin : bR__law_same (m__law_same n) [some (.d x), some (.d x), none, none, none] m = .rt (.d (.bl true)) m → m__law_same (n + 1) [.d x, .d x] m = .ok (.d (.bl true)) m := by
      intro h
      have z := fn_ret (mu := false) (np := 2) (N := 5) (ws := [.d x, .d x]) rfl h
      show fnOf false 2 5 (bR__law_same (m__law_same n)) _ _ = _
      rw [z, leave_d, List.take_length]
    have ck : ∀ (k : Nat) (t n : String) (b : Bool), [some (W.d x), some (.d x), none, none, none][k]? = some (some (.d x)) → tyName (.d x) m = some t → subTy t n = some b → fCB oIsi (fCons (fVar k) (fCons (fC (.ty n)) fNil)) [some (.d x), some (.d x), none, none, none] m = .ok (.d (.bl b)) m :=
      fun k t n b h1 h0 h2 => ev_cb (ev_cons (ev_var h1) (ev_cons ev_c ev_nil)) (isi_of h0 h2)
    have sc : ∀ (t : String) (bb bi bs : Bool), tyName (.d x) m = some t → subTy t "list" = some false → subTy t "tuple" = some false → subTy t "dict" = some false → subTy t "bool" = some bb → subTy t "int" = some bi → subTy t "str" = some bs →
        (∀ m, oIs (.d x) (.d .non) m = .ok (.d (.bl false)) m) → (∀ m, oEq (.d x) (.d x) m = .ok (.d (.bl true)) m) → m__law_same (n + 1) [.d x, .d x] m = .ok (.d (.bl true)) m := by
      intro t bb bi bs h0 h1 h2 h3 h4 h5 h6 h7 h8
      refine fin ?_
      unfold bR__law_same
      refine es_seq (es_ifF (et_orF (et_test (ck 1 t _ false rfl h0 h1) rfl) (et_test (ck 1 t _ false rfl h0 h2) rfl)) es_next) ?_
      refine es_seq (es_ifF (et_test (ck 1 t _ false rfl h0 h3) rfl) es_next) ?_
      refine es_seq (es_ifF (et_orF (et_bool (ev_op (ev_var rfl) ev_c (h7 _))) (et_bool (ev_op (ev_var rfl) ev_c (h7 _)))) es_next) ?_
      refine es_seq (es_ifF (et_orF (et_bool (ev_op (ck 0 t _ bb rfl h0 h4) (ck 1 t _ bb rfl h0 h4) (by rw [oNe_bb, decide_eq_true rfl]; rfl))) (et_bool (ev_op (ck 0 t _ bi rfl h0 h5) (ck 1 t _ bi rfl h0 h5) (by rw [oNe_bb, decide_eq_true rfl]; rfl)))) es_next) ?_
      exact es_ret (ev_andT (ev_op (ck 0 t _ bs rfl h0 h6) (ck 1 t _ bs rfl h0 h6) (by rw [oEq_bb, decide_eq_true rfl])) (ev_op (ev_var rfl) (ev_var rfl) (h8 _)))
    have sq : ∀ (t : String) (xs : List D) (bl bt : Bool), tyName (.d x) m = some t → subTy t "list" = some bl → subTy t "tuple" = some bt → (bl || bt) = true → (∀ m, oLen [.d x] m = .ok (.d (.int xs.length)) m) → (∀ m : Mem, iZip2 (fCons (fVar 0) (fCons (fVar 1) fNil)) [some (.d x), some (.d x), none, none, none] m = .ok (zipD xs xs) m) →
        xs.length ≤ 100000 → (∀ y ∈ xs, plainD n y = true) → m__law_same (n + 1) [.d x, .d x] m = .ok (.d (.bl true)) m := by
      intro t xs bl bt h0 h1 h2 h3 h4 h5 hl hx
      refine fin ?_
      unfold bR__law_same
      have test : gOr (gTest (fCB oIsi (fCons (fVar 1) (fCons (fC (.ty "list")) fNil)))) (gTest (fCB oIsi (fCons (fVar 1) (fCons (fC (.ty "tuple")) fNil)))) [some (.d x), some (.d x), none, none, none] m = .ok true m := by
        cases bl with
        | true => exact et_orT (et_test (ck 1 t _ true rfl h0 h1) rfl)
        | false =>
          cases bt with
          | true => exact et_orF (et_test (ck 1 t _ false rfl h0 h1) rfl) (et_test (ck 1 t _ true rfl h0 h2) rfl)
          | false => cases h3
      refine es_seqR (es_ifT test ?_)
      refine es_seq (es_ifF (et_orF (et_bool (ev_op (ck 0 t _ bl rfl h0 h1) (ck 1 t _ bl rfl h0 h1) (by rw [oNe_bb, decide_eq_true rfl]; rfl))) (et_bool (ev_op (ck 0 t _ bt rfl h0 h2) (ck 1 t _ bt rfl h0 h2) (by rw [oNe_bb, decide_eq_true rfl]; rfl)))) es_next) ?_
      have hc := lcs_pure (ws := zipD xs xs) (g := tgTup 2 (tgCons (tgName 2) (tgCons (tgName 3) tgNil))) (t := gYes) (a := fCall (m__law_same n) (fCons (fVar 2) (fCons (fVar 3) fNil))) (ρ := [some (.d x), some (.d x), none, none, none]) (m := m) (fun _ => true) (fun _ => .bl true) (fun w hw => by
        rw [zip_self] at hw
        obtain ⟨y, hy, rfl⟩ := List.mem_map.mp hw
        refine ⟨[some (.d x), some (.d x), some (.d y), some (.d y), none], rfl, rfl, fun _ => ?_⟩
        exact ev_call (ev_cons (ev_var rfl) (ev_cons (ev_var rfl) ev_nil)) (same_refl n y m (hx y hy))) [] (by rw [zipD_len]; simp; omega)
      have hall : oAll [.d (.lst ([] ++ ((zipD xs xs).filter fun _ => true).map fun _ => D.bl true))] m = .ok (.d (.bl true)) m := by
        have hb : ∀ l : List W, boolsD (l.map fun _ => D.bl true) = some (l.map fun _ => true) := by
          intro l
          induction l with
          | nil => rfl
          | cons a l ih => simp [boolsD, ih]
        unfold oAll lstOf
        dsimp only
        rw [List.nil_append, hb]
        simp
      have eqL : ∀ i : Int, oEq (.d (.int i)) (.d (.int i)) m = .ok (.d (.bl true)) m := fun i => by rw [oEq_ii, decide_eq_true rfl]
      exact es_ret (ev_andT (ev_op (ev_cb (ev_cons (ev_var rfl) ev_nil) (h4 _)) (ev_cb (ev_cons (ev_var rfl) ev_nil) (h4 _)) (eqL _)) (ev_cb (ev_cons (lc_eq (h5 m) hc) ev_nil) hall))
    cases x with
    | non =>
      refine fin ?_
      unfold bR__law_same
      refine es_seq (es_ifF (et_orF (et_test (ck 1 "NoneType" _ false rfl rfl (by decide)) rfl) (et_test (ck 1 "NoneType" _ false rfl rfl (by decide)) rfl)) es_next) ?_
      refine es_seq (es_ifF (et_test (ck 1 "NoneType" _ false rfl rfl (by decide)) rfl) es_next) ?_
      exact es_seqR (es_ifT (et_orT (et_bool (ev_op (ev_var rfl) ev_c oIs_nn))) (es_ret (ev_andT (ev_op (ev_var rfl) ev_c oIs_nn) (ev_op (ev_var rfl) ev_c oIs_nn))))
    | bl b => exact sc "bool" true true false rfl (by decide) (by decide) (by decide) (by decide) (by decide) (by decide) (fun _ => rfl) (fun _ => by rw [oEq_bb, decide_eq_true rfl])
    | int b => exact sc "int" false true false rfl (by decide) (by decide) (by decide) (by decide) (by decide) (by decide) (fun _ => rfl) (fun _ => by rw [oEq_ii, decide_eq_true rfl])
    | str b => exact sc "str" false false true rfl (by decide) (by decide) (by decide) (by decide) (by decide) (by decide) (fun _ => rfl) (fun _ => by rw [oEq_ss, decide_eq_true rfl])
    | tup xs =>
      unfold plainD at hp
      rw [Bool.and_eq_true] at hp
      exact sq "tuple" xs false true rfl (by decide) (by decide) rfl (fun _ => rfl) (fun _ => rfl) (of_decide_eq_true hp.1) (List.all_eq_true.mp hp.2)
    | lst xs =>
      unfold plainD at hp
      rw [Bool.and_eq_true] at hp
      exact sq "list" xs true false rfl (by decide) (by decide) rfl (fun _ => rfl) (fun _ => rfl) (of_decide_eq_true hp.1) (List.all_eq_true.mp hp.2)
    | fls xs => simp [plainD] at hp
    | obj c ns vs => simp [plainD] at hp
    | gl x => simp [plainD] at hp
    | ty x => simp [plainD] at hp
end GD

/-! LE: equality of plain data. -/
namespace GD
open PySem PySem.Spec PyProof.Rows L2
/-- plain data of a depth less than n -/
def eqP : Nat → D → Bool
  | 0, _ => false
  | _ + 1, .non => true
  | _ + 1, .bl _ => true
  | _ + 1, .int _ => true
  | _ + 1, .str x => PyData.strOk x
  | n + 1, .tup xs => xs.all (eqP n)
  | n + 1, .lst xs => xs.all (eqP n)
  | _ + 1, _ => false
def eqvW (x y : D) : Bool := match x.py, y.py with
  | some p, some q => PyData.eqv p q
  | _, _ => false
theorem py_L {f : D → Prop} {n : Nat} (ih : ∀ x, eqP n x = true → ∃ p, D.py x = some p ∧ p.canLay0 = true ∧ p.depth ≤ n) : ∀ xs : List D, xs.all (eqP n) = true → ∃ ps, D.pyL xs = some ps ∧ PyData.canLayAll0 ps = true ∧ PyData.depthAll ps ≤ n
  | [], _ => ⟨[], rfl, rfl, by rw [PyData.depthAll]; omega⟩
  | x :: xs, h => by
    rw [List.all_cons, Bool.and_eq_true] at h
    obtain ⟨p, h1, h2, h3⟩ := ih x h.1
    obtain ⟨ps, g1, g2, g3⟩ := py_L (f := f) ih xs h.2
    refine ⟨p :: ps, by rw [D.pyL, h1, g1], by rw [PyData.canLayAll0, h2, g2]; rfl, by rw [PyData.depthAll]; omega⟩
theorem py_P : ∀ (n : Nat) (x : D), eqP n x = true → ∃ p, D.py x = some p ∧ p.canLay0 = true ∧ p.depth ≤ n
  | 0, _, h => by simp [eqP] at h
  | n + 1, .non, _ => ⟨.none, rfl, rfl, by rw [PyData.depth]; omega⟩
  | n + 1, .bl b, _ => ⟨.bool b, rfl, rfl, by rw [PyData.depth]; omega⟩
  | n + 1, .int b, _ => ⟨.int b, rfl, rfl, by rw [PyData.depth]; omega⟩
  | n + 1, .str b, h => ⟨.str b, rfl, h, by rw [PyData.depth]; omega⟩
  | n + 1, .tup xs, h => by
    obtain ⟨ps, g1, g2, g3⟩ := py_L (f := fun _ => True) (py_P n) xs h
    exact ⟨.tuple ps, by rw [D.py, g1]; rfl, g2, by rw [PyData.depth]; omega⟩
  | n + 1, .lst xs, h => by
    obtain ⟨ps, g1, g2, g3⟩ := py_L (f := fun _ => True) (py_P n) xs h
    exact ⟨.list ps, by rw [D.py, g1]; rfl, g2, by rw [PyData.depth]; omega⟩
  | n + 1, .fls _, h | n + 1, .obj _ _ _, h | n + 1, .gl _, h | n + 1, .ty _, h => by simp [eqP] at h
theorem eqD_P {n : Nat} {x y : D} (hx : eqP n x = true) (hy : eqP n y = true) (hn : n ≤ 64) : eqD x y = some (eqvW x y) := by
  obtain ⟨p, h1, h2, h3⟩ := py_P n x hx
  obtain ⟨q, g1, g2, g3⟩ := py_P n y hy
  have s1 : SeqAt.shaped p = true := by unfold SeqAt.shaped; rw [h2, decide_eq_true (by omega)]; rfl
  have s2 : SeqAt.shaped q = true := by unfold SeqAt.shaped; rw [g2, decide_eq_true (by omega)]; rfl
  unfold eqD eqvW
  split
  · simp [D.py, PyData.eqv]; first | rfl | (rw [Bool.eq_iff_iff]; simp)
  · simp [D.py, PyData.eqv]; first | rfl | (rw [Bool.eq_iff_iff]; simp)
  · simp [D.py, PyData.eqv]; first | rfl | (rw [Bool.eq_iff_iff]; simp)
  · rfl
  · rfl
  · rfl
  · rfl
  · rfl
  · rfl
  · rfl
  · rw [h1, g1]
    dsimp only
    rw [s1, s2]
    rfl
theorem oEq_P {n : Nat} {x y : D} {m : Mem} (hx : eqP n x = true) (hy : eqP n y = true) (hn : n ≤ 64) : oEq (.d x) (.d y) m = .ok (.d (.bl (eqvW x y))) m := by
  unfold oEq
  dsimp only [datOf]
  rw [eqD_P hx hy hn]
theorem oNe_P {n : Nat} {x y : D} {m : Mem} (hx : eqP n x = true) (hy : eqP n y = true) (hn : n ≤ 64) : oNe (.d x) (.d y) m = .ok (.d (.bl (!eqvW x y))) m := by
  unfold oNe
  dsimp only [datOf]
  rw [eqD_P hx hy hn]
theorem eqvAll_refl {n : Nat} (ih : ∀ x p, eqP n x = true → D.py x = some p → PyData.eqv p p = true) : ∀ (xs : List D) (ps : List PyData), xs.all (eqP n) = true → D.pyL xs = some ps → PyData.eqvAll ps ps = true
  | [], _, _, e => by cases e; rfl
  | x :: xs, ps, h, e => by
    rw [List.all_cons, Bool.and_eq_true] at h
    rw [D.pyL] at e
    split at e
    · rename_i a b e1 e2
      cases e
      rw [PyData.eqvAll, ih x a h.1 e1, eqvAll_refl ih xs b h.2 e2]
      rfl
    · cases e
theorem eqv_refl : ∀ (n : Nat) (x : D) (p : PyData), eqP n x = true → D.py x = some p → PyData.eqv p p = true
  | 0, _, _, h, _ => by simp [eqP] at h
  | n + 1, .non, _, _, e => by cases e; rfl
  | n + 1, .bl b, _, _, e => by cases e; simp [PyData.eqv]
  | n + 1, .int b, _, _, e => by cases e; simp [PyData.eqv]
  | n + 1, .str b, _, _, e => by cases e; simp [PyData.eqv]
  | n + 1, .tup xs, _, h, e => by
    rw [D.py, Option.map_eq_some_iff] at e
    obtain ⟨ps, e1, rfl⟩ := e
    rw [PyData.eqv]
    exact eqvAll_refl (eqv_refl n) xs ps h e1
  | n + 1, .lst xs, _, h, e => by
    rw [D.py, Option.map_eq_some_iff] at e
    obtain ⟨ps, e1, rfl⟩ := e
    rw [PyData.eqv]
    exact eqvAll_refl (eqv_refl n) xs ps h e1
  | n + 1, .fls _, _, h, _ | n + 1, .obj _ _ _, _, h, _ | n + 1, .gl _, _, h, _ | n + 1, .ty _, _, h, _ => by simp [eqP] at h
theorem eqvW_refl {n : Nat} {x : D} (h : eqP n x = true) : eqvW x x = true := by
  obtain ⟨p, h1, _, _⟩ := py_P n x h
  unfold eqvW
  rw [h1]
  exact eqv_refl n x p h h1
@[simp] theorem eqvW_ii {i j : Int} : eqvW (.int i) (.int j) = (i == j) := by simp [eqvW, D.py, PyData.eqv]
@[simp] theorem eqvW_ss {i j : Str} : eqvW (.str i) (.str j) = (i == j) := by simp [eqvW, D.py, PyData.eqv]
@[simp] theorem eqvW_bb {i j : Bool} : eqvW (.bl i) (.bl j) = (i == j) := by simp [eqvW, D.py, PyData.eqv]
@[simp] theorem eqvW_nn : eqvW .non .non = true := rfl
@[simp] theorem eqvW_is {i : Int} {j : Str} : eqvW (.int i) (.str j) = false := rfl
@[simp] theorem eqvW_si {i : Int} {j : Str} : eqvW (.str j) (.int i) = false := rfl
@[simp] theorem eqvW_tn : eqvW (.tup []) (.tup []) = true := rfl
@[simp] theorem eqvW_ln : eqvW (.lst []) (.lst []) = true := rfl
theorem eqvW_tc {x y : D} {xs ys : List D} : eqvW (.tup (x :: xs)) (.tup (y :: ys)) = (eqvW x y && eqvW (.tup xs) (.tup ys)) := by
  unfold eqvW
  simp only [D.py, D.pyL]
  cases h1 : D.py x <;> cases h2 : D.py y <;> cases h3 : D.pyL xs <;> cases h4 : D.pyL ys <;> simp [PyData.eqv, PyData.eqvAll]
theorem eqvW_lc {x y : D} {xs ys : List D} : eqvW (.lst (x :: xs)) (.lst (y :: ys)) = (eqvW x y && eqvW (.lst xs) (.lst ys)) := by
  unfold eqvW
  simp only [D.py, D.pyL]
  cases h1 : D.py x <;> cases h2 : D.py y <;> cases h3 : D.pyL xs <;> cases h4 : D.pyL ys <;> simp [PyData.eqv, PyData.eqvAll]
theorem eqvW_lcn {x : D} {xs : List D} : eqvW (.lst (x :: xs)) (.lst []) = false := by
  unfold eqvW
  simp only [D.py, D.pyL]
  cases h1 : D.py x <;> cases h3 : D.pyL xs <;> simp [PyData.eqv, PyData.eqvAll]
theorem eqvW_lnc {x : D} {xs : List D} : eqvW (.lst []) (.lst (x :: xs)) = false := by
  unfold eqvW
  simp only [D.py, D.pyL]
  cases h1 : D.py x <;> cases h3 : D.pyL xs <;> simp [PyData.eqv, PyData.eqvAll]
theorem eqvW_tcn {x : D} {xs : List D} : eqvW (.tup (x :: xs)) (.tup []) = false := by
  unfold eqvW
  simp only [D.py, D.pyL]
  cases h1 : D.py x <;> cases h3 : D.pyL xs <;> simp [PyData.eqv, PyData.eqvAll]
theorem eqvW_tnc {x : D} {xs : List D} : eqvW (.tup []) (.tup (x :: xs)) = false := by
  unfold eqvW
  simp only [D.py, D.pyL]
  cases h1 : D.py x <;> cases h3 : D.pyL xs <;> simp [PyData.eqv, PyData.eqvAll]
end GD

namespace GD
open PySem PySem.Spec PyProof.Rows L2
def b_greatest_divisor : Ex :=
    (sSeq (sPar 0 1 (fCons (fCB oAbs (fCons (fVar 0) fNil)) (fCons (fCB oAbs (fCons (fVar 1) fNil)) fNil)))
    (sSeq (sWhile (fuelI 1 1) (gBool (fOp oNe (fVar 1) (fC (.int 0))))
    (sPar 0 1 (fCons (fVar 1) (fCons (fOp oMod (fVar 0) (fVar 1)) fNil))))
    (sRet (fVar 0))))
def m_greatest_divisor : Fn := fnOf false 2 2 b_greatest_divisor
def b_reciprocal : Ex :=
    (sSeq (sPar 2 3 (fCons (fTup (fCons (fOp oMod (fVar 0) (fVar 1)) (fCons (fC (.int 1)) fNil))) (fCons (fTup (fCons (fVar 1) (fCons (fC (.int 0)) fNil))) fNil)))
    (sSeq (sWhile (fuelI 1 1) (gBool (fOp oNe (fOp oIx (fVar 3) (fC (.int 0))) (fC (.int 0))))
    (sSeq (sAsg (fOp oDiv (fOp oIx (fVar 2) (fC (.int 0))) (fOp oIx (fVar 3) (fC (.int 0)))) (tgName 4))
    (sPar 2 3 (fCons (fVar 3) (fCons (fTup (fCons (fOp oSub (fOp oIx (fVar 2) (fC (.int 0))) (fOp oMul (fVar 4) (fOp oIx (fVar 3) (fC (.int 0))))) (fCons (fOp oSub (fOp oIx (fVar 2) (fC (.int 1))) (fOp oMul (fVar 4) (fOp oIx (fVar 3) (fC (.int 1))))) fNil))) fNil)))))
    (sRet (fOp oMod (fOp oIx (fVar 2) (fC (.int 1))) (fVar 1)))))
def m_reciprocal : Fn := fnOf false 2 5 b_reciprocal
def b_agree : Ex :=
    (sRet (fOp oEq (fOp oMod (fOp oSub (fOp oIx (fVar 0) (fC (.int 0))) (fOp oIx (fVar 1) (fC (.int 0)))) (fCall m_greatest_divisor (fCons (fOp oIx (fVar 0) (fC (.int 1))) (fCons (fOp oIx (fVar 1) (fC (.int 1))) fNil)))) (fC (.int 0))))
def m_agree : Fn := fnOf false 2 2 b_agree
def b_joined : Ex :=
    (sSeq (sAsg (fCall m_greatest_divisor (fCons (fOp oIx (fVar 0) (fC (.int 1))) (fCons (fOp oIx (fVar 1) (fC (.int 1))) fNil))) (tgName 2))
    (sSeq (sAsg (fOp oDiv (fOp oIx (fVar 1) (fC (.int 1))) (fVar 2)) (tgName 3))
    (sSeq (sAsg (fOp oMod (fOp oMul (fOp oDiv (fOp oSub (fOp oIx (fVar 1) (fC (.int 0))) (fOp oIx (fVar 0) (fC (.int 0)))) (fVar 2)) (fCall m_reciprocal (fCons (fOp oDiv (fOp oIx (fVar 0) (fC (.int 1))) (fVar 2)) (fCons (fVar 3) fNil)))) (fVar 3)) (tgName 4))
    (sRet (fTup (fCons (fOp oAdd (fOp oIx (fVar 0) (fC (.int 0))) (fOp oMul (fOp oIx (fVar 0) (fC (.int 1))) (fVar 4))) (fCons (fOp oMul (fOp oIx (fVar 0) (fC (.int 1))) (fVar 3)) fNil)))))))
def m_joined : Fn := fnOf false 2 5 b_joined
def b_common_rounds : Ex :=
    (sSeq (sFor (iEnum1 (fCons (fVar 0) fNil)) (tgUn 2 (tgCons (tgName 1) (tgCons (tgUn 2 (tgCons (tgName 2) (tgCons (tgName 3) tgNil))) tgNil)))
    (sIf (gOr (gBool (fOp oLt (fVar 3) (fC (.int 1)))) (gNot (gBool (fChain oLe oLt (fC (.int 0)) (fVar 2) (fVar 3)))))
    sBad
    sNext))
    (sSeq (sAsg (fTup (fCons (fC (.int 0)) (fCons (fC (.int 1)) fNil))) (tgName 4))
    (sSeq (sFor (iSeq (fVar 0)) (tgName 5)
    (sSeq (sIf (gNot (gTest (fCall m_agree (fCons (fVar 4) (fCons (fVar 5) fNil)))))
    (sRet (fC .non))
    sNext)
    (sAsg (fCall m_joined (fCons (fVar 4) (fCons (fTup (fCons (fOp oIx (fVar 5) (fC (.int 0))) (fCons (fOp oIx (fVar 5) (fC (.int 1))) fNil))) fNil))) (tgName 4))))
    (sRet (fVar 4)))))
def m_common_rounds : Fn := fnOf false 1 6 b_common_rounds
def b__law_of : Ex :=
    (sRet (fOp oIx (fVar 1) (fCall m__law_pull (fCons (fVar 0) (fCons (fCB oLen (fCons (fVar 1) fNil)) fNil)))))
def m__law_of : Fn := fnOf false 2 2 b__law_of
def b__law_gcd : Ex :=
    (sSeq (sPar 0 1 (fCons (fCB oAbs (fCons (fVar 0) fNil)) (fCons (fCB oAbs (fCons (fVar 1) fNil)) fNil)))
    (sSeq (sWhile (fuelI 1 1) (gBool (fOp oNe (fVar 1) (fC (.int 0))))
    (sPar 0 1 (fCons (fVar 1) (fCons (fOp oMod (fCB oInt (fCons (fVar 0) fNil)) (fVar 1)) fNil))))
    (sRet (fVar 0))))
def m__law_gcd : Fn := fnOf false 2 2 b__law_gcd
def b__law_lcm : Ex :=
    (sSeq (sAsg (fC (.int 1)) (tgName 1))
    (sSeq (sFor (iSeq (fVar 0)) (tgName 2)
    (sAsg (fOp oMul (fOp oDiv (fVar 1) (fCall m__law_gcd (fCons (fVar 1) (fCons (fVar 2) fNil)))) (fVar 2)) (tgName 1)))
    (sRet (fVar 1))))
def m__law_lcm : Fn := fnOf false 1 3 b__law_lcm

/-! ### plain numbers -/
theorem small8 {i : Int} (h : i.natAbs < 10 ^ 800) : small i = true := by
  unfold small BIG
  exact decide_eq_true (Nat.lt_trans h (by decide +kernel))
theorem dvd_gcd_lcm {a b m x : Nat} (ha : 0 < a) (hb : 0 < b) (h1 : Nat.gcd a m ∣ x) (h2 : Nat.gcd b m ∣ x) : Nat.gcd (Nat.lcm a b) m ∣ x := by
  have hl : 0 < Nat.lcm a b := Nat.lcm_pos ha hb
  obtain ⟨D, eD⟩ : ∃ D, D = Nat.gcd (Nat.lcm a b) m := ⟨_, rfl⟩
  rw [← eD]
  have hD : 0 < D := by rw [eD]; exact Nat.gcd_pos_of_pos_left _ hl
  have dl : D ∣ Nat.lcm a b := by rw [eD]; exact Nat.gcd_dvd_left _ _
  have dm : D ∣ m := by rw [eD]; exact Nat.gcd_dvd_right _ _
  have hp : 0 < Nat.gcd D a := Nat.gcd_pos_of_pos_left _ hD
  have hq : 0 < Nat.gcd D b := Nat.gcd_pos_of_pos_left _ hD
  have hg : 0 < Nat.gcd a b := Nat.gcd_pos_of_pos_left _ ha
  have px : Nat.gcd D a ∣ x := Nat.dvd_trans (Nat.dvd_gcd (Nat.gcd_dvd_right _ _) (Nat.dvd_trans (Nat.gcd_dvd_left _ _) dm)) h1
  have qx : Nat.gcd D b ∣ x := Nat.dvd_trans (Nat.dvd_gcd (Nat.gcd_dvd_right _ _) (Nat.dvd_trans (Nat.gcd_dvd_left _ _) dm)) h2
  have el : Nat.lcm a b = a * (b / Nat.gcd a b) := by
    unfold Nat.lcm
    rw [Nat.mul_div_assoc _ (Nat.gcd_dvd_right a b)]
  have er : Nat.lcm a b = b * (a / Nat.gcd a b) := by
    unfold Nat.lcm
    rw [Nat.mul_comm, Nat.mul_div_assoc _ (Nat.gcd_dvd_left a b)]
  have part : ∀ {c y : Nat}, D ∣ c * y → 0 < Nat.gcd D c → D / Nat.gcd D c ∣ y := by
    intro c y h hc
    have co := Nat.coprime_div_gcd_div_gcd (m := D) (n := c) hc
    refine co.dvd_of_dvd_mul_left ?_
    have e1 : D = Nat.gcd D c * (D / Nat.gcd D c) := (Nat.mul_div_cancel' (Nat.gcd_dvd_left D c)).symm
    have e2 : c * y = Nat.gcd D c * (c / Nat.gcd D c * y) := by
      rw [← Nat.mul_assoc, Nat.mul_div_cancel' (Nat.gcd_dvd_right D c)]
    rw [e2] at h
    have h' : Nat.gcd D c * (D / Nat.gcd D c) ∣ Nat.gcd D c * (c / Nat.gcd D c * y) := by rw [← e1]; exact h
    exact Nat.dvd_of_mul_dvd_mul_left hc h'
  have u1 : D / Nat.gcd D a ∣ b / Nat.gcd a b := part (by rw [← el]; exact dl) hp
  have v1 : D / Nat.gcd D b ∣ a / Nat.gcd a b := part (by rw [← er]; exact dl) hq
  have co : Nat.Coprime (D / Nat.gcd D a) (D / Nat.gcd D b) := by
    have c0 : Nat.Coprime (a / Nat.gcd a b) (b / Nat.gcd a b) := Nat.coprime_div_gcd_div_gcd hg
    exact (Nat.Coprime.coprime_dvd_left v1 (Nat.Coprime.coprime_dvd_right u1 c0)).symm
  have m1 : D ∣ x * (D / Nat.gcd D a) := by
    obtain ⟨k, rfl⟩ := px
    refine ⟨k, ?_⟩
    rw [Nat.mul_right_comm, Nat.mul_div_cancel' (Nat.gcd_dvd_left D a)]
  have m2 : D ∣ x * (D / Nat.gcd D b) := by
    obtain ⟨k, rfl⟩ := qx
    refine ⟨k, ?_⟩
    rw [Nat.mul_right_comm, Nat.mul_div_cancel' (Nat.gcd_dvd_left D b)]
  have z := Nat.dvd_gcd m1 m2
  rw [Nat.gcd_mul_left, co, Nat.mul_one] at z
  exact z
theorem dvd_gcd_lcmI {a b m : Nat} {x : Int} (ha : 0 < a) (hb : 0 < b) (h1 : (Nat.gcd a m : Int) ∣ x) (h2 : (Nat.gcd b m : Int) ∣ x) : (Nat.gcd (Nat.lcm a b) m : Int) ∣ x := by
  rw [← Int.dvd_natAbs] at h1 h2 ⊢
  exact Int.natCast_dvd_natCast.mpr (dvd_gcd_lcm ha hb (Int.natCast_dvd_natCast.mp h1) (Int.natCast_dvd_natCast.mp h2))
theorem lcm_dvdI {a b : Nat} {x : Int} (h1 : (a : Int) ∣ x) (h2 : (b : Int) ∣ x) : (Nat.lcm a b : Int) ∣ x := by
  rw [← Int.dvd_natAbs] at h1 h2 ⊢
  exact Int.natCast_dvd_natCast.mpr (Nat.lcm_dvd (Int.natCast_dvd_natCast.mp h1) (Int.natCast_dvd_natCast.mp h2))
theorem dvdN {a b : Nat} (h : a ∣ b) : (a : Int) ∣ (b : Int) := Int.natCast_dvd_natCast.mpr h
/-! ### the greatest divisor -/
theorem gcd_loop : ∀ (n x y : Nat) (m : Mem), y < n → whl (gBool (fOp oNe (fVar 1) (fC (.int 0)))) (sPar 0 1 (fCons (fVar 1) (fCons (fOp oMod (fVar 0) (fVar 1)) fNil))) n [some (.d (.int x)), some (.d (.int y))] m = .nx [some (.d (.int (Nat.gcd x y))), some (.d (.int 0))] m
  | 0, _, _, _, h => absurd h (Nat.not_lt_zero _)
  | n + 1, x, y, m, h => by
    by_cases hy : y = 0
    · subst hy
      rw [Nat.gcd_zero_right]
      exact whl_stop (et_bool (ev_op (ev_var rfl) ev_c rfl))
    · have hy' : (0 : Int) < (y : Int) := by omega
      refine whl_turn (ρ1 := [some (.d (.int y)), some (.d (.int ((x % y : Nat) : Int)))]) (m1 := m) (m2 := m) (et_bool (ev_op (ev_var rfl) ev_c ?_)) ?_ ?_
      · rw [oNe_ii, decide_eq_false (by omega)]; rfl
      · exact es_par (ev_cons (ev_var rfl) (ev_cons (ev_op (ev_var rfl) (ev_var rfl) (mod_ok hy')) ev_nil))
      · have hlt : x % y < y := Nat.mod_lt _ (by omega)
        rw [gcd_loop n y (x % y) m (by omega), Nat.gcd_comm y (x % y), ← Nat.gcd_rec, Nat.gcd_comm]
theorem lgcd_loop : ∀ (n x y : Nat) (m : Mem), y < n → whl (gBool (fOp oNe (fVar 1) (fC (.int 0)))) (sPar 0 1 (fCons (fVar 1) (fCons (fOp oMod (fCB oInt (fCons (fVar 0) fNil)) (fVar 1)) fNil))) n [some (.d (.int x)), some (.d (.int y))] m = .nx [some (.d (.int (Nat.gcd x y))), some (.d (.int 0))] m
  | 0, _, _, _, h => absurd h (Nat.not_lt_zero _)
  | n + 1, x, y, m, h => by
    by_cases hy : y = 0
    · subst hy
      rw [Nat.gcd_zero_right]
      exact whl_stop (et_bool (ev_op (ev_var rfl) ev_c rfl))
    · have hy' : (0 : Int) < (y : Int) := by omega
      refine whl_turn (ρ1 := [some (.d (.int y)), some (.d (.int ((x % y : Nat) : Int)))]) (m1 := m) (m2 := m) (et_bool (ev_op (ev_var rfl) ev_c ?_)) ?_ ?_
      · rw [oNe_ii, decide_eq_false (by omega)]; rfl
      · exact es_par (ev_cons (ev_var rfl) (ev_cons (ev_op (ev_cb (ev_cons (ev_var rfl) ev_nil) oInt_i) (ev_var rfl) (mod_ok hy')) ev_nil))
      · have hlt : x % y < y := Nat.mod_lt _ (by omega)
        rw [lgcd_loop n y (x % y) m (by omega), Nat.gcd_comm y (x % y), ← Nat.gcd_rec, Nat.gcd_comm]
theorem abs_eq (a : Int) : (if a < 0 then -a else a) = (a.natAbs : Int) := by split <;> omega
theorem gcd_eq (a b : Int) (m : Mem) : m_greatest_divisor [.d (.int a), .d (.int b)] m = .ok (.d (.int (Int.gcd a b))) m := by
  have h : b_greatest_divisor [some (.d (.int a)), some (.d (.int b))] m = .rt (.d (.int (Int.gcd a b))) m := by
    unfold b_greatest_divisor
    have ha : ∀ (ρ : Env) (n : Nat) (x : Int), ρ[n]? = some (some (.d (.int x))) → fCB oAbs (fCons (fVar n) fNil) ρ m = .ok (.d (.int x.natAbs)) m := fun ρ n x h => ev_cb (ev_cons (ev_var h) ev_nil) (by rw [oAbs_i, abs_eq])
    refine es_seq (ρ1 := [some (.d (.int a.natAbs)), some (.d (.int b.natAbs))]) (m1 := m) ?_ (es_seq (es_while (gcd_loop _ a.natAbs b.natAbs m ?_)) (es_ret (ev_var rfl)))
    · exact es_par (ev_cons (ha _ 0 a rfl) (ev_cons (ha _ 1 b rfl) ev_nil))
    · show b.natAbs < ((b.natAbs : Int)).natAbs + 1
      omega
  have z := fn_ret (mu := false) (np := 2) (N := 2) (ws := [.d (.int a), .d (.int b)]) rfl h
  show fnOf false 2 2 b_greatest_divisor _ _ = _
  rw [z, leave_d, List.take_length]
theorem lgcd_eq (a b : Int) (m : Mem) : m__law_gcd [.d (.int a), .d (.int b)] m = .ok (.d (.int (Int.gcd a b))) m := by
  have h : b__law_gcd [some (.d (.int a)), some (.d (.int b))] m = .rt (.d (.int (Int.gcd a b))) m := by
    unfold b__law_gcd
    have ha : ∀ (ρ : Env) (n : Nat) (x : Int), ρ[n]? = some (some (.d (.int x))) → fCB oAbs (fCons (fVar n) fNil) ρ m = .ok (.d (.int x.natAbs)) m := fun ρ n x h => ev_cb (ev_cons (ev_var h) ev_nil) (by rw [oAbs_i, abs_eq])
    refine es_seq (ρ1 := [some (.d (.int a.natAbs)), some (.d (.int b.natAbs))]) (m1 := m) ?_ (es_seq (es_while (lgcd_loop _ a.natAbs b.natAbs m ?_)) (es_ret (ev_var rfl)))
    · exact es_par (ev_cons (ha _ 0 a rfl) (ev_cons (ha _ 1 b rfl) ev_nil))
    · show b.natAbs < ((b.natAbs : Int)).natAbs + 1
      omega
  have z := fn_ret (mu := false) (np := 2) (N := 2) (ws := [.d (.int a), .d (.int b)]) rfl h
  show fnOf false 2 2 b__law_gcd _ _ = _
  rw [z, leave_d, List.take_length]
/-! ### the reciprocal -/
def b_rtest : EvT := gBool (fOp oNe (fOp oIx (fVar 3) (fC (.int 0))) (fC (.int 0)))
def b_rturn : Ex := (sSeq (sAsg (fOp oDiv (fOp oIx (fVar 2) (fC (.int 0))) (fOp oIx (fVar 3) (fC (.int 0)))) (tgName 4))
    (sPar 2 3 (fCons (fVar 3) (fCons (fTup (fCons (fOp oSub (fOp oIx (fVar 2) (fC (.int 0))) (fOp oMul (fVar 4) (fOp oIx (fVar 3) (fC (.int 0))))) (fCons (fOp oSub (fOp oIx (fVar 2) (fC (.int 1))) (fOp oMul (fVar 4) (fOp oIx (fVar 3) (fC (.int 1))))) fNil))) fNil))))
theorem recip_loop (a : Int) (n : Nat) (hn : n < 10 ^ 790) : ∀ (k h0 t0 : Nat) (h1 t1 : Int) (o : Option W) (m : Mem), t0 < k → Nat.gcd h0 t0 = 1 → (n : Int) ∣ a * h1 - h0 → (n : Int) ∣ a * t1 - t0 → h0 * t1.natAbs + t0 * h1.natAbs ≤ n → h1.natAbs ≤ n → t1.natAbs ≤ n → h0 ≤ n → t0 ≤ n →
    ∃ (hh : Int) (q : D) (o' : Option W), whl b_rtest b_rturn k [some (.d (.int a)), some (.d (.int n)), some (.d (.tup [.int h0, .int h1])), some (.d (.tup [.int t0, .int t1])), o] m = .nx [some (.d (.int a)), some (.d (.int n)), some (.d (.tup [.int 1, .int hh])), some (.d q), o'] m ∧ (n : Int) ∣ a * hh - 1
  | 0, _, _, _, _, _, _, h, _, _, _, _, _, _, _, _ => absurd h (Nat.not_lt_zero _)
  | k + 1, h0, t0, h1, t1, o, m, hk, hg, d1, d2, hb, b1, b2, b3, b4 => by
    have i0 : ∀ {x y : D} {ρ : Env} {j : Nat}, ρ[j]? = some (some (.d (.tup [x, y]))) → fOp oIx (fVar j) (fC (.int 0)) ρ m = .ok (.d x) m := fun h => ev_op (ev_var h) ev_c (ixt_ok rfl)
    have i1 : ∀ {x y : D} {ρ : Env} {j : Nat}, ρ[j]? = some (some (.d (.tup [x, y]))) → fOp oIx (fVar j) (fC (.int 1)) ρ m = .ok (.d y) m := fun h => ev_op (ev_var h) ev_c (ixt_ok rfl)
    by_cases ht : t0 = 0
    · subst ht
      rw [Nat.gcd_zero_right] at hg
      subst hg
      exact ⟨h1, .tup [.int ((0 : Nat) : Int), .int t1], o, whl_stop (et_bool (ev_op (i0 rfl) ev_c rfl)), d1⟩
    · have ht' : (0 : Int) < (t0 : Int) := by omega
      have bd : ∀ {x : Int}, x.natAbs ≤ n → small x = true := fun {x} hx => small8 (Nat.lt_of_le_of_lt hx (Nat.lt_trans hn (by decide +kernel)))
      have hq : h0 / t0 ≤ n := Nat.le_trans (Nat.div_le_self _ _) b3
      have hmod : (h0 : Int) - ((h0 / t0 : Nat) : Int) * (t0 : Int) = ((h0 % t0 : Nat) : Int) := by
        have e := Nat.div_add_mod h0 t0
        have e2 : ((t0 * (h0 / t0) + h0 % t0 : Nat) : Int) = (h0 : Int) := by rw [e]
        rw [Int.natCast_add, Int.natCast_mul, Int.mul_comm] at e2
        omega
      have hlt : h0 % t0 < t0 := Nat.mod_lt _ (by omega)
      obtain ⟨s1, es1⟩ : ∃ s1 : Int, s1 = h1 - ((h0 / t0 : Nat) : Int) * t1 := ⟨_, rfl⟩
      have ab : s1.natAbs ≤ h1.natAbs + h0 / t0 * t1.natAbs := by
        have z : (((h0 / t0 : Nat) : Int) * t1).natAbs = h0 / t0 * t1.natAbs := by rw [Int.natAbs_mul, Int.natAbs_natCast]
        omega
      have key : t0 * s1.natAbs + h0 % t0 * t1.natAbs ≤ n := by
        have z1 : t0 * s1.natAbs ≤ t0 * (h1.natAbs + h0 / t0 * t1.natAbs) := Nat.mul_le_mul_left _ ab
        have z2 : t0 * (h1.natAbs + h0 / t0 * t1.natAbs) + h0 % t0 * t1.natAbs = t0 * h1.natAbs + h0 * t1.natAbs := by
          have e : h0 * t1.natAbs = (t0 * (h0 / t0) + h0 % t0) * t1.natAbs := by rw [Nat.div_add_mod]
          rw [e, Nat.mul_add, Nat.add_mul, Nat.mul_assoc, Nat.add_assoc]
        omega
      have s1n : s1.natAbs ≤ n := by
        have : 1 * s1.natAbs ≤ t0 * s1.natAbs := Nat.mul_le_mul_right _ (by omega)
        omega
      have d3 : (n : Int) ∣ a * s1 - ((h0 % t0 : Nat) : Int) := by
        have e : a * s1 - ((h0 % t0 : Nat) : Int) = (a * h1 - h0) - ((h0 / t0 : Nat) : Int) * (a * t1 - t0) := by
          rw [es1, ← hmod, Int.mul_sub, Int.mul_sub]
          have : a * (((h0 / t0 : Nat) : Int) * t1) = ((h0 / t0 : Nat) : Int) * (a * t1) := by rw [← Int.mul_assoc, Int.mul_comm a, Int.mul_assoc]
          omega
        rw [e]
        exact Int.dvd_sub d1 (Int.dvd_mul_of_dvd_right d2)
      have hg' : Nat.gcd t0 (h0 % t0) = 1 := by rw [Nat.gcd_comm, ← Nat.gcd_rec, Nat.gcd_comm]; exact hg
      obtain ⟨hh, q, o', e, dd⟩ := recip_loop a n hn k t0 (h0 % t0) t1 s1 (some (.d (.int ((h0 / t0 : Nat) : Int)))) m (by omega) hg' d2 d3 key b2 s1n b4 (by omega)
      refine ⟨hh, q, o', ?_, dd⟩
      refine whl_turn (m1 := m) (et_bool (ev_op (i0 rfl) ev_c ?_)) ?_ e
      · rw [oNe_ii, decide_eq_false (by omega)]; rfl
      · refine es_seq (ρ1 := [some (.d (.int a)), some (.d (.int n)), some (.d (.tup [.int h0, .int h1])), some (.d (.tup [.int t0, .int t1])), some (.d (.int ((h0 / t0 : Nat) : Int)))]) (m1 := m) (es_set (ev_op (i0 rfl) (i0 rfl) (div_ok ht' (bd (by simpa using b4))))) ?_
        refine es_par (ev_cons (ev_var rfl) (ev_cons (ev_tup (ws := [.d (.int ((h0 % t0 : Nat) : Int)), .d (.int s1)]) (ev_cons (ev_op (i0 rfl) (ev_op (ev_var rfl) (i0 rfl) (mul_ok (bd (by rw [Int.natAbs_natCast]; exact hq)) (bd (by simpa using b4)))) ?_) (ev_cons (ev_op (i1 rfl) (ev_op (ev_var rfl) (i1 rfl) (mul_ok (bd (by rw [Int.natAbs_natCast]; exact hq)) (bd b2))) ?_) ev_nil)) rfl (show 2 ≤ 100000 by decide)) ev_nil))
        · rw [oSub_ii, hmod]
        · rw [oSub_ii, es1]
theorem recip_eq (a n : Nat) (m : Mem) (h0 : 0 < n) (hn : n < 10 ^ 790) (hg : Nat.gcd a n = 1) : ∃ x : Int, m_reciprocal [.d (.int a), .d (.int n)] m = .ok (.d (.int x)) m ∧ 0 ≤ x ∧ x < n ∧ (n : Int) ∣ a * x - 1 := by
  have hn' : (0 : Int) < (n : Int) := by omega
  have hlt : a % n < n := Nat.mod_lt _ h0
  obtain ⟨hh, q, o', e, dd⟩ := recip_loop a n hn (n + 1) (a % n) n 1 0 none m (by omega) (by rw [← Nat.gcd_rec, Nat.gcd_comm]; exact hg) (by
      rw [Int.mul_one]
      have z := Int.dvd_sub_self_of_emod_eq (a := (a : Int)) (b := (n : Int)) (c := ((a % n : Nat) : Int)) rfl
      rw [← Int.dvd_neg]
      rw [show -((a : Int) - ((a % n : Nat) : Int)) = ((a % n : Nat) : Int) - a by omega]
      first | exact z | (rw [← Int.dvd_neg]; rw [show -(((a % n : Nat) : Int) - a) = (a : Int) - ((a % n : Nat) : Int) by omega]; exact z)) (by rw [Int.mul_zero]; exact ⟨-1, by omega⟩) (by show a % n * 0 + n * 1 ≤ n; omega) (by show 1 ≤ n; omega) (by show 0 ≤ n; omega) (by omega) (Nat.le_refl _)
  refine ⟨hh % n, ?_, Int.emod_nonneg _ (by omega), Int.emod_lt_of_pos _ hn', ?_⟩
  · have h : b_reciprocal [some (.d (.int a)), some (.d (.int n)), none, none, none] m = .rt (.d (.int (hh % n))) m := by
      unfold b_reciprocal
      refine es_seq (ρ1 := [some (.d (.int a)), some (.d (.int n)), some (.d (.tup [.int ((a % n : Nat) : Int), .int 1])), some (.d (.tup [.int n, .int 0])), none]) (m1 := m) ?_ (es_seq (es_while e) (es_ret (ev_op (ev_op (ev_var rfl) ev_c (ixt_ok rfl)) (ev_var rfl) (mod_ok hn'))))
      exact es_par (ev_cons (ev_tup (ev_cons (ev_op (ev_var rfl) (ev_var rfl) (mod_ok hn')) (ev_cons ev_c ev_nil)) rfl (show 2 ≤ 100000 by decide)) (ev_cons (ev_tup (ev_cons (ev_var rfl) (ev_cons ev_c ev_nil)) rfl (show 2 ≤ 100000 by decide)) ev_nil))
    have z := fn_ret (mu := false) (np := 2) (N := 5) (ws := [.d (.int a), .d (.int n)]) rfl h
    show fnOf false 2 5 b_reciprocal _ _ = _
    rw [z, leave_d, List.take_length]
  · have e2 : (a : Int) * (hh % n) - 1 = (a * hh - 1) - n * (a * (hh / n)) := by
      have e3 := Int.mul_ediv_add_emod hh n
      have e4 : hh % n = hh - n * (hh / n) := by omega
      rw [e4, Int.mul_sub]
      have : (a : Int) * (n * (hh / n)) = n * (a * (hh / n)) := by rw [← Int.mul_assoc, Int.mul_comm (a : Int), Int.mul_assoc]
      omega
    rw [e2]
    exact Int.dvd_sub dd (Int.dvd_mul_right _ _)
end GD

namespace GD
open PySem PySem.Spec PyProof.Rows L2
/-- a pair of a remainder and a modulus -/
abbrev PR := Int × Nat
def pD (p : PR) : D := .tup [.int p.1, .int p.2]
def PR.ok (p : PR) : Prop := 0 < p.2 ∧ 0 ≤ p.1 ∧ p.1 < p.2
theorem ix0 {x y : D} {ρ : Env} {j : Nat} {m : Mem} (h : ρ[j]? = some (some (.d (.tup [x, y])))) : fOp oIx (fVar j) (fC (.int 0)) ρ m = .ok (.d x) m := ev_op (ev_var h) ev_c (ixt_ok rfl)
theorem ix1 {x y : D} {ρ : Env} {j : Nat} {m : Mem} (h : ρ[j]? = some (some (.d (.tup [x, y])))) : fOp oIx (fVar j) (fC (.int 1)) ρ m = .ok (.d y) m := ev_op (ev_var h) ev_c (ixt_ok rfl)
theorem gcdN (a b : Nat) : Int.gcd (a : Int) (b : Int) = Nat.gcd a b := rfl
theorem agree_eq (x r : Int) (L n : Nat) (m : Mem) (hL : 0 < L) : m_agree [.d (pD (x, L)), .d (pD (r, n))] m = .ok (.d (.bl (decide ((x - r) % (Nat.gcd L n : Int) = 0)))) m := by
  have hg : (0 : Int) < (Nat.gcd L n : Int) := by have := Nat.gcd_pos_of_pos_left n hL; omega
  have h : b_agree [some (.d (pD (x, L))), some (.d (pD (r, n)))] m = .rt (.d (.bl (decide ((x - r) % (Nat.gcd L n : Int) = 0)))) m := by
    unfold b_agree
    exact es_ret (ev_op (ev_op (ev_op (ix0 rfl) (ix0 rfl) oSub_ii) (ev_call (ev_cons (ix1 rfl) (ev_cons (ix1 rfl) ev_nil)) (gcd_eq L n m)) (by rw [gcdN]; exact mod_ok hg)) ev_c oEq_ii)
  have z := fn_ret (mu := false) (np := 2) (N := 2) (ws := [.d (pD (x, L)), .d (pD (r, n))]) rfl h
  show fnOf false 2 2 b_agree _ _ = _
  rw [z, leave_d, List.take_length]
theorem joined_eq (x r : Int) (L n : Nat) (m : Mem) (hx : PR.ok (x, L)) (hr : PR.ok (r, n)) (hb : L * n < 10 ^ 790) (hd : (Nat.gcd L n : Int) ∣ x - r) :
    ∃ y : Int, m_joined [.d (pD (x, L)), .d (pD (r, n))] m = .ok (.d (pD (y, Nat.lcm L n))) m ∧ PR.ok (y, Nat.lcm L n) ∧ (L : Int) ∣ y - x ∧ (n : Int) ∣ y - r := by
  obtain ⟨hL, hx0, hx1⟩ := hx
  obtain ⟨hn, hr0, hr1⟩ := hr
  dsimp only at hL hx0 hx1 hn hr0 hr1
  obtain ⟨g, eg⟩ : ∃ g, g = Nat.gcd L n := ⟨_, rfl⟩
  rw [← eg] at hd
  have hg : 0 < g := by rw [eg]; exact Nat.gcd_pos_of_pos_left n hL
  have dL : g ∣ L := by rw [eg]; exact Nat.gcd_dvd_left L n
  have dn : g ∣ n := by rw [eg]; exact Nat.gcd_dvd_right L n
  obtain ⟨l, el⟩ : ∃ l, l = L / g := ⟨_, rfl⟩
  obtain ⟨s, es⟩ : ∃ s, s = n / g := ⟨_, rfl⟩
  have eL : L = g * l := by rw [el, Nat.mul_div_cancel' dL]
  have en : n = g * s := by rw [es, Nat.mul_div_cancel' dn]
  have hs : 0 < s := by
    rcases Nat.eq_zero_or_pos s with h | h
    · rw [h, Nat.mul_zero] at en; omega
    · exact h
  have co : Nat.gcd l s = 1 := by rw [el, es, eg]; exact Nat.coprime_div_gcd_div_gcd (by rw [← eg]; exact hg)
  have lL : L ≤ L * n := Nat.le_mul_of_pos_right _ hn
  have ln : n ≤ L * n := Nat.le_mul_of_pos_left _ hL
  have sn : s ≤ n := by rw [es]; exact Nat.div_le_self _ _
  have gl : g ≤ L := Nat.le_of_dvd hL dL
  obtain ⟨inv, ei, i0, i1, id⟩ := recip_eq l s m hs (by omega) co
  obtain ⟨k, hk⟩ := hd
  have hk' : (r - x) / (g : Int) = -k := by
    have e : r - x = (g : Int) * (-k) := by rw [Int.mul_neg]; omega
    rw [e, Int.mul_ediv_cancel_left _ (by omega)]
  have kb : k.natAbs ≤ L * n := by
    have e : (x - r).natAbs = g * k.natAbs := by rw [hk, Int.natAbs_mul, Int.natAbs_natCast]
    have e2 : 1 * k.natAbs ≤ g * k.natAbs := Nat.mul_le_mul_right _ hg
    omega
  have big : (10 : Nat) ^ 790 < 10 ^ 800 := by decide +kernel
  have bd : ∀ {z : Int}, z.natAbs ≤ L * n → small z = true := fun {z} hz => small8 (by omega)
  obtain ⟨f, ef⟩ : ∃ f : Int, f = (-k * inv) % (s : Int) := ⟨_, rfl⟩
  have hs' : (0 : Int) < (s : Int) := by omega
  have f0 : 0 ≤ f := by rw [ef]; exact Int.emod_nonneg _ (by omega)
  have f1 : f < s := by rw [ef]; exact Int.emod_lt_of_pos _ hs'
  have elc : Nat.lcm L n = L * s := by
    unfold Nat.lcm
    rw [← eg, Nat.mul_div_assoc _ dn, ← es]
  refine ⟨x + L * f, ?_, ⟨?_, ?_, ?_⟩, ?_, ?_⟩
  · have h : b_joined [some (.d (pD (x, L))), some (.d (pD (r, n))), none, none, none] m = .rt (.d (pD (x + L * f, Nat.lcm L n))) m := by
      unfold b_joined
      refine es_seq (ρ1 := [some (.d (pD (x, L))), some (.d (pD (r, n))), some (.d (.int g)), none, none]) (m1 := m) (es_set (w := .d (.int g)) (m1 := m) (ev_call (ev_cons (ix1 rfl) (ev_cons (ix1 rfl) ev_nil)) (by rw [gcd_eq, gcdN, ← eg]))) ?_
      refine es_seq (ρ1 := [some (.d (pD (x, L))), some (.d (pD (r, n))), some (.d (.int g)), some (.d (.int s)), none]) (m1 := m) (es_set (w := .d (.int s)) (m1 := m) (ev_op (ix1 rfl) (ev_var rfl) (by rw [div_ok (by omega) (bd (by rw [Int.natAbs_natCast]; omega)), es]; rfl))) ?_
      refine es_seq (ρ1 := [some (.d (pD (x, L))), some (.d (pD (r, n))), some (.d (.int g)), some (.d (.int s)), some (.d (.int f))]) (m1 := m) (es_set (w := .d (.int f)) (m1 := m) (ev_op (w1 := .d (.int (-k * inv))) (ev_op (w1 := .d (.int (-k))) (ev_op (ev_op (ix0 rfl) (ix0 rfl) oSub_ii) (ev_var rfl) (by rw [div_ok (by omega) (bd (by rw [Int.natAbs_natCast]; omega)), hk'])) (ev_call (ev_cons (w := .d (.int l)) (ev_op (ix1 rfl) (ev_var rfl) (by rw [div_ok (by omega) (bd (by rw [Int.natAbs_natCast]; omega)), el]; rfl)) (ev_cons (ev_var rfl) ev_nil)) ei) (mul_ok (bd (by rw [Int.natAbs_neg]; exact kb)) (bd (by omega)))) (ev_var rfl) (by rw [mod_ok hs', ← ef]))) ?_
      refine es_ret (ev_tup (ws := [.d (.int (x + L * f)), .d (.int (Nat.lcm L n))]) (ev_cons (ev_op (ix0 rfl) (ev_op (ix1 rfl) (ev_var rfl) (mul_ok (bd (by rw [Int.natAbs_natCast]; omega)) (bd (by omega)))) oAdd_ii) (ev_cons (ev_op (ix1 rfl) (ev_var rfl) (by rw [mul_ok (bd (by rw [Int.natAbs_natCast]; omega)) (bd (by rw [Int.natAbs_natCast]; omega)), elc, Int.natCast_mul])) ev_nil)) rfl (show 2 ≤ 100000 by decide))
    have z := fn_ret (mu := false) (np := 2) (N := 5) (ws := [.d (pD (x, L)), .d (pD (r, n))]) rfl h
    show fnOf false 2 5 b_joined _ _ = _
    rw [z, leave_d, List.take_length]
  · exact Nat.lcm_pos hL hn
  · have : 0 ≤ (L : Int) * f := Int.mul_nonneg (by omega) f0
    dsimp only
    omega
  · have e1 : (L : Int) * f ≤ L * (s - 1) := Int.mul_le_mul_of_nonneg_left (by omega) (by omega)
    rw [elc, Int.natCast_mul]
    rw [Int.mul_sub, Int.mul_one] at e1
    dsimp only
    omega
  · exact ⟨f, by omega⟩
  · have ef2 := Int.mul_ediv_add_emod (-k * inv) s
    rw [← ef] at ef2
    obtain ⟨t, ht⟩ := id
    -- l * f = -k + s * _
    have e1 : (l : Int) * f = -k + s * (-k * t - l * ((-k * inv) / s)) := by
      have e2 : f = -k * inv - s * ((-k * inv) / s) := by omega
      have e3 : (l : Int) * inv = 1 + s * t := by omega
      rw [e2, Int.mul_sub]
      have e4 : (l : Int) * (-k * inv) = -k * (l * inv) := by rw [← Int.mul_assoc, Int.mul_comm (l : Int), Int.mul_assoc]
      have e5 : (l : Int) * (s * ((-k * inv) / s)) = s * (l * ((-k * inv) / s)) := by rw [← Int.mul_assoc, Int.mul_comm (l : Int), Int.mul_assoc]
      have e6 : -k * ((s : Int) * t) = s * (-k * t) := by rw [← Int.mul_assoc, Int.mul_comm (-k), Int.mul_assoc]
      rw [e4, e3, e5, Int.mul_add, Int.mul_one, e6, Int.mul_sub]
      omega
    refine ⟨-k * t - l * ((-k * inv) / s), ?_⟩
    have e7 : (L : Int) * f = g * (l * f) := by rw [eL, Int.natCast_mul, Int.mul_assoc]
    have e8 : (n : Int) = g * s := by rw [en, Int.natCast_mul]
    rw [e7, e1, e8, Int.mul_add, Int.mul_neg, ← Int.mul_assoc]
    omega
/-! ### all of them -/
def lcmN (ns : List Nat) : Nat := ns.foldl Nat.lcm 1
def prodN : List Nat → Nat
  | [] => 1
  | n :: ns => n * prodN ns
theorem prodN_pos : ∀ {l : List Nat}, (∀ n ∈ l, 0 < n) → 0 < prodN l
  | [], _ => by decide
  | a :: l, h => Nat.mul_pos (h a List.mem_cons_self) (prodN_pos fun x hx => h x (List.mem_cons_of_mem _ hx))
def Cp (p q : PR) : Prop := (Nat.gcd p.2 q.2 : Int) ∣ p.1 - q.1
theorem Cp.symm {p q : PR} (h : Cp p q) : Cp q p := by
  unfold Cp at h ⊢
  rw [Nat.gcd_comm, ← Int.dvd_neg, Int.neg_sub]
  exact h
def b_cturn : Ex := (sSeq (sIf (gNot (gTest (fCall m_agree (fCons (fVar 4) (fCons (fVar 5) fNil)))))
    (sRet (fC .non))
    sNext)
    (sAsg (fCall m_joined (fCons (fVar 4) (fCons (fTup (fCons (fOp oIx (fVar 5) (fC (.int 0))) (fCons (fOp oIx (fVar 5) (fC (.int 1))) fNil))) fNil))) (tgName 4)))
theorem common_loop : ∀ (ps : List PR) (x : Int) (L : Nat) (w0 : W) (o1 o2 o3 o5 : Option W) (m : Mem), PR.ok (x, L) → (∀ p ∈ ps, PR.ok p) → L * prodN (ps.map (·.2)) < 10 ^ 790 →
    (∃ (y : Int) (o5' : Option W), loop (tgName 5) b_cturn ((ps.map pD).map W.d) [some w0, o1, o2, o3, some (.d (pD (x, L))), o5] m = .nx [some w0, o1, o2, o3, some (.d (pD (y, (ps.map (·.2)).foldl Nat.lcm L))), o5'] m ∧ PR.ok (y, (ps.map (·.2)).foldl Nat.lcm L) ∧ (L : Int) ∣ y - x ∧ ∀ p ∈ ps, (p.2 : Int) ∣ y - p.1) ∨
    (loop (tgName 5) b_cturn ((ps.map pD).map W.d) [some w0, o1, o2, o3, some (.d (pD (x, L))), o5] m = .rt (.d .non) m ∧ ¬ ((∀ p ∈ ps, Cp (x, L) p) ∧ ps.Pairwise Cp))
  | [], x, L, w0, o1, o2, o3, o5, m, hx, _, _ => .inl ⟨x, o5, rfl, hx, by rw [Int.sub_self]; exact Int.dvd_zero _, fun p hp => by cases hp⟩
  | (r, n) :: ps, x, L, w0, o1, o2, o3, o5, m, hx, hps, hb => by
    have hr : PR.ok (r, n) := hps _ List.mem_cons_self
    have hps' : ∀ p ∈ ps, PR.ok p := fun p hp => hps p (List.mem_cons_of_mem _ hp)
    have pp : 0 < prodN (ps.map (·.2)) := prodN_pos fun k hk => by
      obtain ⟨p, hp, rfl⟩ := List.mem_map.mp hk
      exact (hps' p hp).1
    have hb' : L * n * prodN (ps.map (·.2)) < 10 ^ 790 := by
      have e : L * prodN (((r, n) :: ps).map (·.2)) = L * n * prodN (ps.map (·.2)) := by rw [Nat.mul_assoc]; rfl
      rw [← e]; exact hb
    have hLn : L * n < 10 ^ 790 := Nat.lt_of_le_of_lt (Nat.le_mul_of_pos_right _ pp) hb'
    have ag := agree_eq x r L n m hx.1
    have tst : gTest (fCall m_agree (fCons (fVar 4) (fCons (fVar 5) fNil))) [some w0, o1, o2, o3, some (.d (pD (x, L))), some (.d (pD (r, n)))] m = .ok (decide ((x - r) % (Nat.gcd L n : Int) = 0)) m := et_test (ev_call (ev_cons (ev_var rfl) (ev_cons (ev_var rfl) ev_nil)) ag) rfl
    by_cases hd : (Nat.gcd L n : Int) ∣ x - r
    · obtain ⟨y, ey, hy, y1, y2⟩ := joined_eq x r L n m hx hr hLn hd
      have hstep : b_cturn [some w0, o1, o2, o3, some (.d (pD (x, L))), some (.d (pD (r, n)))] m = .nx [some w0, o1, o2, o3, some (.d (pD (y, Nat.lcm L n))), some (.d (pD (r, n)))] m := by
        unfold b_cturn
        refine es_seq (ρ1 := [some w0, o1, o2, o3, some (.d (pD (x, L))), some (.d (pD (r, n)))]) (m1 := m) (es_ifF (by rw [et_not tst, decide_eq_true (Int.emod_eq_zero_of_dvd hd)]; rfl) es_next) ?_
        exact es_set (ev_call (ev_cons (ev_var rfl) (ev_cons (ev_tup (ev_cons (ix0 rfl) (ev_cons (ix1 rfl) ev_nil)) rfl (show 2 ≤ 100000 by decide)) ev_nil)) ey)
      have hle : Nat.lcm L n ≤ L * n := Nat.le_of_dvd (Nat.mul_pos hx.1 hr.1) (Nat.lcm_dvd_mul L n)
      have hb2 : Nat.lcm L n * prodN (ps.map (·.2)) < 10 ^ 790 := Nat.lt_of_le_of_lt (Nat.mul_le_mul_right _ hle) hb'
      have dL : (L : Int) ∣ (Nat.lcm L n : Int) := dvdN (Nat.dvd_lcm_left L n)
      have dn : (n : Int) ∣ (Nat.lcm L n : Int) := dvdN (Nat.dvd_lcm_right L n)
      rcases common_loop ps y (Nat.lcm L n) w0 o1 o2 o3 (some (.d (pD (r, n)))) m hy hps' hb2 with ⟨z, o5', e, hz, z1, z2⟩ | ⟨e, hno⟩
      · refine .inl ⟨z, o5', ?_, hz, ?_, fun p hp => ?_⟩
        · exact loop_cons rfl hstep e
        · have : z - x = (z - y) + (y - x) := by omega
          rw [this]
          exact Int.dvd_add (Int.dvd_trans dL z1) y1
        · rcases List.mem_cons.mp hp with rfl | hp
          · have : z - r = (z - y) + (y - r) := by omega
            show (n : Int) ∣ z - r
            rw [this]
            exact Int.dvd_add (Int.dvd_trans dn z1) y2
          · exact z2 p hp
      · refine .inr ⟨loop_cons rfl hstep e, fun ⟨c1, c2⟩ => hno ⟨fun p hp => ?_, (List.pairwise_cons.mp c2).2⟩⟩
        have ca : (Nat.gcd L p.2 : Int) ∣ x - p.1 := c1 p (List.mem_cons_of_mem _ hp)
        have cb : (Nat.gcd n p.2 : Int) ∣ r - p.1 := (List.pairwise_cons.mp c2).1 p hp
        show (Nat.gcd (Nat.lcm L n) p.2 : Int) ∣ y - p.1
        refine dvd_gcd_lcmI hx.1 hr.1 ?_ ?_
        · have : y - p.1 = (y - x) + (x - p.1) := by omega
          rw [this]
          exact Int.dvd_add (Int.dvd_trans (dvdN (Nat.gcd_dvd_left L p.2)) y1) ca
        · have : y - p.1 = (y - r) + (r - p.1) := by omega
          rw [this]
          exact Int.dvd_add (Int.dvd_trans (dvdN (Nat.gcd_dvd_left n p.2)) y2) cb
    · refine .inr ⟨?_, fun ⟨c1, _⟩ => hd (c1 _ List.mem_cons_self)⟩
      refine loop_ret (ρ1 := [some w0, o1, o2, o3, some (.d (pD (x, L))), some (.d (pD (r, n)))]) (m1 := m) rfl ?_
      unfold b_cturn
      exact es_seqR (es_ifT (by rw [et_not tst, decide_eq_false (fun z => hd (Int.dvd_of_emod_eq_zero z))]; rfl) (es_ret ev_c))
theorem check_loop : ∀ (ps : List PR) (k : Nat) (w0 : W) (o1 o2 o3 : Option W) (m : Mem) (bad : Ex), (∀ p ∈ ps, PR.ok p) →
    ∃ (p1 p2 p3 : Option W), loop (tgUn 2 (tgCons (tgName 1) (tgCons (tgUn 2 (tgCons (tgName 2) (tgCons (tgName 3) tgNil))) tgNil))) (sIf (gOr (gBool (fOp oLt (fVar 3) (fC (.int 1)))) (gNot (gBool (fChain oLe oLt (fC (.int 0)) (fVar 2) (fVar 3))))) bad sNext) (enumD k (ps.map pD)) [some w0, o1, o2, o3, none, none] m = .nx [some w0, p1, p2, p3, none, none] m
  | [], k, w0, o1, o2, o3, m, bad, _ => ⟨o1, o2, o3, rfl⟩
  | (r, n) :: ps, k, w0, o1, o2, o3, m, bad, h => by
    obtain ⟨h1, h2, h3⟩ := h _ List.mem_cons_self
    dsimp only at h1 h2 h3
    obtain ⟨p1, p2, p3, e⟩ := check_loop ps (k + 1) w0 (some (.d (.int k))) (some (.d (.int r))) (some (.d (.int n))) m bad fun p hp => h p (List.mem_cons_of_mem _ hp)
    refine ⟨p1, p2, p3, ?_⟩
    refine loop_cons (ρ1 := [some w0, some (.d (.int k)), some (.d (.int r)), some (.d (.int n)), none, none]) (m1 := m) rfl (es_ifF (et_orF (m1 := m) (et_bool (ev_op (ev_var rfl) ev_c ?_)) (et_not (x := true) (et_bool ?_))) es_next) e
    · rw [oLt_ii, decide_eq_false (by omega)]
    · unfold fChain
      rw [ev_c, R.bind_ok, ev_var rfl, R.bind_ok, oLe_ii, decide_eq_true h2, R.bind_ok]
      dsimp only
      rw [ev_var rfl, R.bind_ok, oLt_ii, decide_eq_true h3]
theorem common_eq (ps : List PR) (m : Mem) (h : ∀ p ∈ ps, PR.ok p) (hb : prodN (ps.map (·.2)) < 10 ^ 790) :
    (∃ y : Int, m_common_rounds [.d (.lst (ps.map pD))] m = .ok (.d (pD (y, lcmN (ps.map (·.2))))) m ∧ PR.ok (y, lcmN (ps.map (·.2))) ∧ ∀ p ∈ ps, (p.2 : Int) ∣ y - p.1) ∨
    (m_common_rounds [.d (.lst (ps.map pD))] m = .ok (.d .non) m ∧ ¬ ps.Pairwise Cp) := by
  obtain ⟨p1, p2, p3, e1⟩ := check_loop ps 0 (.d (.lst (ps.map pD))) none none none m sBad h
  have pre : ∀ (q : RS), loop (tgName 5) b_cturn ((ps.map pD).map W.d) [some (.d (.lst (ps.map pD))), p1, p2, p3, some (.d (pD (0, 1))), none] m = q → (∀ ρ m', q = .nx ρ m' → b_common_rounds [some (.d (.lst (ps.map pD))), none, none, none, none, none] m = sRet (fVar 4) ρ m') ∧ (∀ w m', q = .rt w m' → b_common_rounds [some (.d (.lst (ps.map pD))), none, none, none, none, none] m = .rt w m') := by
    intro q hq
    refine ⟨fun ρ m' e => ?_, fun w m' e => ?_⟩
    · unfold b_common_rounds
      exact es_seq (es_for (m1 := m) rfl e1) (es_seq (ρ1 := [some (.d (.lst (ps.map pD))), p1, p2, p3, some (.d (pD (0, 1))), none]) (m1 := m) (es_set (ev_tup (ev_cons ev_c (ev_cons ev_c ev_nil)) rfl (show 2 ≤ 100000 by decide))) (es_seq (es_for (m1 := m) rfl (hq.trans e)) rfl))
    · unfold b_common_rounds
      exact es_seq (es_for (m1 := m) rfl e1) (es_seq (ρ1 := [some (.d (.lst (ps.map pD))), p1, p2, p3, some (.d (pD (0, 1))), none]) (m1 := m) (es_set (ev_tup (ev_cons ev_c (ev_cons ev_c ev_nil)) rfl (show 2 ≤ 100000 by decide))) (es_seqR (es_for (m1 := m) rfl (hq.trans e))))
  rcases common_loop ps 0 1 (.d (.lst (ps.map pD))) p1 p2 p3 none m ⟨by decide, by decide, by decide⟩ h (by rw [Nat.one_mul]; exact hb) with ⟨y, o5, e, hy, _, hd⟩ | ⟨e, hno⟩
  · refine .inl ⟨y, ?_, hy, hd⟩
    have hh := ((pre _ e).1 _ _ rfl).trans (es_ret (ev_var rfl))
    have z := fn_ret (mu := false) (np := 1) (N := 6) (ws := [.d (.lst (ps.map pD))]) rfl hh
    show fnOf false 1 6 b_common_rounds _ _ = _
    rw [z, leave_d, List.take_length]
    rfl
  · refine .inr ⟨?_, fun hp => hno ⟨fun p _ => ?_, hp⟩⟩
    · have hh := (pre _ e).2 _ _ rfl
      have z := fn_ret (mu := false) (np := 1) (N := 6) (ws := [.d (.lst (ps.map pD))]) rfl hh
      show fnOf false 1 6 b_common_rounds _ _ = _
      rw [z, leave_d, List.take_length]
    · show (Nat.gcd 1 p.2 : Int) ∣ _
      rw [Nat.gcd_one_left]
      exact Int.one_dvd _
/-! ### the law's own words -/
theorem llcm_loop : ∀ (ns : List Nat) (f : Nat) (o : Option W) (w : W) (m : Mem), 0 < f → (∀ n ∈ ns, 0 < n) → f * prodN ns < 10 ^ 790 → ∃ o', loop (tgName 2) (sAsg (fOp oMul (fOp oDiv (fVar 1) (fCall m__law_gcd (fCons (fVar 1) (fCons (fVar 2) fNil)))) (fVar 2)) (tgName 1))
    ((ns.map fun n : Nat => D.int n).map W.d) [some w, some (.d (.int f)), o] m = .nx [some w, some (.d (.int ((ns.foldl Nat.lcm f : Nat) : Int))), o'] m
  | [], f, o, w, m, _, _, _ => ⟨o, rfl⟩
  | n :: ns, f, o, w, m, hf, hn, hb => by
    have hn0 : 0 < n := hn n List.mem_cons_self
    have hle : Nat.lcm f n ≤ f * n := Nat.le_of_dvd (Nat.mul_pos hf hn0) (Nat.lcm_dvd_mul f n)
    have hps := prodN_pos fun x hx => hn x (List.mem_cons_of_mem _ hx)
    have hb' : f * n * prodN ns < 10 ^ 790 := by
      have : f * prodN (n :: ns) = f * n * prodN ns := by rw [Nat.mul_assoc]; rfl
      omega
    have h1 : f * n ≤ f * n * prodN ns := Nat.le_mul_of_pos_right _ hps
    have hfn : f ≤ f * n := Nat.le_mul_of_pos_right _ hn0
    have hnn : n ≤ f * n := Nat.le_mul_of_pos_left _ hf
    have big : (10 : Nat) ^ 790 < 10 ^ 800 := by decide +kernel
    have bd : ∀ {z : Nat}, z ≤ f * n → small (z : Int) = true := fun {z} hz => small8 (by rw [Int.natAbs_natCast]; omega)
    obtain ⟨o', e⟩ := llcm_loop ns (Nat.lcm f n) (some (.d (.int n))) w m (Nat.lcm_pos hf hn0) (fun x hx => hn x (List.mem_cons_of_mem _ hx)) (Nat.lt_of_le_of_lt (Nat.mul_le_mul_right _ hle) hb')
    refine ⟨o', ?_⟩
    rw [List.map_cons, List.map_cons]
    refine loop_cons (ρ1 := [some w, some (.d (.int f)), some (.d (.int n))]) (m1 := m) rfl (es_set (w := .d (.int (Nat.lcm f n))) (m1 := m) ?_) e
    have hg : 0 < Nat.gcd f n := Nat.gcd_pos_of_pos_left n hf
    have hgl : Nat.gcd f n ≤ f := Nat.gcd_le_left n hf
    refine ev_op (w1 := .d (.int ((f / Nat.gcd f n : Nat) : Int))) (m1 := m) (ev_op (ev_var rfl) (ev_call (ev_cons (ev_var rfl) (ev_cons (ev_var rfl) ev_nil)) (lgcd_eq f n m)) ?_) (ev_var rfl) ?_
    · rw [gcdN, div_ok (by omega) (bd (by omega))]
      rfl
    · rw [mul_ok (bd (by have := Nat.div_le_self f (Nat.gcd f n); omega)) (bd hnn)]
      have : f / Nat.gcd f n * n = Nat.lcm f n := by
        unfold Nat.lcm
        rw [Nat.mul_comm f n, Nat.mul_div_assoc _ (Nat.gcd_dvd_left f n), Nat.mul_comm]
      rw [← this]
      rfl
theorem llcm_eq (ns : List Nat) (m : Mem) (hn : ∀ n ∈ ns, 0 < n) (hb : prodN ns < 10 ^ 790) : m__law_lcm [.d (.lst (ns.map fun n : Nat => D.int n))] m = .ok (.d (.int (lcmN ns))) m := by
  obtain ⟨o', e⟩ := llcm_loop ns 1 none (.d (.lst (ns.map fun n : Nat => D.int n))) m (by decide) hn (by rw [Nat.one_mul]; exact hb)
  have h : b__law_lcm [some (.d (.lst (ns.map fun n : Nat => D.int n))), none, none] m = .rt (.d (.int (lcmN ns))) m := by
    unfold b__law_lcm
    exact es_seq (es_set ev_c) (es_seq (es_for (m1 := m) rfl e) (es_ret (ev_var rfl)))
  have z := fn_ret (mu := false) (np := 1) (N := 3) (ws := [.d (.lst (ns.map fun n : Nat => D.int n))]) rfl h
  show fnOf false 1 3 b__law_lcm _ _ = _
  rw [z, leave_d, List.take_length]
/-- _law_of: one of the things -/
theorem of_eq (b : Bag) (rest : Mem) (xs : List D) (x : D) (h0 : 0 < xs.length) (hl : xs.length ≤ 100000) (hx : xs[b.val xs.length]? = some x) : m__law_of [.m 0, .d (.lst xs)] (b.mo :: rest) = .ok (.d x) ((b.nxt xs.length).mo :: rest) := by
  have h : b__law_of [some (.m 0), some (.d (.lst xs))] (b.mo :: rest) = .rt (.d x) ((b.nxt xs.length).mo :: rest) := by
    unfold b__law_of
    refine es_ret (ev_op (ev_var rfl) (ev_call (ev_cons (ev_var rfl) (ev_cons (ev_cb (ev_cons (ev_var rfl) ev_nil) oLen_l) ev_nil)) (pull_eq b rest xs.length h0 (Nat.lt_of_le_of_lt hl (by decide)))) (ixl_ok ?_))
    rw [atI_nat]
    exact hx
  have z := fn_ret (mu := false) (np := 2) (N := 2) (ws := [.m 0, .d (.lst xs)]) rfl h
  show fnOf false 2 2 b__law_of _ _ = _
  rw [z, leave_d]
  show R.ok _ (List.take (rest.length + 1) _) = _
  rw [List.take_succ_cons, List.take_length]
end GD

namespace GD
open PySem PySem.Spec PyProof.Rows L2
def b__law_modulus : Ex :=
    (sSeq (sAsg (fOp oAdd (fC (.int 1)) (fCall m__law_pull (fCons (fVar 0) (fCons (fCall m__law_of (fCons (fVar 0) (fCons (fLst (fCons (fC (.int 9)) (fCons (fOp oPow (fC (.int 10)) (fC (.int 9))) (fCons (fOp oPow (fC (.int 10)) (fC (.int 28))) fNil)))) fNil))) fNil)))) (tgName 2))
    (sRet (fOp oMul (fVar 2) (fCall m__law_of (fCons (fVar 0) (fCons (fLst (fCons (fC (.int 1)) (fCons (fVar 1) fNil))) fNil))))))
def m__law_modulus : Fn := fnOf false 2 3 b__law_modulus
def b_law : Ex :=
    (sSeq (sAsg (fCall m__law_bag (fCons (fVar 0) fNil)) (tgName 1))
    (sSeq (sFor (iRange1 (fCons (fC (.int 4)) fNil)) (tgName 2)
    (sSeq (sAsg (fOp oAdd (fC (.int 1)) (fCall m__law_pull (fCons (fVar 1) (fCons (fC (.int 60)) fNil)))) (tgName 3))
    (sSeq (sAsg (fLc (iRange1 (fCons (fOp oAdd (fC (.int 1)) (fCall m__law_pull (fCons (fVar 1) (fCons (fC (.int 5)) fNil)))) fNil)) (tgName 14) gYes (fCall m__law_modulus (fCons (fVar 1) (fCons (fVar 3) fNil))) [14]) (tgName 4))
    (sSeq (sAsg (fCall m__law_pull (fCons (fVar 1) (fCons (fOp oPow (fC (.int 10)) (fC (.int 30))) fNil))) (tgName 5))
    (sSeq (sAsg (fLc (iSeq (fVar 4)) (tgName 15) gYes (fTup (fCons (fOp oMod (fCB oInt (fCons (fVar 5) fNil)) (fVar 15)) (fCons (fVar 15) fNil))) [15]) (tgName 6))
    (sSeq (sAsg (fCall m__law_lcm (fCons (fVar 4) fNil)) (tgName 7))
    (sSeq (sIf (gNot (gTest (fCall (m__law_same 3) (fCons (fCall m_common_rounds (fCons (fVar 6) fNil)) (fCons (fTup (fCons (fOp oMod (fCB oInt (fCons (fVar 5) fNil)) (fVar 7)) (fCons (fVar 7) fNil))) fNil)))))
    (sRet (fC (.bl false)))
    sNext)
    (sSeq (sAsg (fCall m__law_pull (fCons (fVar 1) (fCons (fCB oLen (fCons (fVar 6) fNil)) fNil))) (tgName 8))
    (sSeq (sAsg (fCB (oList true) (fCons (fVar 6) fNil)) (tgName 9))
    (sSeq (sFrz 9 (sAsg (fTup (fCons (fOp oMod (fCB oInt (fCons (fOp oAdd (fOp oIx (fOp oIx (fVar 6) (fVar 8)) (fC (.int 0))) (fC (.int 1))) fNil)) (fOp oIx (fVar 4) (fVar 8))) (fCons (fOp oIx (fVar 4) (fVar 8)) fNil))) (tgSub (fVar 9) (fVar 8))))
    (sSeq (sAsg (fLc (iZip2 (fCons (fOp oMul (fLst (fCons (fOp oIx (fVar 9) (fVar 8)) fNil)) (fCB oLen (fCons (fVar 9) fNil))) (fCons (fVar 9) fNil))) (tgTup 2 (tgCons (tgName 16) (tgCons (tgName 17) tgNil))) (gBool (fOp oNe (fOp oMod (fOp oSub (fOp oIx (fVar 16) (fC (.int 0))) (fOp oIx (fVar 17) (fC (.int 0)))) (fCall m__law_gcd (fCons (fOp oIx (fVar 16) (fC (.int 1))) (fCons (fOp oIx (fVar 17) (fC (.int 1))) fNil)))) (fC (.int 0)))) (fTup (fCons (fVar 16) (fCons (fVar 17) fNil))) [16, 17]) (tgName 10))
    (sSeq (sAsg (fCall m_common_rounds (fCons (fVar 9) fNil)) (tgName 11))
    (sSeq (sIf (gBool (fOp oNe (fOp oIs (fVar 11) (fC .non)) (fOp oNe (fVar 10) (fLst fNil))))
    (sRet (fC (.bl false)))
    sNext)
    (sIf (gAnd (gBool (fOp oIsNot (fVar 11) (fC .non))) (gOr (gBool (fOp oNe (fOp oIx (fVar 11) (fC (.int 1))) (fVar 7))) (gOr (gNot (gBool (fChain oLe oLt (fC (.int 0)) (fOp oIx (fVar 11) (fC (.int 0))) (fVar 7)))) (gBool (fOp oNe (fLc (iSeq (fVar 9)) (tgTup 2 (tgCons (tgName 18) (tgCons (tgName 15) tgNil))) gYes (fOp oMod (fCB oInt (fCons (fOp oIx (fVar 11) (fC (.int 0))) fNil)) (fVar 15)) [18, 15]) (fLc (iSeq (fVar 9)) (tgTup 2 (tgCons (tgName 18) (tgCons (tgName 15) tgNil))) gYes (fVar 18) [18, 15]))))))
    (sRet (fC (.bl false)))
    sNext))))))))))))))
    (sSeq (sAsg (fLst (fCons (fOp oAdd (fOp oMul (fOp oPow (fOp oPow (fC (.int 10)) (fC (.int 60))) (fC (.int 6))) (fOp oPow (fC (.int 10)) (fC (.int 29)))) (fCall m__law_pull (fCons (fVar 1) (fCons (fOp oPow (fC (.int 10)) (fC (.int 9))) fNil)))) (fCons (fOp oAdd (fOp oPow (fOp oPow (fC (.int 7)) (fC (.int 55))) (fC (.int 8))) (fCall m__law_pull (fCons (fVar 1) (fCons (fOp oPow (fC (.int 10)) (fC (.int 9))) fNil)))) fNil))) (tgName 12))
    (sSeq (sAsg (fOp oAdd (fOp oPow (fOp oPow (fC (.int 3)) (fC (.int 50))) (fC (.int 16))) (fCall m__law_pull (fCons (fVar 1) (fCons (fOp oPow (fC (.int 10)) (fC (.int 30))) fNil)))) (tgName 5))
    (sSeq (sAsg (fCall m_common_rounds (fCons (fLc (iSeq (fVar 12)) (tgName 15) gYes (fTup (fCons (fOp oMod (fCB oInt (fCons (fVar 5) fNil)) (fVar 15)) (fCons (fVar 15) fNil))) [15]) fNil)) (tgName 13))
    (sSeq (sAsg (fCall m__law_lcm (fCons (fVar 12) fNil)) (tgName 7))
    (sRet (fCall (m__law_same 3) (fCons (fVar 13) (fCons (fTup (fCons (fOp oMod (fCB oInt (fCons (fVar 5) fNil)) (fVar 7)) (fCons (fVar 7) fNil))) fNil))))))))))
def m_law : Fn := fnOf false 1 19 b_law
def b_turn : Ex :=
    (sSeq (sAsg (fOp oAdd (fC (.int 1)) (fCall m__law_pull (fCons (fVar 1) (fCons (fC (.int 60)) fNil)))) (tgName 3))
    (sSeq (sAsg (fLc (iRange1 (fCons (fOp oAdd (fC (.int 1)) (fCall m__law_pull (fCons (fVar 1) (fCons (fC (.int 5)) fNil)))) fNil)) (tgName 14) gYes (fCall m__law_modulus (fCons (fVar 1) (fCons (fVar 3) fNil))) [14]) (tgName 4))
    (sSeq (sAsg (fCall m__law_pull (fCons (fVar 1) (fCons (fOp oPow (fC (.int 10)) (fC (.int 30))) fNil))) (tgName 5))
    (sSeq (sAsg (fLc (iSeq (fVar 4)) (tgName 15) gYes (fTup (fCons (fOp oMod (fCB oInt (fCons (fVar 5) fNil)) (fVar 15)) (fCons (fVar 15) fNil))) [15]) (tgName 6))
    (sSeq (sAsg (fCall m__law_lcm (fCons (fVar 4) fNil)) (tgName 7))
    (sSeq (sIf (gNot (gTest (fCall (m__law_same 3) (fCons (fCall m_common_rounds (fCons (fVar 6) fNil)) (fCons (fTup (fCons (fOp oMod (fCB oInt (fCons (fVar 5) fNil)) (fVar 7)) (fCons (fVar 7) fNil))) fNil)))))
    (sRet (fC (.bl false)))
    sNext)
    (sSeq (sAsg (fCall m__law_pull (fCons (fVar 1) (fCons (fCB oLen (fCons (fVar 6) fNil)) fNil))) (tgName 8))
    (sSeq (sAsg (fCB (oList true) (fCons (fVar 6) fNil)) (tgName 9))
    (sSeq (sFrz 9 (sAsg (fTup (fCons (fOp oMod (fCB oInt (fCons (fOp oAdd (fOp oIx (fOp oIx (fVar 6) (fVar 8)) (fC (.int 0))) (fC (.int 1))) fNil)) (fOp oIx (fVar 4) (fVar 8))) (fCons (fOp oIx (fVar 4) (fVar 8)) fNil))) (tgSub (fVar 9) (fVar 8))))
    (sSeq (sAsg (fLc (iZip2 (fCons (fOp oMul (fLst (fCons (fOp oIx (fVar 9) (fVar 8)) fNil)) (fCB oLen (fCons (fVar 9) fNil))) (fCons (fVar 9) fNil))) (tgTup 2 (tgCons (tgName 16) (tgCons (tgName 17) tgNil))) (gBool (fOp oNe (fOp oMod (fOp oSub (fOp oIx (fVar 16) (fC (.int 0))) (fOp oIx (fVar 17) (fC (.int 0)))) (fCall m__law_gcd (fCons (fOp oIx (fVar 16) (fC (.int 1))) (fCons (fOp oIx (fVar 17) (fC (.int 1))) fNil)))) (fC (.int 0)))) (fTup (fCons (fVar 16) (fCons (fVar 17) fNil))) [16, 17]) (tgName 10))
    (sSeq (sAsg (fCall m_common_rounds (fCons (fVar 9) fNil)) (tgName 11))
    (sSeq (sIf (gBool (fOp oNe (fOp oIs (fVar 11) (fC .non)) (fOp oNe (fVar 10) (fLst fNil))))
    (sRet (fC (.bl false)))
    sNext)
    (sIf (gAnd (gBool (fOp oIsNot (fVar 11) (fC .non))) (gOr (gBool (fOp oNe (fOp oIx (fVar 11) (fC (.int 1))) (fVar 7))) (gOr (gNot (gBool (fChain oLe oLt (fC (.int 0)) (fOp oIx (fVar 11) (fC (.int 0))) (fVar 7)))) (gBool (fOp oNe (fLc (iSeq (fVar 9)) (tgTup 2 (tgCons (tgName 18) (tgCons (tgName 15) tgNil))) gYes (fOp oMod (fCB oInt (fCons (fOp oIx (fVar 11) (fC (.int 0))) fNil)) (fVar 15)) [18, 15]) (fLc (iSeq (fVar 9)) (tgTup 2 (tgCons (tgName 18) (tgCons (tgName 15) tgNil))) gYes (fVar 18) [18, 15]))))))
    (sRet (fC (.bl false)))
    sNext)))))))))))))
/-! ### comprehensions -/
theorem lc_filter {it : EvL} {g : Tg} {t : EvT} {a : Ev} {vs : List Nat} {ρ : Env} {m m0 : Mem} {ws : List W} (P : W → Bool) (f : W → D) (hi : it ρ m0 = .ok ws m) (h : ∀ w ∈ ws, ∃ ρ1, g w (wipeE ρ vs) m = .ok ρ1 m ∧ t ρ1 m = .ok (P w) m ∧ (P w = true → a ρ1 m = .ok (.d (f w)) m)) (hl : ws.length ≤ 100000) :
    fLc it g t a vs ρ m0 = .ok (.d (.lst ((ws.filter P).map f))) m := by
  refine lc_eq hi ?_
  rw [lcs_pure P f h [] (by simpa using hl), List.nil_append]
theorem lc_map {it : EvL} {g : Tg} {a : Ev} {vs : List Nat} {ρ : Env} {m m0 : Mem} {ws : List W} (f : W → D) (hi : it ρ m0 = .ok ws m) (h : ∀ w ∈ ws, ∃ ρ1, g w (wipeE ρ vs) m = .ok ρ1 m ∧ a ρ1 m = .ok (.d (f w)) m) (hl : ws.length ≤ 100000) :
    fLc it g gYes a vs ρ m0 = .ok (.d (.lst (ws.map f))) m := by
  have e := lc_filter (t := gYes) (fun _ => true) f hi (fun w hw => by
    obtain ⟨ρ1, h1, h2⟩ := h w hw
    exact ⟨ρ1, h1, rfl, fun _ => h2⟩) hl
  rw [e, List.filter_eq_self.mpr fun _ _ => rfl]
/-- a comprehension whose items are pulled from the bag -/
theorem lcs_bag {g : Tg} {a : Ev} {ρ : Env} {rest : Mem} (P : D → Prop) : ∀ (ws : List W) (b : Bag) (acc : List D), (∀ w ∈ ws, ∀ b : Bag, ∃ (ρ1 : Env) (b' : Bag) (d : D), g w ρ (b.mo :: rest) = .ok ρ1 (b.mo :: rest) ∧ a ρ1 (b.mo :: rest) = .ok (.d d) (b'.mo :: rest) ∧ P d) → acc.length + ws.length ≤ 100000 →
    ∃ (b' : Bag) (l : List D), lcs g gYes a ρ ws acc (b.mo :: rest) = .ok (acc ++ l) (b'.mo :: rest) ∧ l.length = ws.length ∧ ∀ d ∈ l, P d
  | [], b, acc, _, _ => ⟨b, [], by rw [List.append_nil]; rfl, rfl, fun d hd => by cases hd⟩
  | w :: ws, b, acc, h, hl => by
    obtain ⟨ρ1, b1, d, h1, h2, h3⟩ := h w List.mem_cons_self b
    rw [List.length_cons] at hl
    obtain ⟨b2, l, e1, e2, e3⟩ := lcs_bag P ws b1 (acc ++ [d]) (fun w' hw => h w' (List.mem_cons_of_mem _ hw)) (by simp; omega)
    refine ⟨b2, d :: l, ?_, by simp [e2], fun x hx => ?_⟩
    · rw [lcs_take h1 rfl h2 (by omega) e1]
      simp
    · rcases List.mem_cons.mp hx with rfl | hx
      · exact h3
      · exact e3 x hx
theorem nats_of {B : Nat} : ∀ l : List D, (∀ d ∈ l, ∃ n : Nat, d = .int n ∧ 0 < n ∧ n ≤ B) → ∃ ns : List Nat, l = (ns.map fun n : Nat => D.int n) ∧ ∀ n ∈ ns, 0 < n ∧ n ≤ B
  | [], _ => ⟨[], rfl, fun n h => by cases h⟩
  | d :: l, h => by
    obtain ⟨n, rfl, h1, h2⟩ := h d List.mem_cons_self
    obtain ⟨ns, e, h3⟩ := nats_of l fun x hx => h x (List.mem_cons_of_mem _ hx)
    refine ⟨n :: ns, by rw [e]; rfl, fun k hk => ?_⟩
    rcases List.mem_cons.mp hk with rfl | hk
    · exact ⟨h1, h2⟩
    · exact h3 k hk
theorem prodN_le {B : Nat} (hB : 0 < B) : ∀ ns : List Nat, (∀ n ∈ ns, n ≤ B) → prodN ns ≤ B ^ ns.length
  | [], _ => by simp [prodN]
  | n :: ns, h => by
    rw [List.length_cons, Nat.pow_succ, Nat.mul_comm]
    exact Nat.mul_le_mul (h n List.mem_cons_self) (prodN_le hB ns fun k hk => h k (List.mem_cons_of_mem _ hk))
theorem pw_of {R : PR → PR → Prop} : ∀ l : List PR, (∀ p ∈ l, ∀ q ∈ l, R p q) → l.Pairwise R
  | [], _ => .nil
  | p :: l, h => List.pairwise_cons.mpr ⟨fun q hq => h p List.mem_cons_self q (List.mem_cons_of_mem _ hq), pw_of l fun x hx y hy => h x (List.mem_cons_of_mem _ hx) y (List.mem_cons_of_mem _ hy)⟩
theorem lcm_all {z : Int} : ∀ (ns : List Nat) (f : Nat), (f : Int) ∣ z → (∀ n ∈ ns, (n : Int) ∣ z) → ((ns.foldl Nat.lcm f : Nat) : Int) ∣ z
  | [], _, h, _ => h
  | n :: ns, f, h, hn => lcm_all ns (Nat.lcm f n) (lcm_dvdI h (hn n List.mem_cons_self)) fun k hk => hn k (List.mem_cons_of_mem _ hk)
theorem cp_of {p q : PR} {z : Int} (h1 : (p.2 : Int) ∣ z - p.1) (h2 : (q.2 : Int) ∣ z - q.1) : Cp p q := by
  unfold Cp
  have e : p.1 - q.1 = (z - q.1) - (z - p.1) := by omega
  rw [e]
  exact Int.dvd_sub (Int.dvd_trans (dvdN (Nat.gcd_dvd_right _ _)) h2) (Int.dvd_trans (dvdN (Nat.gcd_dvd_left _ _)) h1)
theorem emod_dvd (a : Int) (n : Int) : n ∣ a - a % n := ⟨a / n, by have := Int.mul_ediv_add_emod a n; omega⟩
def remOf (N : Nat) (n : Nat) : PR := ((N : Int) % (n : Int), n)
theorem remOf_ok (N : Nat) {n : Nat} (h : 0 < n) : PR.ok (remOf N n) := ⟨h, Int.emod_nonneg _ (by omega), Int.emod_lt_of_pos _ (by omega)⟩
theorem known_eq (ns : List Nat) (N : Nat) (m : Mem) (hn : ∀ n ∈ ns, 0 < n) (hb : prodN ns < 10 ^ 790) : m_common_rounds [.d (.lst ((ns.map (remOf N)).map pD))] m = .ok (.d (pD ((N : Int) % (lcmN ns : Int), lcmN ns))) m := by
  have em : (ns.map (remOf N)).map (·.2) = ns := by
    rw [List.map_map]
    exact (List.map_congr_left fun n _ => rfl).trans (List.map_id ns)
  have ok : ∀ p ∈ ns.map (remOf N), PR.ok p := fun p hp => by
    obtain ⟨n, h1, rfl⟩ := List.mem_map.mp hp
    exact remOf_ok N (hn n h1)
  have dv : ∀ p ∈ ns.map (remOf N), (p.2 : Int) ∣ N - p.1 := fun p hp => by
    obtain ⟨n, h1, rfl⟩ := List.mem_map.mp hp
    exact emod_dvd _ _
  rcases common_eq (ns.map (remOf N)) m ok (by rw [em]; exact hb) with ⟨y, e, hy, hd⟩ | ⟨_, h⟩
  · rw [em] at e hy
    rw [e]
    have h1 : (lcmN ns : Int) ∣ y - N := lcm_all ns 1 (Int.one_dvd _) fun n h => by
      have h2 := hd (remOf N n) (List.mem_map_of_mem h)
      have h3 := dv (remOf N n) (List.mem_map_of_mem h)
      have e2 : y - N = (y - (remOf N n).1) - (N - (remOf N n).1) := by omega
      rw [e2]
      exact Int.dvd_sub h2 h3
    have e3 : y = (N : Int) % (lcmN ns : Int) := by
      have h5 : y % (lcmN ns : Int) = (N : Int) % (lcmN ns : Int) := Int.emod_eq_emod_iff_emod_sub_eq_zero.mpr (Int.emod_eq_zero_of_dvd h1)
      rw [Int.emod_eq_of_lt hy.2.1 hy.2.2] at h5
      exact h5
    rw [← e3]
  · exact absurd (pw_of _ fun p hp q hq => cp_of (dv p hp) (dv q hq)) h

/-! ### the law -/
theorem pull_ev (b : Bag) (rest : Mem) {ρ : Env} {e : Ev} (k : Nat) (i : Nat) (h : ρ[i]? = some (some (.m 0))) (he : e ρ (b.mo :: rest) = .ok (.d (.int k)) (b.mo :: rest)) (hk : 0 < k) (hs : k < 10 ^ 200) : fCall m__law_pull (fCons (fVar i) (fCons e fNil)) ρ (b.mo :: rest) = .ok (.d (.int (b.val k))) ((b.nxt k).mo :: rest) := ev_call (ev_cons (ev_var h) (ev_cons he ev_nil)) (pull_eq b rest k hk hs)
theorem of_nat (b : Bag) (rest : Mem) (l : List Nat) (h0 : 0 < l.length) (hl : l.length ≤ 100000) : ∃ n ∈ l, m__law_of [.m 0, .d (.lst (l.map fun n : Nat => D.int n))] (b.mo :: rest) = .ok (.d (.int n)) ((b.nxt l.length).mo :: rest) := by
  have hv := b.val_lt h0
  refine ⟨l[b.val l.length], List.getElem_mem hv, ?_⟩
  have e := of_eq b rest (l.map fun n : Nat => D.int n) (.int (l[b.val l.length] : Nat)) (by simpa using h0) (by simpa using hl) (by
    rw [List.length_map, List.getElem?_map, List.getElem?_eq_getElem hv]
    rfl)
  rw [List.length_map] at e
  exact e
theorem pow10 (m : Mem) (ρ : Env) (k : Nat) (hk : k ≤ 1000) : fOp oPow (fC (.int 10)) (fC (.int k)) ρ m = .ok (.d (.int ((10 ^ k : Nat) : Int))) m := by
  have e : ((10 ^ k : Nat) : Int) = (10 : Int) ^ ((k : Int)).toNat := by rw [Int.natCast_pow]; rfl
  rw [e]
  exact ev_op ev_c ev_c (pow_ok ⟨by omega, by omega, by decide⟩)
theorem modulus_eq (b : Bag) (rest : Mem) (s : Nat) (h0 : 0 < s) (hs : s ≤ 60) : ∃ (b' : Bag) (n : Nat), m__law_modulus [.m 0, .d (.int s)] (b.mo :: rest) = .ok (.d (.int n)) (b'.mo :: rest) ∧ 0 < n ∧ n ≤ 10 ^ 31 := by
  obtain ⟨k, hk, e1⟩ := of_nat b rest [9, 10 ^ 9, 10 ^ 28] (by decide) (by decide)
  obtain ⟨b1, eb1⟩ : ∃ b1, b1 = b.nxt 3 := ⟨_, rfl⟩
  rw [show ([9, 10 ^ 9, 10 ^ 28] : List Nat).length = 3 from rfl, ← eb1] at e1
  have hk0 : 0 < k ∧ k ≤ 10 ^ 28 := by simp at hk; omega
  obtain ⟨b2, eb2⟩ : ∃ b2, b2 = b1.nxt k := ⟨_, rfl⟩
  obtain ⟨c, hc, e2⟩ := of_nat b2 rest [1, s] (by simp) (by simp)
  have hc0 : 0 < c ∧ c ≤ 60 := by simp at hc; omega
  have hv := b1.val_lt hk0.1
  obtain ⟨v, ev⟩ : ∃ v, v = b1.val k := ⟨_, rfl⟩
  rw [← ev] at hv
  have bd : (1 + v) * c ≤ 10 ^ 28 * 60 := Nat.mul_le_mul (by omega) hc0.2
  refine ⟨b2.nxt 2, (1 + v) * c, ?_, Nat.mul_pos (by omega) hc0.1, Nat.le_trans bd (by decide)⟩
  have h : b__law_modulus [some (.m 0), some (.d (.int s)), none] (b.mo :: rest) = .rt (.d (.int ((1 + v) * c : Nat))) ((b2.nxt 2).mo :: rest) := by
    unfold b__law_modulus
    refine es_seq (ρ1 := [some (.m 0), some (.d (.int s)), some (.d (.int (1 + v : Nat)))]) (m1 := b2.mo :: rest) (es_set (w := .d (.int (1 + v : Nat))) (m1 := b2.mo :: rest) (ev_op ev_c (ev_call (ev_cons (ev_var rfl) (ev_cons (ev_call (ev_cons (ev_var rfl) (ev_cons (ev_lst (ws := [.d (.int 9), .d (.int ((10 ^ 9 : Nat) : Int)), .d (.int ((10 ^ 28 : Nat) : Int))]) (ev_cons ev_c (ev_cons (pow10 _ _ 9 (by decide)) (ev_cons (pow10 _ _ 28 (by decide)) ev_nil))) rfl (show 3 ≤ 100000 by decide)) ev_nil)) e1) ev_nil)) (pull_eq b1 rest k hk0.1 (Nat.lt_of_le_of_lt hk0.2 (by decide)))) ?_)) ?_
    · rw [oAdd_ii, ← ev, ← eb2]; rfl
    · refine es_ret (ev_op (ev_var rfl) (ev_call (ev_cons (ev_var rfl) (ev_cons (ev_lst (ws := [.d (.int ((1 : Nat) : Int)), .d (.int s)]) (ev_cons ev_c (ev_cons (ev_var rfl) ev_nil)) rfl (show 2 ≤ 100000 by decide)) ev_nil)) e2) ?_)
      rw [mul_ok (small_nat (Nat.lt_of_le_of_lt (show 1 + v ≤ 10 ^ 28 by omega) (by decide))) (small_nat (Nat.lt_of_le_of_lt hc0.2 (by decide))), Int.natCast_mul]
      rfl
  have z := fn_ret (mu := false) (np := 2) (N := 3) (ws := [.m 0, .d (.int s)]) rfl h
  show fnOf false 2 3 b__law_modulus _ _ = _
  rw [z, leave_d]
  show R.ok _ (List.take (rest.length + 1) _) = _
  rw [List.take_succ_cons, List.take_length]

theorem rng1_ev {a : Ev} {ρ : Env} {m m1 : Mem} {c : Int} (h : a ρ m = .ok (.d (.int c)) m1) (hc : c < 2 ^ 62 ∧ -(2 ^ 62) ≤ c) : iRange1 (fCons a fNil) ρ m = .ok (rngL 0 c) m1 := by
  unfold iRange1
  rw [ev_cons h ev_nil, R.bind_ok]
  dsimp only
  rw [if_pos hc]

theorem zip_rep (x : D) : ∀ (ys : List D), zipD (List.replicate ys.length [x]).flatten ys = ys.map fun y => W.d (.tup [x, y])
  | [] => rfl
  | y :: ys => by
    rw [List.length_cons, List.replicate_succ, List.flatten_cons, List.map_cons, ← zip_rep x ys]
    rfl
def clashP : W → Bool
  | .d (.tup [.tup [.int p0, .int p1], .tup [.int q0, .int q1]]) => !decide ((p0 - q0) % (Int.gcd p1 q1 : Int) = 0)
  | _ => false
def wD : W → D
  | .d x => x
  | .m _ => .non
theorem eqP_pD (n : Nat) (p : PR) : eqP (n + 2) (pD p) = true := rfl
theorem turn_eq (b : Bag) (rest : Mem) (s0 : W) (o2 o3 o4 o5 o6 o7 o8 o9 o10 o11 o12 o13 o14 o15 o16 o17 o18 : Option W) :
    ∃ (b' : Bag) (rest' : Mem) (p2 p3 p4 p5 p6 p7 p8 p9 p10 p11 p12 p13 p14 p15 p16 p17 p18 : Option W), b_turn [some s0, some (.m 0), o2, o3, o4, o5, o6, o7, o8, o9, o10, o11, o12, o13, o14, o15, o16, o17, o18] (b.mo :: rest) = .nx [some s0, some (.m 0), p2, p3, p4, p5, p6, p7, p8, p9, p10, p11, p12, p13, p14, p15, p16, p17, p18] (b'.mo :: rest') := by
  -- shared
  obtain ⟨b1, e1⟩ : ∃ b1, b1 = b.nxt 60 := ⟨_, rfl⟩
  obtain ⟨s, es⟩ : ∃ s, s = 1 + b.val 60 := ⟨_, rfl⟩
  have hs : 0 < s ∧ s ≤ 60 := by have := b.val_lt (k := 60) (by decide); omega
  -- how many
  obtain ⟨b2, e2⟩ : ∃ b2, b2 = b1.nxt 5 := ⟨_, rfl⟩
  obtain ⟨c, ec⟩ : ∃ c, c = 1 + b1.val 5 := ⟨_, rfl⟩
  have hc : 0 < c ∧ c ≤ 5 := by have := b1.val_lt (k := 5) (by decide); omega
  have hlen : (rngL 0 (c : Int)).length = c := by unfold rngL; rw [List.length_map, List.length_range]; omega
  -- moduli
  obtain ⟨b3, l, e3, l1, l2⟩ := lcs_bag (g := tgName 14) (a := fCall m__law_modulus (fCons (fVar 1) (fCons (fVar 3) fNil))) (ρ := [some s0, some (.m 0), o2, some (.d (.int s)), o4, o5, o6, o7, o8, o9, o10, o11, o12, o13, none, o15, o16, o17, o18]) (rest := rest) (fun d => ∃ n : Nat, d = .int n ∧ 0 < n ∧ n ≤ 10 ^ 31) (rngL 0 (c : Int)) b2 [] (fun w _ b => by
    obtain ⟨b', n, h1, h2, h3⟩ := modulus_eq b rest s hs.1 hs.2
    exact ⟨_, b', .int n, rfl, ev_call (ev_cons (ev_var rfl) (ev_cons (ev_var rfl) ev_nil)) h1, n, rfl, h2, h3⟩) (by rw [hlen]; show 0 + c ≤ 100000; omega)
  obtain ⟨ns, rfl, hns⟩ := nats_of l l2
  rw [List.length_map, hlen] at l1
  have hpos : ∀ n ∈ ns, 0 < n := fun n h => (hns n h).1
  have hprod : prodN ns < 10 ^ 790 := by
    have h1 := prodN_le (B := 10 ^ 31) (by decide) ns fun n h => (hns n h).2
    have h2 : (10 ^ 31) ^ ns.length ≤ (10 ^ 31) ^ 5 := Nat.pow_le_pow_right (by decide) (by omega)
    exact Nat.lt_of_le_of_lt (Nat.le_trans h1 h2) (by decide +kernel)
  -- the number
  obtain ⟨b4, e4⟩ : ∃ b4, b4 = b3.nxt (10 ^ 30) := ⟨_, rfl⟩
  obtain ⟨N, eN⟩ : ∃ N, N = b3.val (10 ^ 30) := ⟨_, rfl⟩
  obtain ⟨ps, eps⟩ : ∃ ps, ps = ns.map (remOf N) := ⟨_, rfl⟩
  have psl : ps.length = c := by rw [eps, List.length_map]; exact l1
  have em : ps.map (·.2) = ns := by
    rw [eps, List.map_map]
    exact (List.map_congr_left fun n _ => rfl).trans (List.map_id ns)
  have dv : ∀ p ∈ ps, (p.2 : Int) ∣ N - p.1 := fun p hp => by
    rw [eps] at hp
    obtain ⟨n, h1, rfl⟩ := List.mem_map.mp hp
    exact emod_dvd _ _
  have okp : ∀ p ∈ ps, PR.ok p := fun p hp => by
    rw [eps] at hp
    obtain ⟨n, h1, rfl⟩ := List.mem_map.mp hp
    exact remOf_ok N (hpos n h1)
  have lpos : 0 < lcmN ns := by
    have : ∀ (l : List Nat) (f : Nat), 0 < f → (∀ n ∈ l, 0 < n) → 0 < l.foldl Nat.lcm f := by
      intro l
      induction l with
      | nil => intro f h _; exact h
      | cons a l ih => intro f h hl; exact ih _ (Nat.lcm_pos h (hl a List.mem_cons_self)) fun n hn => hl n (List.mem_cons_of_mem _ hn)
    exact this ns 1 (by decide) hpos
  have lpos' : (0 : Int) < (lcmN ns : Int) := by omega
  -- at
  obtain ⟨b5, e5⟩ : ∃ b5, b5 = b4.nxt c := ⟨_, rfl⟩
  obtain ⟨a, ea⟩ : ∃ a, a = b4.val c := ⟨_, rfl⟩
  have ha : a < c := by rw [ea]; exact b4.val_lt hc.1
  obtain ⟨n, hn⟩ : ∃ n, ns[a]? = some n := ⟨ns[a], List.getElem?_eq_getElem (by omega)⟩
  have hnm : n ∈ ns := List.mem_of_getElem? hn
  have n0 : 0 < n := hpos n hnm
  have n0' : (0 : Int) < (n : Int) := by omega
  have hpa : ps[a]? = some (remOf N n) := by rw [eps, List.getElem?_map, hn]; rfl
  obtain ⟨p, ep⟩ : ∃ p : PR, p = (((N : Int) % n + 1) % n, n) := ⟨_, rfl⟩
  have okP : PR.ok p := by rw [ep]; exact ⟨n0, Int.emod_nonneg _ (by omega), Int.emod_lt_of_pos _ n0'⟩
  obtain ⟨qs, eqs⟩ : ∃ qs, qs = ps.set a p := ⟨_, rfl⟩
  have qsl : qs.length = c := by rw [eqs, List.length_set]; exact psl
  have hpq : qs[a]? = some p := by rw [eqs]; exact List.getElem?_set_self (by omega)
  have pmem : p ∈ qs := List.mem_of_getElem? hpq
  have qmem : ∀ q ∈ qs, q ∈ ps ∨ q = p := fun q hq => by rw [eqs] at hq; exact List.mem_or_eq_of_mem_set hq
  have emq : qs.map (·.2) = ns := by
    rw [eqs, List.map_set, em, ep]
    apply List.ext_getElem?
    intro j
    by_cases hj : a = j
    · subst hj
      rw [List.getElem?_set_self (by omega), hn]
    · rw [List.getElem?_set_ne hj]
  have okq : ∀ q ∈ qs, PR.ok q := fun q hq => (qmem q hq).elim (okp q) fun h => by rw [h]; exact okP
  have eD : (ps.map pD).set a (pD p) = qs.map pD := by rw [eqs, List.map_set]
  -- the clash
  obtain ⟨zs, ezs⟩ : ∃ zs : List W, zs = (qs.map pD).map fun y => W.d (.tup [pD p, y]) := ⟨_, rfl⟩
  obtain ⟨cl, ecl⟩ : ∃ cl : List D, cl = (zs.filter clashP).map wD := ⟨_, rfl⟩
  have clN : cl = [] ↔ ∀ q ∈ qs, Cp p q := by
    rw [ecl, List.map_eq_nil_iff, List.filter_eq_nil_iff, ezs]
    constructor
    · intro h q hq
      have h1 := h (.d (.tup [pD p, pD q])) (List.mem_map_of_mem (List.mem_map_of_mem hq))
      have h2 : clashP (.d (.tup [pD p, pD q])) = !decide ((p.1 - q.1) % (Int.gcd p.2 q.2 : Int) = 0) := rfl
      rw [h2] at h1
      simp at h1
      exact Int.dvd_of_emod_eq_zero h1
    · intro h w hw
      obtain ⟨y, hy, rfl⟩ := List.mem_map.mp hw
      obtain ⟨q, hq, rfl⟩ := List.mem_map.mp hy
      have h2 : clashP (.d (.tup [pD p, pD q])) = !decide ((p.1 - q.1) % (Int.gcd p.2 q.2 : Int) = 0) := rfl
      rw [h2]
      have h3 : (p.1 - q.1) % (Int.gcd p.2 q.2 : Int) = 0 := Int.emod_eq_zero_of_dvd (h q hq)
      rw [decide_eq_true h3]
      decide
  have clP : cl.all (eqP 10) = true := by
    rw [List.all_eq_true, ecl, ezs]
    intro x hx
    obtain ⟨w, hw, rfl⟩ := List.mem_map.mp hx
    obtain ⟨y, hy, rfl⟩ := List.mem_map.mp (List.mem_filter.mp hw).1
    obtain ⟨q, hq, rfl⟩ := List.mem_map.mp hy
    rfl
  have cross : ∀ q ∈ qs, ∀ z : Int, (∀ q ∈ qs, (q.2 : Int) ∣ z - q.1) → Cp p q := fun q hq z hz => cp_of (hz p pmem) (hz q hq)
  -- the memory
  obtain ⟨M1, eM1⟩ : ∃ M1 : Mem, M1 = b5.mo :: (rest ++ [.dead]) := ⟨_, rfl⟩
  -- what common_rounds tells
  have told := common_eq qs M1 okq (by rw [emq]; exact hprod)
  rw [emq] at told
  refine ⟨b5, rest ++ [.dead], o2, some (.d (.int s)), some (.d (.lst (ns.map fun n : Nat => D.int n))), some (.d (.int N)), some (.d (.lst (ps.map pD))), some (.d (.int (lcmN ns))), some (.d (.int a)), some (.d (.lst (qs.map pD))), some (.d (.lst cl)), ?_⟩
  have main : ∀ (t : D), m_common_rounds [.d (.lst (qs.map pD))] M1 = .ok (.d t) M1 → (∀ ρ : Env, ρ = [some s0, some (.m 0), o2, some (.d (.int s)), some (.d (.lst (ns.map fun n : Nat => D.int n))), some (.d (.int N)), some (.d (.lst (ps.map pD))), some (.d (.int (lcmN ns))), some (.d (.int a)), some (.d (.lst (qs.map pD))), some (.d (.lst cl)), some (.d t), o12, o13, o14, o15, o16, o17, o18] →
      gBool (fOp oNe (fOp oIs (fVar 11) (fC .non)) (fOp oNe (fVar 10) (fLst fNil))) ρ M1 = .ok false M1 ∧ (gAnd (gBool (fOp oIsNot (fVar 11) (fC .non))) (gOr (gBool (fOp oNe (fOp oIx (fVar 11) (fC (.int 1))) (fVar 7))) (gOr (gNot (gBool (fChain oLe oLt (fC (.int 0)) (fOp oIx (fVar 11) (fC (.int 0))) (fVar 7)))) (gBool (fOp oNe (fLc (iSeq (fVar 9)) (tgTup 2 (tgCons (tgName 18) (tgCons (tgName 15) tgNil))) gYes (fOp oMod (fCB oInt (fCons (fOp oIx (fVar 11) (fC (.int 0))) fNil)) (fVar 15)) [18, 15]) (fLc (iSeq (fVar 9)) (tgTup 2 (tgCons (tgName 18) (tgCons (tgName 15) tgNil))) gYes (fVar 18) [18, 15])))))) ρ M1 = .ok false M1) →
      b_turn [some s0, some (.m 0), o2, o3, o4, o5, o6, o7, o8, o9, o10, o11, o12, o13, o14, o15, o16, o17, o18] (b.mo :: rest) = .nx [some s0, some (.m 0), o2, some (.d (.int s)), some (.d (.lst (ns.map fun n : Nat => D.int n))), some (.d (.int N)), some (.d (.lst (ps.map pD))), some (.d (.int (lcmN ns))), some (.d (.int a)), some (.d (.lst (qs.map pD))), some (.d (.lst cl)), some (.d t), o12, o13, o14, o15, o16, o17, o18] M1 := by
    intro t ht hts
    obtain ⟨t1, t2⟩ := hts _ rfl
    unfold b_turn
    -- shared
    refine es_seq (ρ1 := [some s0, some (.m 0), o2, some (.d (.int s)), o4, o5, o6, o7, o8, o9, o10, o11, o12, o13, o14, o15, o16, o17, o18]) (m1 := b1.mo :: rest) (es_set (w := .d (.int s)) (m1 := b1.mo :: rest) (ev_op ev_c (pull_ev b rest 60 1 rfl ev_c (by decide) (by decide)) (by rw [oAdd_ii, es, e1]; rfl))) ?_
    -- moduli
    refine es_seq (ρ1 := [some s0, some (.m 0), o2, some (.d (.int s)), some (.d (.lst (ns.map fun n : Nat => D.int n))), o5, o6, o7, o8, o9, o10, o11, o12, o13, o14, o15, o16, o17, o18]) (m1 := b3.mo :: rest) (es_set (w := .d (.lst (ns.map fun n : Nat => D.int n))) (m1 := b3.mo :: rest) (lc_eq (ws := rngL 0 (c : Int)) (m1 := b2.mo :: rest) ?_ e3)) ?_
    · exact rng1_ev (ev_op ev_c (pull_ev b1 rest 5 1 rfl ev_c (by decide) (by decide)) (by rw [oAdd_ii, ec, e2]; rfl)) (by omega)
    -- the number
    refine es_seq (ρ1 := [some s0, some (.m 0), o2, some (.d (.int s)), some (.d (.lst (ns.map fun n : Nat => D.int n))), some (.d (.int N)), o6, o7, o8, o9, o10, o11, o12, o13, o14, o15, o16, o17, o18]) (m1 := b4.mo :: rest) (es_set (w := .d (.int N)) (m1 := b4.mo :: rest) (by rw [eN, e4]; exact pull_ev b3 rest (10 ^ 30) 1 rfl (pow10 _ _ 30 (by decide)) (by decide) (by decide))) ?_
    -- pairs
    have hpairs : ∀ (m : Mem) (ρ : Env), ρ = [some s0, some (.m 0), o2, some (.d (.int s)), some (.d (.lst (ns.map fun n : Nat => D.int n))), some (.d (.int N)), o6, o7, o8, o9, o10, o11, o12, o13, o14, o15, o16, o17, o18] → fLc (iSeq (fVar 4)) (tgName 15) gYes (fTup (fCons (fOp oMod (fCB oInt (fCons (fVar 5) fNil)) (fVar 15)) (fCons (fVar 15) fNil))) [15] ρ m = .ok (.d (.lst (ps.map pD))) m := by
      intro m ρ hρ
      subst hρ
      have h := lc_map (it := iSeq (fVar 4)) (g := tgName 15) (a := fTup (fCons (fOp oMod (fCB oInt (fCons (fVar 5) fNil)) (fVar 15)) (fCons (fVar 15) fNil))) (vs := [15]) (ρ := [some s0, some (.m 0), o2, some (.d (.int s)), some (.d (.lst (ns.map fun n : Nat => D.int n))), some (.d (.int N)), o6, o7, o8, o9, o10, o11, o12, o13, o14, o15, o16, o17, o18]) (m0 := m) (m := m) (ws := (ns.map fun n : Nat => D.int n).map W.d) (fun w => match w with | .d (.int k) => .tup [.int ((N : Int) % k), .int k] | _ => .non) rfl (fun w hw => by
        obtain ⟨d, hd, rfl⟩ := List.mem_map.mp hw
        obtain ⟨k, hk, rfl⟩ := List.mem_map.mp hd
        have k0 : (0 : Int) < (k : Int) := by have := hpos k hk; omega
        exact ⟨_, rfl, ev_tup (ev_cons (ev_op (ev_cb (ev_cons (ev_var rfl) ev_nil) oInt_i) (ev_var rfl) (mod_ok k0)) (ev_cons (ev_var rfl) ev_nil)) rfl (show 2 ≤ 100000 by decide)⟩) (by simp; omega)
      rw [h, eps, List.map_map, List.map_map, List.map_map]
      rfl
    refine es_seq (ρ1 := [some s0, some (.m 0), o2, some (.d (.int s)), some (.d (.lst (ns.map fun n : Nat => D.int n))), some (.d (.int N)), some (.d (.lst (ps.map pD))), o7, o8, o9, o10, o11, o12, o13, o14, o15, o16, o17, o18]) (m1 := b4.mo :: rest) (es_set (hpairs _ _ rfl)) ?_
    -- whole
    refine es_seq (ρ1 := [some s0, some (.m 0), o2, some (.d (.int s)), some (.d (.lst (ns.map fun n : Nat => D.int n))), some (.d (.int N)), some (.d (.lst (ps.map pD))), some (.d (.int (lcmN ns))), o8, o9, o10, o11, o12, o13, o14, o15, o16, o17, o18]) (m1 := b4.mo :: rest) (es_set (ev_call (ev_cons (ev_var rfl) ev_nil) (llcm_eq ns _ hpos hprod))) ?_
    refine es_seq (ρ1 := [some s0, some (.m 0), o2, some (.d (.int s)), some (.d (.lst (ns.map fun n : Nat => D.int n))), some (.d (.int N)), some (.d (.lst (ps.map pD))), some (.d (.int (lcmN ns))), o8, o9, o10, o11, o12, o13, o14, o15, o16, o17, o18]) (m1 := b4.mo :: rest) (es_ifF (et_not (x := true) (et_test (ev_call (ev_cons (ev_call (ev_cons (ev_var rfl) ev_nil) (by rw [eps]; exact known_eq ns N _ hpos hprod)) (ev_cons (ev_tup (ev_cons (ev_op (ev_cb (ev_cons (ev_var rfl) ev_nil) oInt_i) (ev_var rfl) (mod_ok lpos')) (ev_cons (ev_var rfl) ev_nil)) rfl (show 2 ≤ 100000 by decide)) ev_nil)) (same_refl 3 (pD ((N : Int) % (lcmN ns : Int), lcmN ns)) _ rfl)) rfl)) es_next) ?_
    -- at
    refine es_seq (ρ1 := [some s0, some (.m 0), o2, some (.d (.int s)), some (.d (.lst (ns.map fun n : Nat => D.int n))), some (.d (.int N)), some (.d (.lst (ps.map pD))), some (.d (.int (lcmN ns))), some (.d (.int a)), o9, o10, o11, o12, o13, o14, o15, o16, o17, o18]) (m1 := b5.mo :: rest) (es_set (w := .d (.int a)) (m1 := b5.mo :: rest) (by rw [ea, e5]; exact pull_ev b4 rest c 1 rfl (ev_cb (ev_cons (ev_var rfl) ev_nil) (by rw [oLen_l, List.length_map, psl])) hc.1 (by omega))) ?_
    -- bent
    refine es_seq (ρ1 := [some s0, some (.m 0), o2, some (.d (.int s)), some (.d (.lst (ns.map fun n : Nat => D.int n))), some (.d (.int N)), some (.d (.lst (ps.map pD))), some (.d (.int (lcmN ns))), some (.d (.int a)), some (.m (rest.length + 1)), o10, o11, o12, o13, o14, o15, o16, o17, o18]) (m1 := (b5.mo :: rest) ++ [.lst (ps.map pD)]) (es_set (ev_cb (ev_cons (ev_var rfl) ev_nil) rfl)) ?_
    have gl : ∀ x : MO, ((b5.mo :: rest) ++ [x])[rest.length + 1]? = some x := fun x => by
      rw [List.getElem?_append_right (by simp)]
      simp
    have sl : ∀ x y : MO, ((b5.mo :: rest) ++ [x]).set (rest.length + 1) y = (b5.mo :: rest) ++ [y] := fun x y => by
      rw [List.set_append_right _ _ (by simp)]
      simp
    have ix4 : ∀ (m : Mem) (ρ : Env), ρ[4]? = some (some (.d (.lst (ns.map fun n : Nat => D.int n)))) → ρ[8]? = some (some (.d (.int a))) → fOp oIx (fVar 4) (fVar 8) ρ m = .ok (.d (.int n)) m := fun m ρ h1 h2 => ev_op (ev_var h1) (ev_var h2) (ixl_ok (by rw [atI_nat, List.getElem?_map, hn]; rfl))
    refine es_seq (ρ1 := [some s0, some (.m 0), o2, some (.d (.int s)), some (.d (.lst (ns.map fun n : Nat => D.int n))), some (.d (.int N)), some (.d (.lst (ps.map pD))), some (.d (.int (lcmN ns))), some (.d (.int a)), some (.d (.lst (qs.map pD))), o10, o11, o12, o13, o14, o15, o16, o17, o18]) (m1 := M1) ?_ ?_
    · have hset := es_asg (a := fTup (fCons (fOp oMod (fCB oInt (fCons (fOp oAdd (fOp oIx (fOp oIx (fVar 6) (fVar 8)) (fC (.int 0))) (fC (.int 1))) fNil)) (fOp oIx (fVar 4) (fVar 8))) (fCons (fOp oIx (fVar 4) (fVar 8)) fNil))) (g := tgSub (fVar 9) (fVar 8)) (ρ := [some s0, some (.m 0), o2, some (.d (.int s)), some (.d (.lst (ns.map fun n : Nat => D.int n))), some (.d (.int N)), some (.d (.lst (ps.map pD))), some (.d (.int (lcmN ns))), some (.d (.int a)), some (.m (rest.length + 1)), o10, o11, o12, o13, o14, o15, o16, o17, o18]) (m := (b5.mo :: rest) ++ [.lst (ps.map pD)]) (w := .d (pD p)) (m1 := (b5.mo :: rest) ++ [.lst (ps.map pD)]) (ev_tup (ws := [.d (.int p.1), .d (.int p.2)]) (ev_cons (ev_op (ev_cb (ev_cons (ev_op (ev_op (ev_op (ev_var rfl) (ev_var rfl) (ixl_ok (x := pD (remOf N n)) (by rw [atI_nat, List.getElem?_map, hpa]; rfl))) ev_c (ixt_ok rfl)) ev_c oAdd_ii) ev_nil) oInt_i) (ix4 _ _ rfl rfl) (by rw [mod_ok n0', ep]; rfl)) (ev_cons (by rw [ep]; exact ix4 _ _ rfl rfl) ev_nil)) rfl (show 2 ≤ 100000 by decide)) (tgSub_ok (n := a) (ev_var rfl) (ev_var rfl) (gl _) (by unfold ixN; rw [List.length_map, psl, if_pos (by omega), if_pos (by omega)]; simp))
      rw [sl, eD] at hset
      have hf := es_frz (i := 9) (k := rest.length + 1) (xs := qs.map pD) hset rfl (gl _)
      rw [sl] at hf
      rw [hf, eM1]
      rfl
    -- clash
    refine es_seq (ρ1 := [some s0, some (.m 0), o2, some (.d (.int s)), some (.d (.lst (ns.map fun n : Nat => D.int n))), some (.d (.int N)), some (.d (.lst (ps.map pD))), some (.d (.int (lcmN ns))), some (.d (.int a)), some (.d (.lst (qs.map pD))), some (.d (.lst cl)), o11, o12, o13, o14, o15, o16, o17, o18]) (m1 := M1) (es_set (w := .d (.lst cl)) (m1 := M1) ?_) ?_
    · rw [ecl]
      refine lc_filter (m := M1) (ws := zs) clashP wD ?_ (fun w hw => ?_) (by rw [ezs]; simp; omega)
      · unfold iZip2
        rw [ev_cons (w := .d (.lst (List.replicate (qs.map pD).length [pD p]).flatten)) (m1 := M1) (ev_op (ev_lst (ws := [.d (pD p)]) (ev_cons (ev_op (ev_var rfl) (ev_var rfl) (ixl_ok (x := pD p) (by rw [atI_nat, List.getElem?_map, hpq]; rfl))) ev_nil) rfl (show 1 ≤ 100000 by decide)) (ev_cb (ev_cons (ev_var rfl) ev_nil) oLen_l) ?_) (ev_cons (ev_var rfl) ev_nil), R.bind_ok]
        · dsimp only
          rw [zip_rep, ezs]
        · show (if 0 ≤ ((qs.map pD).length : Int) ∧ ((qs.map pD).length : Int) ≤ 100000 ∧ 1 * ((qs.map pD).length : Int).toNat ≤ 100000 then R.ok (W.d (.lst (List.replicate ((qs.map pD).length : Int).toNat [pD p]).flatten)) M1 else R.bad) = _
          rw [List.length_map, qsl, if_pos (by omega)]
          rfl
      · rw [ezs] at hw
        obtain ⟨y, hy, rfl⟩ := List.mem_map.mp hw
        obtain ⟨q, hq, rfl⟩ := List.mem_map.mp hy
        have hg : (0 : Int) < (Int.gcd (p.2 : Int) (q.2 : Int) : Int) := by
          have := Nat.gcd_pos_of_pos_left q.2 okP.1
          rw [gcdN]
          omega
        refine ⟨_, rfl, et_bool (ev_op (ev_op (ev_op (ix0 (x := .int p.1) (y := .int p.2) rfl) (ix0 (x := .int q.1) (y := .int q.2) rfl) oSub_ii) (ev_call (ev_cons (ix1 (x := .int p.1) (y := .int p.2) rfl) (ev_cons (ix1 (x := .int q.1) (y := .int q.2) rfl) ev_nil)) (lgcd_eq _ _ _)) (mod_ok hg)) ev_c oNe_ii), fun _ => ev_tup (ev_cons (ev_var rfl) (ev_cons (ev_var rfl) ev_nil)) rfl (show 2 ≤ 100000 by decide)⟩
    -- told
    refine es_seq (ρ1 := [some s0, some (.m 0), o2, some (.d (.int s)), some (.d (.lst (ns.map fun n : Nat => D.int n))), some (.d (.int N)), some (.d (.lst (ps.map pD))), some (.d (.int (lcmN ns))), some (.d (.int a)), some (.d (.lst (qs.map pD))), some (.d (.lst cl)), some (.d t), o12, o13, o14, o15, o16, o17, o18]) (m1 := M1) (es_set (ev_call (ev_cons (ev_var rfl) ev_nil) ht)) ?_
    exact es_seq (es_ifF t1 es_next) (es_ifF t2 es_next)
  have eN' : ∀ m : Mem, fLst fNil [some s0, some (.m 0), o2, some (.d (.int s)), some (.d (.lst (ns.map fun n : Nat => D.int n))), some (.d (.int N)), some (.d (.lst (ps.map pD))), some (.d (.int (lcmN ns))), some (.d (.int a)), some (.d (.lst (qs.map pD))), some (.d (.lst cl)), o11, o12, o13, o14, o15, o16, o17, o18] m = .ok (.d (.lst [])) m := fun m => rfl
  rw [← eM1]
  rcases told with ⟨y, ty, oky, dy⟩ | ⟨ty, hno⟩
  · -- a number was told
    have hcl : cl = [] := clN.mpr fun q hq => cross q hq y dy
    refine ⟨some (.d (pD (y, lcmN ns))), o12, o13, o14, o15, o16, o17, o18, main _ ty fun ρ hρ => ?_⟩
    subst hρ
    refine ⟨et_bool (ev_op (ev_op (ev_var rfl) ev_c oIs_tn) (ev_op (ev_var rfl) (ev_lst ev_nil rfl (by decide)) (by rw [hcl]; exact oNe_P (n := 10) rfl rfl (by decide))) rfl), ?_⟩
    refine et_andT (m1 := M1) (et_bool (ev_op (ev_var rfl) ev_c rfl)) (et_orF (m1 := M1) (et_bool (ev_op (ix1 rfl) (ev_var rfl) ?_)) (et_orF (m1 := M1) (et_not (x := true) (et_bool ?_)) (et_bool ?_)))
    · rw [oNe_ii, decide_eq_true rfl]; rfl
    · unfold fChain
      rw [ev_c, R.bind_ok, ix0 (x := .int y) (y := .int (lcmN ns)) rfl, R.bind_ok, oLe_ii, decide_eq_true oky.2.1, R.bind_ok]
      dsimp only
      rw [ev_var rfl, R.bind_ok, oLt_ii, decide_eq_true oky.2.2]
    · have hl1 := lc_map (it := iSeq (fVar 9)) (g := tgTup 2 (tgCons (tgName 18) (tgCons (tgName 15) tgNil))) (a := fOp oMod (fCB oInt (fCons (fOp oIx (fVar 11) (fC (.int 0))) fNil)) (fVar 15)) (vs := [18, 15]) (ρ := [some s0, some (.m 0), o2, some (.d (.int s)), some (.d (.lst (ns.map fun n : Nat => D.int n))), some (.d (.int N)), some (.d (.lst (ps.map pD))), some (.d (.int (lcmN ns))), some (.d (.int a)), some (.d (.lst (qs.map pD))), some (.d (.lst cl)), some (.d (pD (y, lcmN ns))), o12, o13, o14, o15, o16, o17, o18]) (m0 := M1) (m := M1) (ws := (qs.map pD).map W.d) (fun w => match w with | .d (.tup [r, _]) => r | _ => .non) rfl (fun w hw => by
        obtain ⟨d, hd, rfl⟩ := List.mem_map.mp hw
        obtain ⟨q, hq, rfl⟩ := List.mem_map.mp hd
        have q0 : (0 : Int) < (q.2 : Int) := by have := (okq q hq).1; omega
        have ey : y % (q.2 : Int) = q.1 := by
          have h5 := Int.emod_eq_emod_iff_emod_sub_eq_zero.mpr (Int.emod_eq_zero_of_dvd (dy q hq))
          rw [h5, Int.emod_eq_of_lt (okq q hq).2.1 (okq q hq).2.2]
        exact ⟨_, rfl, ev_op (ev_cb (ev_cons (ix0 (x := .int y) (y := .int (lcmN ns)) rfl) ev_nil) oInt_i) (ev_var rfl) (by rw [mod_ok q0, ey]; rfl)⟩) (by simp; omega)
      have hl2 := lc_map (it := iSeq (fVar 9)) (g := tgTup 2 (tgCons (tgName 18) (tgCons (tgName 15) tgNil))) (a := fVar 18) (vs := [18, 15]) (ρ := [some s0, some (.m 0), o2, some (.d (.int s)), some (.d (.lst (ns.map fun n : Nat => D.int n))), some (.d (.int N)), some (.d (.lst (ps.map pD))), some (.d (.int (lcmN ns))), some (.d (.int a)), some (.d (.lst (qs.map pD))), some (.d (.lst cl)), some (.d (pD (y, lcmN ns))), o12, o13, o14, o15, o16, o17, o18]) (m0 := M1) (m := M1) (ws := (qs.map pD).map W.d) (fun w => match w with | .d (.tup [r, _]) => r | _ => .non) rfl (fun w hw => by
        obtain ⟨d, hd, rfl⟩ := List.mem_map.mp hw
        obtain ⟨q, hq, rfl⟩ := List.mem_map.mp hd
        exact ⟨_, rfl, ev_var rfl⟩) (by simp; omega)
      refine ev_op hl1 hl2 ?_
      have hP : eqP 10 (.lst (((qs.map pD).map W.d).map fun w => match w with | .d (.tup [r, _]) => r | _ => .non)) = true := by
        show List.all _ (eqP 9) = true
        rw [List.all_eq_true]
        intro x hx
        obtain ⟨w, hw, rfl⟩ := List.mem_map.mp hx
        obtain ⟨d, hd, rfl⟩ := List.mem_map.mp hw
        obtain ⟨q, hq, rfl⟩ := List.mem_map.mp hd
        rfl
      rw [oNe_P hP hP (by decide), eqvW_refl hP]
      rfl
  · -- none
    have hcl : cl ≠ [] := fun z => hno (pw_of qs fun q1 h1 q2 h2 => by
      have all := clN.mp z
      rcases qmem q1 h1 with h1' | rfl
      · rcases qmem q2 h2 with h2' | rfl
        · exact cp_of (dv q1 h1') (dv q2 h2')
        · exact (all q1 h1).symm
      · exact all q2 h2)
    refine ⟨some (.d .non), o12, o13, o14, o15, o16, o17, o18, main _ ty fun ρ hρ => ?_⟩
    subst hρ
    refine ⟨et_bool (ev_op (w1 := .d (.bl true)) (w2 := .d (.bl true)) (m1 := M1) (m2 := M1) (ev_op (ev_var rfl) ev_c oIs_nn) (ev_op (w1 := .d (.lst cl)) (ev_var rfl) (ev_lst ev_nil rfl (by decide)) ?_) rfl), et_andF (et_bool (ev_op (ev_var rfl) ev_c rfl))⟩
    rw [oNe_P (n := 11) (x := .lst cl) (y := .lst []) clP rfl (by decide)]
    cases ecl2 : cl with
    | nil => exact absurd ecl2 hcl
    | cons x xs => rw [eqvW_lcn]; rfl

theorem law_loop : ∀ (ws : List W) (b : Bag) (rest : Mem) (s0 : W) (o2 o3 o4 o5 o6 o7 o8 o9 o10 o11 o12 o13 o14 o15 o16 o17 o18 : Option W), ∃ (b' : Bag) (rest' : Mem) (p2 p3 p4 p5 p6 p7 p8 p9 p10 p11 p12 p13 p14 p15 p16 p17 p18 : Option W),
    loop (tgName 2) b_turn ws [some s0, some (.m 0), o2, o3, o4, o5, o6, o7, o8, o9, o10, o11, o12, o13, o14, o15, o16, o17, o18] (b.mo :: rest) = .nx [some s0, some (.m 0), p2, p3, p4, p5, p6, p7, p8, p9, p10, p11, p12, p13, p14, p15, p16, p17, p18] (b'.mo :: rest')
  | [], b, rest, s0, o2, o3, o4, o5, o6, o7, o8, o9, o10, o11, o12, o13, o14, o15, o16, o17, o18 => ⟨b, rest, o2, o3, o4, o5, o6, o7, o8, o9, o10, o11, o12, o13, o14, o15, o16, o17, o18, rfl⟩
  | w :: ws, b, rest, s0, o2, o3, o4, o5, o6, o7, o8, o9, o10, o11, o12, o13, o14, o15, o16, o17, o18 => by
    obtain ⟨b', rest', p2, p3, p4, p5, p6, p7, p8, p9, p10, p11, p12, p13, p14, p15, p16, p17, p18, e⟩ := turn_eq b rest s0 (some w) o3 o4 o5 o6 o7 o8 o9 o10 o11 o12 o13 o14 o15 o16 o17 o18
    obtain ⟨b2, rest2, q2, q3, q4, q5, q6, q7, q8, q9, q10, q11, q12, q13, q14, q15, q16, q17, q18, e2⟩ := law_loop ws b' rest' s0 p2 p3 p4 p5 p6 p7 p8 p9 p10 p11 p12 p13 p14 p15 p16 p17 p18
    exact ⟨b2, rest2, q2, q3, q4, q5, q6, q7, q8, q9, q10, q11, q12, q13, q14, q15, q16, q17, q18, loop_cons (m1 := b.mo :: rest) rfl e e2⟩
theorem powN {a : Ev} {ρ : Env} {m : Mem} {x : Nat} (k : Nat) (ha : a ρ m = .ok (.d (.int x)) m) (hx : x < 10 ^ 800) (hk : k ≤ 1000) : fOp oPow a (fC (.int k)) ρ m = .ok (.d (.int ((x ^ k : Nat) : Int))) m := by
  have e : ((x ^ k : Nat) : Int) = (x : Int) ^ ((k : Int)).toNat := by rw [Int.natCast_pow]; rfl
  rw [e]
  exact ev_op ha ev_c (powW_ok (by omega) (by omega) (small8 (by rw [Int.natAbs_natCast]; exact hx)))
theorem main_law : ∀ ns : List Int, ns.length ≤ 63 → ∃ m, m_law [.d (.fls (ns.map .int))] [] = .ok (.d (.bl true)) m := by
  intro ns _
  obtain ⟨b, rest, p2, p3, p4, p5, p6, p7, p8, p9, p10, p11, p12, p13, p14, p15, p16, p17, p18, e⟩ := law_loop [.d (.int 0), .d (.int 1), .d (.int 2), .d (.int 3)] (Bag.new ns) [] (.d (.fls (ns.map .int))) none none none none none none none none none none none none none none none none none
  have hr : rngL 0 4 = [.d (.int 0), .d (.int 1), .d (.int 2), .d (.int 3)] := rfl
  obtain ⟨b1, e1⟩ : ∃ b1, b1 = b.nxt (10 ^ 9) := ⟨_, rfl⟩
  obtain ⟨x, ex⟩ : ∃ x, x = (10 ^ 60) ^ 6 * 10 ^ 29 + b.val (10 ^ 9) := ⟨_, rfl⟩
  obtain ⟨b2, e2⟩ : ∃ b2, b2 = b1.nxt (10 ^ 9) := ⟨_, rfl⟩
  obtain ⟨y, ey⟩ : ∃ y, y = (7 ^ 55) ^ 8 + b1.val (10 ^ 9) := ⟨_, rfl⟩
  obtain ⟨b3, e3⟩ : ∃ b3, b3 = b2.nxt (10 ^ 30) := ⟨_, rfl⟩
  obtain ⟨N, eN⟩ : ∃ N, N = (3 ^ 50) ^ 16 + b2.val (10 ^ 30) := ⟨_, rfl⟩
  have v1 := b.val_lt (k := 10 ^ 9) (by decide)
  have v2 := b1.val_lt (k := 10 ^ 9) (by decide)
  have x0 : 0 < x ∧ x ≤ 10 ^ 390 := by
    refine ⟨by rw [ex]; exact Nat.lt_of_lt_of_le (by decide +kernel) (Nat.le_add_right ((10 ^ 60) ^ 6 * 10 ^ 29) _), ?_⟩
    rw [ex]
    exact Nat.le_trans (Nat.add_le_add_left (Nat.le_of_lt v1) _) (by decide +kernel)
  have y0 : 0 < y ∧ y ≤ 10 ^ 390 := by
    refine ⟨by rw [ey]; exact Nat.lt_of_lt_of_le (by decide +kernel) (Nat.le_add_right ((7 ^ 55) ^ 8) _), ?_⟩
    rw [ey]
    exact Nat.le_trans (Nat.add_le_add_left (Nat.le_of_lt v2) _) (by decide +kernel)
  have hpos : ∀ n ∈ [x, y], 0 < n := fun n h => by
    rcases List.mem_cons.mp h with rfl | h
    · exact x0.1
    · rcases List.mem_cons.mp h with rfl | h
      · exact y0.1
      · cases h
  have hprod : prodN [x, y] < 10 ^ 790 := by
    have h1 : x * (y * 1) ≤ 10 ^ 390 * 10 ^ 390 := Nat.mul_le_mul x0.2 (by rw [Nat.mul_one]; exact y0.2)
    exact Nat.lt_of_le_of_lt h1 (by decide +kernel)
  have lpos : 0 < lcmN [x, y] := Nat.lcm_pos (Nat.lcm_pos (by decide) x0.1) y0.1
  have lpos' : (0 : Int) < (lcmN [x, y] : Int) := by omega
  obtain ⟨M, eM⟩ : ∃ M : Mem, M = b3.mo :: rest := ⟨_, rfl⟩
  have h : b_law [some (.d (.fls (ns.map .int))), none, none, none, none, none, none, none, none, none, none, none, none, none, none, none, none, none, none] [] = .rt (.d (.bl true)) M := by
    unfold b_law
    refine es_seq (es_set (ev_call (ev_cons (ev_var rfl) ev_nil) (bag_eq ns))) (es_seq (es_for (ws := rngL 0 4) (m1 := [(Bag.new ns).mo]) rfl (by rw [hr]; exact e)) ?_)
    refine es_seq (ρ1 := [some (.d (.fls (ns.map .int))), some (.m 0), p2, p3, p4, p5, p6, p7, p8, p9, p10, p11, some (.d (.lst [.int x, .int y])), p13, p14, p15, p16, p17, p18]) (m1 := b2.mo :: rest) (es_set (w := .d (.lst [.int x, .int y])) (m1 := b2.mo :: rest) (ev_lst (ws := [.d (.int x), .d (.int y)]) (ev_cons (m1 := b1.mo :: rest) (ev_op (w1 := .d (.int (((10 ^ 60) ^ 6 * 10 ^ 29 : Nat) : Int))) (m1 := b.mo :: rest) (ev_op (powN 6 (pow10 _ _ 60 (by decide)) (by decide +kernel) (by decide)) (pow10 _ _ 29 (by decide)) ?_) (pull_ev b rest (10 ^ 9) 1 rfl (pow10 _ _ 9 (by decide)) (by decide) (by decide)) ?_) (ev_cons (m1 := b2.mo :: rest) (ev_op (powN 8 (powN (x := 7) 55 ev_c (by decide +kernel) (by decide)) (by decide +kernel) (by decide)) (pull_ev b1 rest (10 ^ 9) 1 rfl (pow10 _ _ 9 (by decide)) (by decide) (by decide)) ?_) ev_nil)) rfl (show 2 ≤ 100000 by decide))) ?_
    · rw [mul_ok (small8 (by rw [Int.natAbs_natCast]; decide +kernel)) (small8 (by rw [Int.natAbs_natCast]; decide +kernel)), Int.natCast_mul]
    · rw [oAdd_ii, ← Int.natCast_add, ex, e1]
    · rw [oAdd_ii, ← Int.natCast_add, ey, e2]
    refine es_seq (ρ1 := [some (.d (.fls (ns.map .int))), some (.m 0), p2, p3, p4, some (.d (.int N)), p6, p7, p8, p9, p10, p11, some (.d (.lst [.int x, .int y])), p13, p14, p15, p16, p17, p18]) (m1 := M) (es_set (w := .d (.int N)) (m1 := M) (ev_op (powN 16 (powN (x := 3) 50 ev_c (by decide +kernel) (by decide)) (by decide +kernel) (by decide)) (pull_ev b2 rest (10 ^ 30) 1 rfl (pow10 _ _ 30 (by decide)) (by decide) (by decide)) ?_)) ?_
    · rw [oAdd_ii, ← Int.natCast_add, eN, eM, e3]
    have hpairs : fLc (iSeq (fVar 12)) (tgName 15) gYes (fTup (fCons (fOp oMod (fCB oInt (fCons (fVar 5) fNil)) (fVar 15)) (fCons (fVar 15) fNil))) [15] [some (.d (.fls (ns.map .int))), some (.m 0), p2, p3, p4, some (.d (.int N)), p6, p7, p8, p9, p10, p11, some (.d (.lst [.int x, .int y])), p13, p14, p15, p16, p17, p18] M = .ok (.d (.lst (([x, y].map (remOf N)).map pD))) M := by
      have h := lc_map (it := iSeq (fVar 12)) (g := tgName 15) (a := fTup (fCons (fOp oMod (fCB oInt (fCons (fVar 5) fNil)) (fVar 15)) (fCons (fVar 15) fNil))) (vs := [15]) (ρ := [some (.d (.fls (ns.map .int))), some (.m 0), p2, p3, p4, some (.d (.int N)), p6, p7, p8, p9, p10, p11, some (.d (.lst [.int x, .int y])), p13, p14, p15, p16, p17, p18]) (m0 := M) (m := M) (ws := ([x, y].map fun n : Nat => D.int n).map W.d) (fun w => match w with | .d (.int k) => .tup [.int ((N : Int) % k), .int k] | _ => .non) rfl (fun w hw => by
        obtain ⟨d, hd, rfl⟩ := List.mem_map.mp hw
        obtain ⟨k, hk, rfl⟩ := List.mem_map.mp hd
        have k0 : (0 : Int) < (k : Int) := by have := hpos k hk; omega
        exact ⟨_, rfl, ev_tup (ev_cons (ev_op (ev_cb (ev_cons (ev_var rfl) ev_nil) oInt_i) (ev_var rfl) (mod_ok k0)) (ev_cons (ev_var rfl) ev_nil)) rfl (show 2 ≤ 100000 by decide)⟩) (by simp)
      rw [h]
      rfl
    refine es_seq (es_set (ev_call (ev_cons hpairs ev_nil) (known_eq [x, y] N M hpos hprod))) ?_
    refine es_seq (es_set (ev_call (ev_cons (ev_var rfl) ev_nil) (llcm_eq [x, y] M hpos hprod))) ?_
    exact es_ret (ev_call (ev_cons (ev_var rfl) (ev_cons (ev_tup (ev_cons (ev_op (ev_cb (ev_cons (ev_var rfl) ev_nil) oInt_i) (ev_var rfl) (mod_ok lpos')) (ev_cons (ev_var rfl) ev_nil)) rfl (show 2 ≤ 100000 by decide)) ev_nil)) (same_refl 3 (pD ((N : Int) % (lcmN [x, y] : Int), lcmN [x, y])) _ rfl))
  have z := fn_ret (mu := false) (np := 1) (N := 19) (ws := [.d (.fls (ns.map .int))]) rfl h
  exact ⟨_, z⟩

end GD

namespace GD
open PySem PySem.Spec PyProof.Rows L2
def top (i : Nat) : Stmt := PySem.Challenge.pw_pileports_k34_great_common_remainders.main.body.getD i (.Pass ⟨0, 0, 0, 0⟩)
abbrev s_greatest_divisor : Stmt := top 4
abbrev N_greatest_divisor : List Str := ["one", "other"]
theorem sc_greatest_divisor : FnScope N_greatest_divisor ["one", "other"] (defScope s_greatest_divisor) := ⟨rfl, rfl, rfl, by decide +kernel, rfl, by decide +kernel, by decide +kernel⟩
abbrev s_reciprocal : Stmt := top 5
abbrev N_reciprocal : List Str := ["number", "modulus", "here", "there", "quotient"]
theorem sc_reciprocal : FnScope N_reciprocal ["number", "modulus"] (defScope s_reciprocal) := ⟨rfl, rfl, rfl, by decide +kernel, rfl, by decide +kernel, by decide +kernel⟩
abbrev s_agree : Stmt := top 6
abbrev N_agree : List Str := ["one", "other"]
theorem sc_agree : FnScope N_agree ["one", "other"] (defScope s_agree) := ⟨rfl, rfl, rfl, by decide +kernel, rfl, by decide +kernel, by decide +kernel⟩
abbrev s_joined : Stmt := top 7
abbrev N_joined : List Str := ["one", "other", "shared", "rest", "factor"]
theorem sc_joined : FnScope N_joined ["one", "other"] (defScope s_joined) := ⟨rfl, rfl, rfl, by decide +kernel, rfl, by decide +kernel, by decide +kernel⟩
abbrev s_common_rounds : Stmt := top 8
abbrev N_common_rounds : List Str := ["remainders", "at", "rest", "modulus", "found", "pair"]
theorem sc_common_rounds : FnScope N_common_rounds ["remainders"] (defScope s_common_rounds) := ⟨rfl, rfl, rfl, by decide +kernel, rfl, by decide +kernel, by decide +kernel⟩
abbrev s__law_bag : Stmt := top 10
abbrev N__law_bag : List Str := ["_law_script", "_law_salt", "_law_cell"]
theorem sc__law_bag : FnScope N__law_bag ["_law_script"] (defScope s__law_bag) := ⟨rfl, rfl, rfl, by decide +kernel, rfl, by decide +kernel, by decide +kernel⟩
abbrev s__law_pull : Stmt := top 11
abbrev N__law_pull : List Str := ["_law_bag_here", "_law_amount", "_law_cell", "_law_got", "_law_seed"]
theorem sc__law_pull : FnScope N__law_pull ["_law_bag_here", "_law_amount"] (defScope s__law_pull) := ⟨rfl, rfl, rfl, by decide +kernel, rfl, by decide +kernel, by decide +kernel⟩
abbrev s__law_of : Stmt := top 12
abbrev N__law_of : List Str := ["_law_bag_here", "_law_things"]
theorem sc__law_of : FnScope N__law_of ["_law_bag_here", "_law_things"] (defScope s__law_of) := ⟨rfl, rfl, rfl, by decide +kernel, rfl, by decide +kernel, by decide +kernel⟩
abbrev s__law_same : Stmt := top 13
abbrev N__law_same : List Str := ["_law_found", "_law_due", "_law_one", "_law_other", "_law_key"]
theorem sc__law_same : FnScope N__law_same ["_law_found", "_law_due"] (defScope s__law_same) := ⟨rfl, rfl, rfl, by decide +kernel, rfl, by decide +kernel, by decide +kernel⟩
abbrev s__law_gcd : Stmt := top 14
abbrev N__law_gcd : List Str := ["_law_one", "_law_other"]
theorem sc__law_gcd : FnScope N__law_gcd ["_law_one", "_law_other"] (defScope s__law_gcd) := ⟨rfl, rfl, rfl, by decide +kernel, rfl, by decide +kernel, by decide +kernel⟩
abbrev s__law_lcm : Stmt := top 15
abbrev N__law_lcm : List Str := ["_law_numbers", "_law_found", "_law_number"]
theorem sc__law_lcm : FnScope N__law_lcm ["_law_numbers"] (defScope s__law_lcm) := ⟨rfl, rfl, rfl, by decide +kernel, rfl, by decide +kernel, by decide +kernel⟩
abbrev s__law_modulus : Stmt := top 16
abbrev N__law_modulus : List Str := ["_law_bag_here", "_law_shared", "_law_number"]
theorem sc__law_modulus : FnScope N__law_modulus ["_law_bag_here", "_law_shared"] (defScope s__law_modulus) := ⟨rfl, rfl, rfl, by decide +kernel, rfl, by decide +kernel, by decide +kernel⟩
abbrev s_law : Stmt := top 17
abbrev N_law : List Str := ["_law_script", "_law_bag_here", "_law_turn", "_law_shared", "_law_moduli", "_law_number", "_law_pairs", "_law_whole", "_law_at", "_law_bent", "_law_clash", "_law_told", "_law_great", "_law_found", "_law_k", "_law_m", "_law_one", "_law_other", "_law_r"]
theorem sc_law : FnScope N_law ["_law_script"] (defScope s_law) := ⟨rfl, rfl, rfl, by decide +kernel, rfl, by decide +kernel, by decide +kernel⟩
structure Txt (K : PySem.W.Frag) (mg : Str → Option Value) : Prop where
  b_abs : mg "abs" = none
  b_all : mg "all" = none
  b_bool : mg "bool" = none
  b_dict : mg "dict" = none
  b_enumerate : mg "enumerate" = none
  b_int : mg "int" = none
  b_isinstance : mg "isinstance" = none
  b_len : mg "len" = none
  b_list : mg "list" = none
  b_range : mg "range" = none
  b_str : mg "str" = none
  b_tuple : mg "tuple" = none
  b_zip : mg "zip" = none
  d_greatest_divisor : TopDef K mg "greatest_divisor" s_greatest_divisor
  d_reciprocal : TopDef K mg "reciprocal" s_reciprocal
  d_agree : TopDef K mg "agree" s_agree
  d_joined : TopDef K mg "joined" s_joined
  d_common_rounds : TopDef K mg "common_rounds" s_common_rounds
  d__law_bag : TopDef K mg "_law_bag" s__law_bag
  d__law_pull : TopDef K mg "_law_pull" s__law_pull
  d__law_of : TopDef K mg "_law_of" s__law_of
  d__law_same : TopDef K mg "_law_same" s__law_same
  d__law_gcd : TopDef K mg "_law_gcd" s__law_gcd
  d__law_lcm : TopDef K mg "_law_lcm" s__law_lcm
  d__law_modulus : TopDef K mg "_law_modulus" s__law_modulus
  d_law : TopDef K mg "law" s_law
section
variable {P : Program} {w : World} {K : PySem.W.Frag} {mg : Str → Option Value} {base : Heap}
theorem bd_greatest_divisor (T : Txt K mg) (f : Addr) (cdv : Value) (A : Around) (outer : List PySem.Env) (s : Shared) (H : Hp) (E : XK) (c : Cc (cxOf (L2.CX P w) P w K mg base N_greatest_divisor "greatest_divisor" (defScope s_greatest_divisor) f cdv A outer s H E) (fun c d _ H' => E c d H') 0) :
    PSs (cxOf (L2.CX P w) P w K mg base N_greatest_divisor "greatest_divisor" (defScope s_greatest_divisor) f cdv A outer s H E) (defBody s_greatest_divisor) (tDS K mg (fun c d _ H' => E c d H') b_greatest_divisor) :=
    (pssd_cons (psd_par (i := 0) (j := 1) (fun _ ha => ps_par c.calm c.nd rfl rfl (by decide) rfl rfl ha (by rfl)) (pad_cons (pd_callB call_abs s_abs (by rfl) T.b_abs (by decide +kernel) (pad_cons (pd_var (pv 0)) pad_nil)) (pad_cons (pd_callB call_abs s_abs (by rfl) T.b_abs (by decide +kernel) (pad_cons (pd_var (pv 1)) pad_nil)) pad_nil)))
    (pssd_cons (psd_while (fuel := fuelI 1 1) c.hp (ptd_cmp (op_neU c.room) s_ne (pd_var (pv 1)) pd_int (nomark _))
    (pssd_one (psd_par (i := 0) (j := 1) (fun _ ha => ps_par c.calm c.nd rfl rfl (by decide) rfl rfl ha (by rfl)) (pad_cons (pd_var (pv 1)) (pad_cons (pd_op op_mod s_mod (pd_var (pv 0)) (pd_var (pv 1))) pad_nil)))))
    (pssd_one (psd_ret (pd_var (pv 0))))))
theorem ok_greatest_divisor (T : Txt K mg) : DefOk P w K mg base "greatest_divisor" 1 m_greatest_divisor := def_ok false T.d_greatest_divisor sc_greatest_divisor rfl rfl (fun _ _ _ _ _ _ us hl => match us, hl with | [_, _], _ => rfl) (bd_greatest_divisor T)
theorem bd_reciprocal (T : Txt K mg) (f : Addr) (cdv : Value) (A : Around) (outer : List PySem.Env) (s : Shared) (H : Hp) (E : XK) (c : Cc (cxOf (L2.CX P w) P w K mg base N_reciprocal "reciprocal" (defScope s_reciprocal) f cdv A outer s H E) (fun c d _ H' => E c d H') 0) :
    PSs (cxOf (L2.CX P w) P w K mg base N_reciprocal "reciprocal" (defScope s_reciprocal) f cdv A outer s H E) (defBody s_reciprocal) (tDS K mg (fun c d _ H' => E c d H') b_reciprocal) :=
    (pssd_cons (psd_par (i := 2) (j := 3) (fun _ ha => ps_par c.calm c.nd rfl rfl (by decide) rfl rfl ha (by rfl)) (pad_cons (pd_tup (pad_cons (pd_op op_mod s_mod (pd_var (pv 0)) (pd_var (pv 1))) (pad_cons pd_int pad_nil))) (pad_cons (pd_tup (pad_cons (pd_var (pv 1)) (pad_cons pd_int pad_nil))) pad_nil)))
    (pssd_cons (psd_while (fuel := fuelI 1 1) c.hp (ptd_cmp (op_neU c.room) s_ne (pd_ix (pd_var (pv 3)) pd_int (fun _ _ => rfl)) pd_int (nomark _))
    (pssd_cons (psd_set (i := 4) c.nd rfl (Or.inl rfl) (pd_op op_fdivW s_div (pd_ix (pd_var (pv 2)) pd_int (fun _ _ => rfl)) (pd_ix (pd_var (pv 3)) pd_int (fun _ _ => rfl))))
    (pssd_one (psd_par (i := 2) (j := 3) (fun _ ha => ps_par c.calm c.nd rfl rfl (by decide) rfl rfl ha (by rfl)) (pad_cons (pd_var (pv 3)) (pad_cons (pd_tup (pad_cons (pd_op op_sub s_sub (pd_ix (pd_var (pv 2)) pd_int (fun _ _ => rfl)) (pd_op op_mulU s_mul (pd_var (pv 4)) (pd_ix (pd_var (pv 3)) pd_int (fun _ _ => rfl)))) (pad_cons (pd_op op_sub s_sub (pd_ix (pd_var (pv 2)) pd_int (fun _ _ => rfl)) (pd_op op_mulU s_mul (pd_var (pv 4)) (pd_ix (pd_var (pv 3)) pd_int (fun _ _ => rfl)))) pad_nil))) pad_nil))))))
    (pssd_one (psd_ret (pd_op op_mod s_mod (pd_ix (pd_var (pv 2)) pd_int (fun _ _ => rfl)) (pd_var (pv 1)))))))
theorem ok_reciprocal (T : Txt K mg) : DefOk P w K mg base "reciprocal" 1 m_reciprocal := def_ok false T.d_reciprocal sc_reciprocal rfl rfl (fun _ _ _ _ _ _ us hl => match us, hl with | [_, _], _ => rfl) (bd_reciprocal T)
theorem bd_agree (T : Txt K mg) (f : Addr) (cdv : Value) (A : Around) (outer : List PySem.Env) (s : Shared) (H : Hp) (E : XK) (c : Cc (cxOf (L2.CX P w) P w K mg base N_agree "agree" (defScope s_agree) f cdv A outer s H E) (fun c d _ H' => E c d H') 1) :
    PSs (cxOf (L2.CX P w) P w K mg base N_agree "agree" (defScope s_agree) f cdv A outer s H E) (defBody s_agree) (tDS K mg (fun c d _ H' => E c d H') b_agree) :=
    (pssd_one (psd_ret (pd_cmp (op_eqU c.room) s_eq (pd_op op_mod s_mod (pd_op op_sub s_sub (pd_ix (pd_var (pv 0)) pd_int (fun _ _ => rfl)) (pd_ix (pd_var (pv 1)) pd_int (fun _ _ => rfl))) (pd_call c (ok_greatest_divisor T) (by decide) (by rfl) (pad_cons (pd_ix (pd_var (pv 0)) pd_int (fun _ _ => rfl)) (pad_cons (pd_ix (pd_var (pv 1)) pd_int (fun _ _ => rfl)) pad_nil)))) pd_int (nomark _))))
theorem ok_agree (T : Txt K mg) : DefOk P w K mg base "agree" 2 m_agree := def_ok false T.d_agree sc_agree rfl rfl (fun _ _ _ _ _ _ us hl => match us, hl with | [_, _], _ => rfl) (bd_agree T)
theorem bd_joined (T : Txt K mg) (f : Addr) (cdv : Value) (A : Around) (outer : List PySem.Env) (s : Shared) (H : Hp) (E : XK) (c : Cc (cxOf (L2.CX P w) P w K mg base N_joined "joined" (defScope s_joined) f cdv A outer s H E) (fun c d _ H' => E c d H') 1) :
    PSs (cxOf (L2.CX P w) P w K mg base N_joined "joined" (defScope s_joined) f cdv A outer s H E) (defBody s_joined) (tDS K mg (fun c d _ H' => E c d H') b_joined) :=
    (pssd_cons (psd_set (i := 2) c.nd rfl (Or.inl rfl) (pd_call c (ok_greatest_divisor T) (by decide) (by rfl) (pad_cons (pd_ix (pd_var (pv 0)) pd_int (fun _ _ => rfl)) (pad_cons (pd_ix (pd_var (pv 1)) pd_int (fun _ _ => rfl)) pad_nil))))
    (pssd_cons (psd_set (i := 3) c.nd rfl (Or.inl rfl) (pd_op op_fdivW s_div (pd_ix (pd_var (pv 1)) pd_int (fun _ _ => rfl)) (pd_var (pv 2))))
    (pssd_cons (psd_set (i := 4) c.nd rfl (Or.inl rfl) (pd_op op_mod s_mod (pd_op op_mulU s_mul (pd_op op_fdivW s_div (pd_op op_sub s_sub (pd_ix (pd_var (pv 1)) pd_int (fun _ _ => rfl)) (pd_ix (pd_var (pv 0)) pd_int (fun _ _ => rfl))) (pd_var (pv 2))) (pd_call c (ok_reciprocal T) (by decide) (by rfl) (pad_cons (pd_op op_fdivW s_div (pd_ix (pd_var (pv 0)) pd_int (fun _ _ => rfl)) (pd_var (pv 2))) (pad_cons (pd_var (pv 3)) pad_nil)))) (pd_var (pv 3))))
    (pssd_one (psd_ret (pd_tup (pad_cons (pd_op op_addU s_add (pd_ix (pd_var (pv 0)) pd_int (fun _ _ => rfl)) (pd_op op_mulU s_mul (pd_ix (pd_var (pv 0)) pd_int (fun _ _ => rfl)) (pd_var (pv 4)))) (pad_cons (pd_op op_mulU s_mul (pd_ix (pd_var (pv 0)) pd_int (fun _ _ => rfl)) (pd_var (pv 3))) pad_nil))))))))
theorem ok_joined (T : Txt K mg) : DefOk P w K mg base "joined" 2 m_joined := def_ok false T.d_joined sc_joined rfl rfl (fun _ _ _ _ _ _ us hl => match us, hl with | [_, _], _ => rfl) (bd_joined T)
theorem bd_common_rounds (T : Txt K mg) (f : Addr) (cdv : Value) (A : Around) (outer : List PySem.Env) (s : Shared) (H : Hp) (E : XK) (c : Cc (cxOf (L2.CX P w) P w K mg base N_common_rounds "common_rounds" (defScope s_common_rounds) f cdv A outer s H E) (fun c d _ H' => E c d H') 2) :
    PSs (cxOf (L2.CX P w) P w K mg base N_common_rounds "common_rounds" (defScope s_common_rounds) f cdv A outer s H E) (defBody s_common_rounds) (tDS K mg (fun c d _ H' => E c d H') b_common_rounds) :=
    (pssd_cons (psd_for c.hp c.calm (pid_enum (by rfl) T.b_enumerate (pad_cons (pd_var (pv 0)) pad_nil)) (pgd_un c.calm (pgsd_cons (pgd_name (pg_name (i := 1) c.nd rfl (Or.inl rfl))) (pgsd_cons (pgd_un c.calm (pgsd_cons (pgd_name (pg_name (i := 2) c.nd rfl (Or.inl rfl))) (pgsd_cons (pgd_name (pg_name (i := 3) c.nd rfl (Or.inl rfl))) pgsd_nil))) pgsd_nil)))
    (pssd_one (psd_if (PW.pt (pwd_or (ptd_cmp op_lt s_lt (pd_var (pv 3)) pd_int (nomark _)) (pwd_or1 (ptd_not (ptd_chain op_le s_le op_lt s_lt pd_int (pd_var (pv 2)) (pd_var (pv 3)))))))
    (pssd_one psd_bad)
    pssd_nil)))
    (pssd_cons (psd_set (i := 4) c.nd rfl (Or.inl rfl) (pd_tup (pad_cons pd_int (pad_cons pd_int pad_nil))))
    (pssd_cons (psd_for c.hp c.calm (pid_seq (pd_var (pv 0))) (pgd_name (pg_name (i := 5) c.nd rfl (Or.inl rfl)))
    (pssd_cons (psd_if (ptd_not (ptd_truth (pd_call c (ok_agree T) (by decide) (by rfl) (pad_cons (pd_var (pv 4)) (pad_cons (pd_var (pv 5)) pad_nil)))))
    (pssd_one (psd_ret pd_non))
    pssd_nil)
    (pssd_one (psd_set (i := 4) c.nd rfl (Or.inl rfl) (pd_call c (ok_joined T) (by decide) (by rfl) (pad_cons (pd_var (pv 4)) (pad_cons (pd_tup (pad_cons (pd_ix (pd_var (pv 5)) pd_int (fun _ _ => rfl)) (pad_cons (pd_ix (pd_var (pv 5)) pd_int (fun _ _ => rfl)) pad_nil))) pad_nil)))))))
    (pssd_one (psd_ret (pd_var (pv 4)))))))
theorem ok_common_rounds (T : Txt K mg) : DefOk P w K mg base "common_rounds" 3 m_common_rounds := def_ok false T.d_common_rounds sc_common_rounds rfl rfl (fun _ _ _ _ _ _ us hl => match us, hl with | [_], _ => rfl) (bd_common_rounds T)
theorem bd__law_bag (T : Txt K mg) (f : Addr) (cdv : Value) (A : Around) (outer : List PySem.Env) (s : Shared) (H : Hp) (E : XK) (c : Cc (cxOf (L2.CX P w) P w K mg base N__law_bag "_law_bag" (defScope s__law_bag) f cdv A outer s H E) (fun c d _ H' => E c d H') 0) :
    PSs (cxOf (L2.CX P w) P w K mg base N__law_bag "_law_bag" (defScope s__law_bag) f cdv A outer s H E) (defBody s__law_bag) (tDS K mg (fun c d _ H' => E c d H') b__law_bag) :=
    (pssd_cons (psd_set (i := 1) c.nd rfl (Or.inl rfl) pd_int)
    (pssd_cons (psd_for c.hp c.calm (pid_seq (pd_slice (mu := false) (pd_var (pv 0)) pod_none (pod_some pd_int))) (pgd_name (pg_name (i := 2) c.nd rfl (Or.inl rfl)))
    (pssd_one (psd_set (i := 1) c.nd rfl (Or.inl rfl) (pd_op op_mod s_mod (pd_callTy call_int1 s_int (by rfl) T.b_int (by decide +kernel) (pad_cons (pd_op op_addU s_add (pd_op op_addU s_add (pd_op op_mulU s_mul (pd_var (pv 1)) pd_int) (pd_op op_mod s_mod (pd_callTy call_int1 s_int (by rfl) T.b_int (by decide +kernel) (pad_cons (pd_var (pv 2)) pad_nil)) pd_int)) pd_int) pad_nil)) pd_int))))
    (pssd_one (psd_ret (pd_lstM (pad_cons (pd_callTy call_list_of (s_list false) (by rfl) T.b_list (by decide +kernel) (pad_cons (pd_slice (mu := false) (pd_var (pv 0)) pod_none (pod_some pd_int)) pad_nil)) (pad_cons pd_int (pad_cons pd_int (pad_cons (pd_var (pv 1)) pad_nil)))))))))
theorem ok__law_bag (T : Txt K mg) : DefOk P w K mg base "_law_bag" 1 m__law_bag := def_ok true T.d__law_bag sc__law_bag rfl rfl (fun _ _ _ _ _ _ us hl => match us, hl with | [_], _ => rfl) (bd__law_bag T)
theorem bd__law_pull (T : Txt K mg) (f : Addr) (cdv : Value) (A : Around) (outer : List PySem.Env) (s : Shared) (H : Hp) (E : XK) (c : Cc (cxOf (L2.CX P w) P w K mg base N__law_pull "_law_pull" (defScope s__law_pull) f cdv A outer s H E) (fun c d _ H' => E c d H') 0) :
    PSs (cxOf (L2.CX P w) P w K mg base N__law_pull "_law_pull" (defScope s__law_pull) f cdv A outer s H E) (defBody s__law_pull) (tDS K mg (fun c d _ H' => E c d H') b__law_pull) :=
    (pssd_cons (psd_if (PW.pt (pwd_and (ptd_cmp (op_eqU c.room) s_eq (pd_ix (pd_var (pv 0)) pd_int (fun _ _ => rfl)) pd_int (nomark _)) (pwd_and1 (ptd_cmp op_lt s_lt (pd_ix (pd_var (pv 0)) pd_int (fun _ _ => rfl)) (pd_callB call_len s_len (by rfl) T.b_len (by decide +kernel) (pad_cons (pd_ix (pd_var (pv 0)) pd_int (fun _ _ => rfl)) pad_nil)) (nomark _)))))
    (pssd_cons (psd_set (i := 2) c.nd rfl (Or.inl rfl) (pd_ix (pd_ix (pd_var (pv 0)) pd_int (fun _ _ => rfl)) (pd_ix (pd_var (pv 0)) pd_int (fun _ _ => rfl)) (fun _ _ => rfl)))
    (pssd_cons (psd_asg (pd_op op_addU s_add (pd_ix (pd_var (pv 0)) pd_int (fun _ _ => rfl)) pd_int) (pgd_sub (pd_var (pv 0)) pd_int))
    (pssd_one (psd_if (ptd_cmp op_ge s_ge (pd_var (pv 2)) (pd_op op_powW s_pow pd_int pd_int) (nomark _))
    (pssd_one (psd_asg (pd_var (pv 2)) (pgd_sub (pd_var (pv 0)) pd_int)))
    (pssd_one (psd_asg (pd_op op_mod s_mod (pd_callTy call_int1 s_int (by rfl) T.b_int (by decide +kernel) (pad_cons (pd_op op_addU s_add (pd_op op_addU s_add (pd_op op_mulU s_mul (pd_ix (pd_var (pv 0)) pd_int (fun _ _ => rfl)) pd_int) (pd_op op_mulU s_mul (pd_op op_mod s_mod (pd_callTy call_int1 s_int (by rfl) T.b_int (by decide +kernel) (pad_cons (pd_var (pv 2)) pad_nil)) pd_int) pd_int)) pd_int) pad_nil)) pd_int) (pgd_sub (pd_var (pv 0)) pd_int)))))))
    pssd_nil)
    (pssd_cons (psd_if (ptd_cmp op_gt s_gt (pd_ix (pd_var (pv 0)) pd_int (fun _ _ => rfl)) pd_int (nomark _))
    (pssd_cons (psd_set (i := 3) c.nd rfl (Or.inl rfl) (pd_op op_mod s_mod (pd_callTy call_int1 s_int (by rfl) T.b_int (by decide +kernel) (pad_cons (pd_ix (pd_var (pv 0)) pd_int (fun _ _ => rfl)) pad_nil)) (pd_var (pv 1))))
    (pssd_cons (psd_asg (pd_op op_fdivW s_div (pd_ix (pd_var (pv 0)) pd_int (fun _ _ => rfl)) (pd_var (pv 1))) (pgd_sub (pd_var (pv 0)) pd_int))
    (pssd_one (psd_ret (pd_var (pv 3))))))
    pssd_nil)
    (pssd_cons (psd_set (i := 4) c.nd rfl (Or.inl rfl) (pd_ix (pd_var (pv 0)) pd_int (fun _ _ => rfl)))
    (pssd_cons (psd_asg (pd_op op_mod s_mod (pd_callTy call_int1 s_int (by rfl) T.b_int (by decide +kernel) (pad_cons (pd_op op_addU s_add (pd_op op_addU s_add (pd_op op_mulU s_mul (pd_var (pv 4)) (pd_var (pv 4))) (pd_op op_mulU s_mul (pd_var (pv 4)) pd_int)) pd_int) pad_nil)) pd_int) (pgd_sub (pd_var (pv 0)) pd_int))
    (pssd_one (psd_ret (pd_op op_mod s_mod (pd_callTy call_int1 s_int (by rfl) T.b_int (by decide +kernel) (pad_cons (pd_op op_addU s_add (pd_op op_fdivW s_div (pd_ix (pd_var (pv 0)) pd_int (fun _ _ => rfl)) pd_int) (pd_op op_mulU s_mul (pd_op op_mod s_mod (pd_callTy call_int1 s_int (by rfl) T.b_int (by decide +kernel) (pad_cons (pd_ix (pd_var (pv 0)) pd_int (fun _ _ => rfl)) pad_nil)) pd_int) pd_int)) pad_nil)) (pd_var (pv 1)))))))))
theorem ok__law_pull (T : Txt K mg) : DefOk P w K mg base "_law_pull" 1 m__law_pull := def_ok false T.d__law_pull sc__law_pull rfl rfl (fun _ _ _ _ _ _ us hl => match us, hl with | [_, _], _ => rfl) (bd__law_pull T)
theorem bd__law_of (T : Txt K mg) (f : Addr) (cdv : Value) (A : Around) (outer : List PySem.Env) (s : Shared) (H : Hp) (E : XK) (c : Cc (cxOf (L2.CX P w) P w K mg base N__law_of "_law_of" (defScope s__law_of) f cdv A outer s H E) (fun c d _ H' => E c d H') 1) :
    PSs (cxOf (L2.CX P w) P w K mg base N__law_of "_law_of" (defScope s__law_of) f cdv A outer s H E) (defBody s__law_of) (tDS K mg (fun c d _ H' => E c d H') b__law_of) :=
    (pssd_one (psd_ret (pd_ix (pd_var (pv 1)) (pd_call c (ok__law_pull T) (by decide) (by rfl) (pad_cons (pd_var (pv 0)) (pad_cons (pd_callB call_len s_len (by rfl) T.b_len (by decide +kernel) (pad_cons (pd_var (pv 1)) pad_nil)) pad_nil))) (fun _ _ => rfl))))
theorem ok__law_of (T : Txt K mg) : DefOk P w K mg base "_law_of" 2 m__law_of := def_ok false T.d__law_of sc__law_of rfl rfl (fun _ _ _ _ _ _ us hl => match us, hl with | [_, _], _ => rfl) (bd__law_of T)
theorem bd__law_same (T : Txt K mg) (n : Nat) (ih : DefOk P w K mg base "_law_same" (n + 0) (m__law_same n)) (f : Addr) (cdv : Value) (A : Around) (outer : List PySem.Env) (s : Shared) (H : Hp) (E : XK) (c : Cc (cxOf (L2.CX P w) P w K mg base N__law_same "_law_same" (defScope s__law_same) f cdv A outer s H E) (fun c d _ H' => E c d H') (n + 0)) :
    PSs (cxOf (L2.CX P w) P w K mg base N__law_same "_law_same" (defScope s__law_same) f cdv A outer s H E) (defBody s__law_same) (tDS K mg (fun c d _ H' => E c d H') (bR__law_same (m__law_same n))) :=
    (pssd_cons (psd_if (PW.pt (pwd_or (ptd_truth (pd_callB call_isi s_isi (by rfl) T.b_isinstance (by decide +kernel) (pad_cons (pd_var (pv 1)) (pad_cons (pd_c (pe_bltn (v := .ty "list") (by rfl) T.b_list (by decide +kernel) rfl) (fun _ => .ty "list")) pad_nil)))) (pwd_or1 (ptd_truth (pd_callB call_isi s_isi (by rfl) T.b_isinstance (by decide +kernel) (pad_cons (pd_var (pv 1)) (pad_cons (pd_c (pe_bltn (v := .ty "tuple") (by rfl) T.b_tuple (by decide +kernel) rfl) (fun _ => .ty "tuple")) pad_nil)))))))
    (pssd_cons (psd_if (PW.pt (pwd_or (ptd_cmp (op_neU c.room) s_ne (pd_callB call_isi s_isi (by rfl) T.b_isinstance (by decide +kernel) (pad_cons (pd_var (pv 0)) (pad_cons (pd_c (pe_bltn (v := .ty "list") (by rfl) T.b_list (by decide +kernel) rfl) (fun _ => .ty "list")) pad_nil))) (pd_callB call_isi s_isi (by rfl) T.b_isinstance (by decide +kernel) (pad_cons (pd_var (pv 1)) (pad_cons (pd_c (pe_bltn (v := .ty "list") (by rfl) T.b_list (by decide +kernel) rfl) (fun _ => .ty "list")) pad_nil))) (nomark _)) (pwd_or1 (ptd_cmp (op_neU c.room) s_ne (pd_callB call_isi s_isi (by rfl) T.b_isinstance (by decide +kernel) (pad_cons (pd_var (pv 0)) (pad_cons (pd_c (pe_bltn (v := .ty "tuple") (by rfl) T.b_tuple (by decide +kernel) rfl) (fun _ => .ty "tuple")) pad_nil))) (pd_callB call_isi s_isi (by rfl) T.b_isinstance (by decide +kernel) (pad_cons (pd_var (pv 1)) (pad_cons (pd_c (pe_bltn (v := .ty "tuple") (by rfl) T.b_tuple (by decide +kernel) rfl) (fun _ => .ty "tuple")) pad_nil))) (nomark _)))))
    (pssd_one (psd_ret pd_bl))
    pssd_nil)
    (pssd_one (psd_ret (pd_and (pd_cmp (op_eqU c.room) s_eq (pd_callB call_len s_len (by rfl) T.b_len (by decide +kernel) (pad_cons (pd_var (pv 0)) pad_nil)) (pd_callB call_len s_len (by rfl) T.b_len (by decide +kernel) (pad_cons (pd_var (pv 1)) pad_nil)) (nomark _)) (pd_one (pd_callB (cr_all c.calm) s_all (by rfl) T.b_all (by decide +kernel) (pad_cons (pd_lc (own := [("_law_one", 2), ("_law_other", 3)]) c.calm c.nd (pid_zip (by rfl) T.b_zip (pad_cons (pd_var (pv 0)) (pad_cons (pd_var (pv 1)) pad_nil))) (blkOk_by (own := [("_law_one", 2), ("_law_other", 3)]) (N := N__law_same) (sc := defScope s__law_same) (by decide +kernel)) (fun s0 H0 C0 cl0 fp0 => (pgv_tup (c.blk s0 H0 _ _ fp0).calm (pgsv_cons (pgv_name (pg_name (i := 2) (c.blk s0 H0 _ _ fp0).nd rfl (Or.inl rfl)) (by decide)) (pgsv_cons (pgv_name (pg_name (i := 3) (c.blk s0 H0 _ _ fp0).nd rfl (Or.inl rfl)) (by decide)) pgsv_nil)))) (fun s0 H0 C0 cl0 fp0 => ptsd_nil) (fun s0 H0 C0 cl0 fp0 => (pd_call (c.blk s0 H0 _ _ fp0) ih (by omega) (by rfl) (pad_cons (pd_var (pv 2)) (pad_cons (pd_var (pv 3)) pad_nil))))) pad_nil)))))))
    pssd_nil)
    (pssd_cons (psd_if (ptd_truth (pd_callB call_isi s_isi (by rfl) T.b_isinstance (by decide +kernel) (pad_cons (pd_var (pv 1)) (pad_cons (pd_c (pe_bltn (v := .ty "dict") (by rfl) T.b_dict (by decide +kernel) rfl) (fun _ => .ty "dict")) pad_nil))))
    (pssd_one (psd_ret (pd_and (pd_callB call_isi s_isi (by rfl) T.b_isinstance (by decide +kernel) (pad_cons (pd_var (pv 0)) (pad_cons (pd_c (pe_bltn (v := .ty "dict") (by rfl) T.b_dict (by decide +kernel) rfl) (fun _ => .ty "dict")) pad_nil))) (pd_and (pd_call c ih (by omega) (by rfl) (pad_cons pd_bad (pad_cons pd_bad pad_nil))) (pd_one (pd_callB (cr_all c.calm) s_all (by rfl) T.b_all (by decide +kernel) (pad_cons (pd_lc (own := [("_law_key", 4)]) c.calm c.nd (pid_seq (pd_callTy call_list_of (s_list false) (by rfl) T.b_list (by decide +kernel) (pad_cons (pd_var (pv 1)) pad_nil))) (blkOk_by (own := [("_law_key", 4)]) (N := N__law_same) (sc := defScope s__law_same) (by decide +kernel)) (fun s0 H0 C0 cl0 fp0 => (pgv_name (pg_name (i := 4) (c.blk s0 H0 _ _ fp0).nd rfl (Or.inl rfl)) (by decide))) (fun s0 H0 C0 cl0 fp0 => ptsd_nil) (fun s0 H0 C0 cl0 fp0 => (pd_call (c.blk s0 H0 _ _ fp0) ih (by omega) (by rfl) (pad_cons (pd_ix (pd_var (pv 0)) (pd_var (pv 4)) (fun _ _ => rfl)) (pad_cons (pd_ix (pd_var (pv 1)) (pd_var (pv 4)) (fun _ _ => rfl)) pad_nil))))) pad_nil)))))))
    pssd_nil)
    (pssd_cons (psd_if (PW.pt (pwd_or (ptd_cmp op_isU s_is (pd_var (pv 1)) pd_non (nomark _)) (pwd_or1 (ptd_cmp op_isU s_is (pd_var (pv 0)) pd_non (nomark _)))))
    (pssd_one (psd_ret (pd_and (pd_cmp op_isU s_is (pd_var (pv 1)) pd_non (nomark _)) (pd_one (pd_cmp op_isU s_is (pd_var (pv 0)) pd_non (nomark _))))))
    pssd_nil)
    (pssd_cons (psd_if (PW.pt (pwd_or (ptd_cmp (op_neU c.room) s_ne (pd_callB call_isi s_isi (by rfl) T.b_isinstance (by decide +kernel) (pad_cons (pd_var (pv 0)) (pad_cons (pd_c (pe_bltn (v := .ty "bool") (by rfl) T.b_bool (by decide +kernel) rfl) (fun _ => .ty "bool")) pad_nil))) (pd_callB call_isi s_isi (by rfl) T.b_isinstance (by decide +kernel) (pad_cons (pd_var (pv 1)) (pad_cons (pd_c (pe_bltn (v := .ty "bool") (by rfl) T.b_bool (by decide +kernel) rfl) (fun _ => .ty "bool")) pad_nil))) (nomark _)) (pwd_or1 (ptd_cmp (op_neU c.room) s_ne (pd_callB call_isi s_isi (by rfl) T.b_isinstance (by decide +kernel) (pad_cons (pd_var (pv 0)) (pad_cons (pd_c (pe_bltn (v := .ty "int") (by rfl) T.b_int (by decide +kernel) rfl) (fun _ => .ty "int")) pad_nil))) (pd_callB call_isi s_isi (by rfl) T.b_isinstance (by decide +kernel) (pad_cons (pd_var (pv 1)) (pad_cons (pd_c (pe_bltn (v := .ty "int") (by rfl) T.b_int (by decide +kernel) rfl) (fun _ => .ty "int")) pad_nil))) (nomark _)))))
    (pssd_one (psd_ret pd_bl))
    pssd_nil)
    (pssd_one (psd_ret (pd_and (pd_cmp (op_eqU c.room) s_eq (pd_callB call_isi s_isi (by rfl) T.b_isinstance (by decide +kernel) (pad_cons (pd_var (pv 0)) (pad_cons (pd_c (pe_bltn (v := .ty "str") (by rfl) T.b_str (by decide +kernel) rfl) (fun _ => .ty "str")) pad_nil))) (pd_callB call_isi s_isi (by rfl) T.b_isinstance (by decide +kernel) (pad_cons (pd_var (pv 1)) (pad_cons (pd_c (pe_bltn (v := .ty "str") (by rfl) T.b_str (by decide +kernel) rfl) (fun _ => .ty "str")) pad_nil))) (nomark _)) (pd_one (pd_cmp (op_eqU c.room) s_eq (pd_var (pv 0)) (pd_var (pv 1)) (nomark _))))))))))
theorem ok__law_same (T : Txt K mg) : ∀ n, DefOk P w K mg base "_law_same" (n + 0) (m__law_same n)
  | 0 => def_bad T.d__law_same
  | n + 1 => by
    have h := def_ok (k := n + 0) false T.d__law_same sc__law_same rfl rfl (fun _ _ _ _ _ _ us hl => match us, hl with | [_, _], _ => rfl) (bd__law_same T n (ok__law_same T n))
    have e : n + 0 + 1 = n + 1 + 0 := by omega
    rw [e] at h
    exact h
theorem bd__law_gcd (T : Txt K mg) (f : Addr) (cdv : Value) (A : Around) (outer : List PySem.Env) (s : Shared) (H : Hp) (E : XK) (c : Cc (cxOf (L2.CX P w) P w K mg base N__law_gcd "_law_gcd" (defScope s__law_gcd) f cdv A outer s H E) (fun c d _ H' => E c d H') 0) :
    PSs (cxOf (L2.CX P w) P w K mg base N__law_gcd "_law_gcd" (defScope s__law_gcd) f cdv A outer s H E) (defBody s__law_gcd) (tDS K mg (fun c d _ H' => E c d H') b__law_gcd) :=
    (pssd_cons (psd_par (i := 0) (j := 1) (fun _ ha => ps_par c.calm c.nd rfl rfl (by decide) rfl rfl ha (by rfl)) (pad_cons (pd_callB call_abs s_abs (by rfl) T.b_abs (by decide +kernel) (pad_cons (pd_var (pv 0)) pad_nil)) (pad_cons (pd_callB call_abs s_abs (by rfl) T.b_abs (by decide +kernel) (pad_cons (pd_var (pv 1)) pad_nil)) pad_nil)))
    (pssd_cons (psd_while (fuel := fuelI 1 1) c.hp (ptd_cmp (op_neU c.room) s_ne (pd_var (pv 1)) pd_int (nomark _))
    (pssd_one (psd_par (i := 0) (j := 1) (fun _ ha => ps_par c.calm c.nd rfl rfl (by decide) rfl rfl ha (by rfl)) (pad_cons (pd_var (pv 1)) (pad_cons (pd_op op_mod s_mod (pd_callTy call_int1 s_int (by rfl) T.b_int (by decide +kernel) (pad_cons (pd_var (pv 0)) pad_nil)) (pd_var (pv 1))) pad_nil)))))
    (pssd_one (psd_ret (pd_var (pv 0))))))
theorem ok__law_gcd (T : Txt K mg) : DefOk P w K mg base "_law_gcd" 1 m__law_gcd := def_ok false T.d__law_gcd sc__law_gcd rfl rfl (fun _ _ _ _ _ _ us hl => match us, hl with | [_, _], _ => rfl) (bd__law_gcd T)
theorem bd__law_lcm (T : Txt K mg) (f : Addr) (cdv : Value) (A : Around) (outer : List PySem.Env) (s : Shared) (H : Hp) (E : XK) (c : Cc (cxOf (L2.CX P w) P w K mg base N__law_lcm "_law_lcm" (defScope s__law_lcm) f cdv A outer s H E) (fun c d _ H' => E c d H') 1) :
    PSs (cxOf (L2.CX P w) P w K mg base N__law_lcm "_law_lcm" (defScope s__law_lcm) f cdv A outer s H E) (defBody s__law_lcm) (tDS K mg (fun c d _ H' => E c d H') b__law_lcm) :=
    (pssd_cons (psd_set (i := 1) c.nd rfl (Or.inl rfl) pd_int)
    (pssd_cons (psd_for c.hp c.calm (pid_seq (pd_var (pv 0))) (pgd_name (pg_name (i := 2) c.nd rfl (Or.inl rfl)))
    (pssd_one (psd_set (i := 1) c.nd rfl (Or.inl rfl) (pd_op op_mulU s_mul (pd_op op_fdivW s_div (pd_var (pv 1)) (pd_call c (ok__law_gcd T) (by decide) (by rfl) (pad_cons (pd_var (pv 1)) (pad_cons (pd_var (pv 2)) pad_nil)))) (pd_var (pv 2))))))
    (pssd_one (psd_ret (pd_var (pv 1))))))
theorem ok__law_lcm (T : Txt K mg) : DefOk P w K mg base "_law_lcm" 2 m__law_lcm := def_ok false T.d__law_lcm sc__law_lcm rfl rfl (fun _ _ _ _ _ _ us hl => match us, hl with | [_], _ => rfl) (bd__law_lcm T)
theorem bd__law_modulus (T : Txt K mg) (f : Addr) (cdv : Value) (A : Around) (outer : List PySem.Env) (s : Shared) (H : Hp) (E : XK) (c : Cc (cxOf (L2.CX P w) P w K mg base N__law_modulus "_law_modulus" (defScope s__law_modulus) f cdv A outer s H E) (fun c d _ H' => E c d H') 2) :
    PSs (cxOf (L2.CX P w) P w K mg base N__law_modulus "_law_modulus" (defScope s__law_modulus) f cdv A outer s H E) (defBody s__law_modulus) (tDS K mg (fun c d _ H' => E c d H') b__law_modulus) :=
    (pssd_cons (psd_set (i := 2) c.nd rfl (Or.inl rfl) (pd_op op_addU s_add pd_int (pd_call c (ok__law_pull T) (by decide) (by rfl) (pad_cons (pd_var (pv 0)) (pad_cons (pd_call c (ok__law_of T) (by decide) (by rfl) (pad_cons (pd_var (pv 0)) (pad_cons (pd_lst (pad_cons pd_int (pad_cons (pd_op op_powW s_pow pd_int pd_int) (pad_cons (pd_op op_powW s_pow pd_int pd_int) pad_nil)))) pad_nil))) pad_nil)))))
    (pssd_one (psd_ret (pd_op op_mulU s_mul (pd_var (pv 2)) (pd_call c (ok__law_of T) (by decide) (by rfl) (pad_cons (pd_var (pv 0)) (pad_cons (pd_lst (pad_cons pd_int (pad_cons (pd_var (pv 1)) pad_nil))) pad_nil)))))))
theorem ok__law_modulus (T : Txt K mg) : DefOk P w K mg base "_law_modulus" 3 m__law_modulus := def_ok false T.d__law_modulus sc__law_modulus rfl rfl (fun _ _ _ _ _ _ us hl => match us, hl with | [_, _], _ => rfl) (bd__law_modulus T)
theorem bd_law (T : Txt K mg) (f : Addr) (cdv : Value) (A : Around) (outer : List PySem.Env) (s : Shared) (H : Hp) (E : XK) (c : Cc (cxOf (L2.CX P w) P w K mg base N_law "law" (defScope s_law) f cdv A outer s H E) (fun c d _ H' => E c d H') 3) :
    PSs (cxOf (L2.CX P w) P w K mg base N_law "law" (defScope s_law) f cdv A outer s H E) (defBody s_law) (tDS K mg (fun c d _ H' => E c d H') b_law) :=
    (pssd_cons (psd_set (i := 1) c.nd rfl (Or.inr rfl) (pd_call c (ok__law_bag T) (by decide) (by rfl) (pad_cons (pd_var (pv 0)) pad_nil)))
    (pssd_cons (psd_for c.hp c.calm (pid_range1 (by rfl) T.b_range (pad_cons pd_int pad_nil)) (pgd_name (pg_name (i := 2) c.nd rfl (Or.inl rfl)))
    (pssd_cons (psd_set (i := 3) c.nd rfl (Or.inr rfl) (pd_op op_addU s_add pd_int (pd_call c (ok__law_pull T) (by decide) (by rfl) (pad_cons (pd_var (pv 1)) (pad_cons pd_int pad_nil)))))
    (pssd_cons (psd_setLc (mu := false) (i := 4) (own := [("_law_k", 14)]) c.calm c.nd rfl rfl (sw_true rfl rfl rfl (by decide +kernel)) (pid_range1 (by rfl) T.b_range (pad_cons (pd_op op_addU s_add pd_int (pd_call c (ok__law_pull T) (by decide) (by rfl) (pad_cons (pd_var (pv 1)) (pad_cons pd_int pad_nil)))) pad_nil)) (blkOk_by (own := [("_law_k", 14)]) (N := N_law) (sc := defScope s_law) (by decide +kernel)) (fun s0 H0 C0 cl0 fp0 => (pgv_name (pg_name (i := 14) (c.blk s0 H0 _ _ fp0).nd rfl (Or.inl rfl)) (by decide))) (fun s0 H0 C0 cl0 fp0 => ptsd_nil) (fun s0 H0 C0 cl0 fp0 => (pd_call (c.blk s0 H0 _ _ fp0) (ok__law_modulus T) (by decide) (by rfl) (pad_cons (pd_var (pv 1)) (pad_cons (pd_var (pv 3)) pad_nil)))))
    (pssd_cons (psd_set (i := 5) c.nd rfl (Or.inr rfl) (pd_call c (ok__law_pull T) (by decide) (by rfl) (pad_cons (pd_var (pv 1)) (pad_cons (pd_op op_powW s_pow pd_int pd_int) pad_nil))))
    (pssd_cons (psd_setLc (mu := false) (i := 6) (own := [("_law_m", 15)]) c.calm c.nd rfl rfl (sw_true rfl rfl rfl (by decide +kernel)) (pid_seq (pd_var (pv 4))) (blkOk_by (own := [("_law_m", 15)]) (N := N_law) (sc := defScope s_law) (by decide +kernel)) (fun s0 H0 C0 cl0 fp0 => (pgv_name (pg_name (i := 15) (c.blk s0 H0 _ _ fp0).nd rfl (Or.inl rfl)) (by decide))) (fun s0 H0 C0 cl0 fp0 => ptsd_nil) (fun s0 H0 C0 cl0 fp0 => (pd_tup (pad_cons (pd_op op_mod s_mod (pd_callTy call_int1 s_int (by rfl) T.b_int (by decide +kernel) (pad_cons (pd_var (pv 5)) pad_nil)) (pd_var (pv 15))) (pad_cons (pd_var (pv 15)) pad_nil)))))
    (pssd_cons (psd_set (i := 7) c.nd rfl (Or.inl rfl) (pd_call c (ok__law_lcm T) (by decide) (by rfl) (pad_cons (pd_var (pv 4)) pad_nil)))
    (pssd_cons (psd_if (ptd_not (ptd_truth (pd_call c (ok__law_same T 3) (by decide) (by rfl) (pad_cons (pd_call c (ok_common_rounds T) (by decide) (by rfl) (pad_cons (pd_var (pv 6)) pad_nil)) (pad_cons (pd_tup (pad_cons (pd_op op_mod s_mod (pd_callTy call_int1 s_int (by rfl) T.b_int (by decide +kernel) (pad_cons (pd_var (pv 5)) pad_nil)) (pd_var (pv 7))) (pad_cons (pd_var (pv 7)) pad_nil))) pad_nil)))))
    (pssd_one (psd_ret pd_bl))
    pssd_nil)
    (pssd_cons (psd_set (i := 8) c.nd rfl (Or.inl rfl) (pd_call c (ok__law_pull T) (by decide) (by rfl) (pad_cons (pd_var (pv 1)) (pad_cons (pd_callB call_len s_len (by rfl) T.b_len (by decide +kernel) (pad_cons (pd_var (pv 6)) pad_nil)) pad_nil))))
    (pssd_cons (psd_set (i := 9) c.nd rfl (Or.inl rfl) (pd_callTy call_list_of (s_list true) (by rfl) T.b_list (by decide +kernel) (pad_cons (pd_var (pv 6)) pad_nil)))
    (pssd_cons (psd_frz (i := 9) (psd_asg (pd_tup (pad_cons (pd_op op_mod s_mod (pd_callTy call_int1 s_int (by rfl) T.b_int (by decide +kernel) (pad_cons (pd_op op_addU s_add (pd_ix (pd_ix (pd_var (pv 6)) (pd_var (pv 8)) (fun _ _ => rfl)) pd_int (fun _ _ => rfl)) pd_int) pad_nil)) (pd_ix (pd_var (pv 4)) (pd_var (pv 8)) (fun _ _ => rfl))) (pad_cons (pd_ix (pd_var (pv 4)) (pd_var (pv 8)) (fun _ _ => rfl)) pad_nil))) (pgd_sub (pd_var (pv 9)) (pd_var (pv 8)))))
    (pssd_cons (psd_setLc (mu := false) (i := 10) (own := [("_law_one", 16), ("_law_other", 17)]) c.calm c.nd rfl rfl (sw_true rfl rfl rfl (by decide +kernel)) (pid_zip (by rfl) T.b_zip (pad_cons (pd_op op_mulU s_mul (pd_lst (pad_cons (pd_ix (pd_var (pv 9)) (pd_var (pv 8)) (fun _ _ => rfl)) pad_nil)) (pd_callB call_len s_len (by rfl) T.b_len (by decide +kernel) (pad_cons (pd_var (pv 9)) pad_nil))) (pad_cons (pd_var (pv 9)) pad_nil))) (blkOk_by (own := [("_law_one", 16), ("_law_other", 17)]) (N := N_law) (sc := defScope s_law) (by decide +kernel)) (fun s0 H0 C0 cl0 fp0 => (pgv_tup (c.blk s0 H0 _ _ fp0).calm (pgsv_cons (pgv_name (pg_name (i := 16) (c.blk s0 H0 _ _ fp0).nd rfl (Or.inl rfl)) (by decide)) (pgsv_cons (pgv_name (pg_name (i := 17) (c.blk s0 H0 _ _ fp0).nd rfl (Or.inl rfl)) (by decide)) pgsv_nil)))) (fun s0 H0 C0 cl0 fp0 => (ptsd_one (ptd_cmp (op_neU (c.blk s0 H0 _ _ fp0).room) s_ne (pd_op op_mod s_mod (pd_op op_sub s_sub (pd_ix (pd_var (pv 16)) pd_int (fun _ _ => rfl)) (pd_ix (pd_var (pv 17)) pd_int (fun _ _ => rfl))) (pd_call (c.blk s0 H0 _ _ fp0) (ok__law_gcd T) (by decide) (by rfl) (pad_cons (pd_ix (pd_var (pv 16)) pd_int (fun _ _ => rfl)) (pad_cons (pd_ix (pd_var (pv 17)) pd_int (fun _ _ => rfl)) pad_nil)))) pd_int (nomark _)))) (fun s0 H0 C0 cl0 fp0 => (pd_tup (pad_cons (pd_var (pv 16)) (pad_cons (pd_var (pv 17)) pad_nil)))))
    (pssd_cons (psd_set (i := 11) c.nd rfl (Or.inr rfl) (pd_call c (ok_common_rounds T) (by decide) (by rfl) (pad_cons (pd_var (pv 9)) pad_nil)))
    (pssd_cons (psd_if (ptd_cmp (op_neU c.room) s_ne (pd_cmp op_isU s_is (pd_var (pv 11)) pd_non (nomark _)) (pd_cmp (op_neU c.room) s_ne (pd_var (pv 10)) (pd_lst pad_nil) (nomark _)) (nomark _))
    (pssd_one (psd_ret pd_bl))
    pssd_nil)
    (pssd_one (psd_if (PW.pt (pwd_and (ptd_cmp op_isNotU s_isNot (pd_var (pv 11)) pd_non (nomark _)) (pwd_and1 (PW.pt (pwd_or (ptd_cmp (op_neU c.room) s_ne (pd_ix (pd_var (pv 11)) pd_int (fun _ _ => rfl)) (pd_var (pv 7)) (nomark _)) (pwd_or (ptd_not (ptd_chain op_le s_le op_lt s_lt pd_int (pd_ix (pd_var (pv 11)) pd_int (fun _ _ => rfl)) (pd_var (pv 7)))) (pwd_or1 (ptd_cmp (op_neU c.room) s_ne (pd_lc (own := [("_law_r", 18), ("_law_m", 15)]) c.calm c.nd (pid_seq (pd_var (pv 9))) (blkOk_by (own := [("_law_r", 18), ("_law_m", 15)]) (N := N_law) (sc := defScope s_law) (by decide +kernel)) (fun s0 H0 C0 cl0 fp0 => (pgv_tup (c.blk s0 H0 _ _ fp0).calm (pgsv_cons (pgv_name (pg_name (i := 18) (c.blk s0 H0 _ _ fp0).nd rfl (Or.inl rfl)) (by decide)) (pgsv_cons (pgv_name (pg_name (i := 15) (c.blk s0 H0 _ _ fp0).nd rfl (Or.inl rfl)) (by decide)) pgsv_nil)))) (fun s0 H0 C0 cl0 fp0 => ptsd_nil) (fun s0 H0 C0 cl0 fp0 => (pd_op op_mod s_mod (pd_callTy call_int1 s_int (by rfl) T.b_int (by decide +kernel) (pad_cons (pd_ix (pd_var (pv 11)) pd_int (fun _ _ => rfl)) pad_nil)) (pd_var (pv 15))))) (pd_lc (own := [("_law_r", 18), ("_law_m", 15)]) c.calm c.nd (pid_seq (pd_var (pv 9))) (blkOk_by (own := [("_law_r", 18), ("_law_m", 15)]) (N := N_law) (sc := defScope s_law) (by decide +kernel)) (fun s0 H0 C0 cl0 fp0 => (pgv_tup (c.blk s0 H0 _ _ fp0).calm (pgsv_cons (pgv_name (pg_name (i := 18) (c.blk s0 H0 _ _ fp0).nd rfl (Or.inl rfl)) (by decide)) (pgsv_cons (pgv_name (pg_name (i := 15) (c.blk s0 H0 _ _ fp0).nd rfl (Or.inl rfl)) (by decide)) pgsv_nil)))) (fun s0 H0 C0 cl0 fp0 => ptsd_nil) (fun s0 H0 C0 cl0 fp0 => (pd_var (pv 18)))) (nomark _)))))))))
    (pssd_one (psd_ret pd_bl))
    pssd_nil)))))))))))))))
    (pssd_cons (psd_set (i := 12) c.nd rfl (Or.inl rfl) (pd_lst (pad_cons (pd_op op_addU s_add (pd_op op_mulU s_mul (pd_op op_powW s_pow (pd_op op_powW s_pow pd_int pd_int) pd_int) (pd_op op_powW s_pow pd_int pd_int)) (pd_call c (ok__law_pull T) (by decide) (by rfl) (pad_cons (pd_var (pv 1)) (pad_cons (pd_op op_powW s_pow pd_int pd_int) pad_nil)))) (pad_cons (pd_op op_addU s_add (pd_op op_powW s_pow (pd_op op_powW s_pow pd_int pd_int) pd_int) (pd_call c (ok__law_pull T) (by decide) (by rfl) (pad_cons (pd_var (pv 1)) (pad_cons (pd_op op_powW s_pow pd_int pd_int) pad_nil)))) pad_nil))))
    (pssd_cons (psd_set (i := 5) c.nd rfl (Or.inr rfl) (pd_op op_addU s_add (pd_op op_powW s_pow (pd_op op_powW s_pow pd_int pd_int) pd_int) (pd_call c (ok__law_pull T) (by decide) (by rfl) (pad_cons (pd_var (pv 1)) (pad_cons (pd_op op_powW s_pow pd_int pd_int) pad_nil)))))
    (pssd_cons (psd_set (i := 13) c.nd rfl (Or.inl rfl) (pd_call c (ok_common_rounds T) (by decide) (by rfl) (pad_cons (pd_lc (own := [("_law_m", 15)]) c.calm c.nd (pid_seq (pd_var (pv 12))) (blkOk_by (own := [("_law_m", 15)]) (N := N_law) (sc := defScope s_law) (by decide +kernel)) (fun s0 H0 C0 cl0 fp0 => (pgv_name (pg_name (i := 15) (c.blk s0 H0 _ _ fp0).nd rfl (Or.inl rfl)) (by decide))) (fun s0 H0 C0 cl0 fp0 => ptsd_nil) (fun s0 H0 C0 cl0 fp0 => (pd_tup (pad_cons (pd_op op_mod s_mod (pd_callTy call_int1 s_int (by rfl) T.b_int (by decide +kernel) (pad_cons (pd_var (pv 5)) pad_nil)) (pd_var (pv 15))) (pad_cons (pd_var (pv 15)) pad_nil))))) pad_nil)))
    (pssd_cons (psd_set (i := 7) c.nd rfl (Or.inl rfl) (pd_call c (ok__law_lcm T) (by decide) (by rfl) (pad_cons (pd_var (pv 12)) pad_nil)))
    (pssd_one (psd_ret (pd_call c (ok__law_same T 3) (by decide) (by rfl) (pad_cons (pd_var (pv 13)) (pad_cons (pd_tup (pad_cons (pd_op op_mod s_mod (pd_callTy call_int1 s_int (by rfl) T.b_int (by decide +kernel) (pad_cons (pd_var (pv 5)) pad_nil)) (pd_var (pv 7))) (pad_cons (pd_var (pv 7)) pad_nil))) pad_nil)))))))))))
end
theorem law_ok {P : Program} {w : World} {K : PySem.W.Frag} {mg : Str → Option Value} {base : Heap} {f : Addr} {fd : FuncData} (T : Txt K mg) (F : Fun K "law" "law" s_law f fd) (h : ∀ ns : List Int, ns.length ≤ 63 → ∃ m, m_law [.d (.fls (ns.map .int))] [] = .ok (.d (.bl true)) m) : FnOk P w K mg base (L2.CX P w) 4 f fd ["_law_script"] (spLawH K) :=
  (fun_ok (mu := false) F sc_law rfl rfl fun cdv A outer s H E hr => bd_law T f cdv A outer s H E ⟨takes_of rfl rfl rfl rfl, passes_of rfl, sc_law.nd, rfl, hr⟩).imp (law_imp h)
theorem all_mk {l : PySem.W.OpenLaw} {w : World} {K : PySem.W.Frag} {h : Heap} {mg : Str → Option Value} {fa : Addr} (X : K.In h) (G : h.Ns mainGlobals mg) (hfa : mg "law" = some (.ref fa))
    {f0 : Addr} {od0 an0 : Option Addr} {sl0 : Array (Option Value)} {oc0 kV0 dc0 pm0 cd0 ct0 : Value}
    {f1 : Addr} {od1 an1 : Option Addr} {sl1 : Array (Option Value)} {oc1 kV1 dc1 pm1 cd1 ct1 : Value}
    {f2 : Addr} {od2 an2 : Option Addr} {sl2 : Array (Option Value)} {oc2 kV2 dc2 pm2 cd2 ct2 : Value}
    {f3 : Addr} {od3 an3 : Option Addr} {sl3 : Array (Option Value)} {oc3 kV3 dc3 pm3 cd3 ct3 : Value}
    {f4 : Addr} {od4 an4 : Option Addr} {sl4 : Array (Option Value)} {oc4 kV4 dc4 pm4 cd4 ct4 : Value}
    {f5 : Addr} {od5 an5 : Option Addr} {sl5 : Array (Option Value)} {oc5 kV5 dc5 pm5 cd5 ct5 : Value}
    {f6 : Addr} {od6 an6 : Option Addr} {sl6 : Array (Option Value)} {oc6 kV6 dc6 pm6 cd6 ct6 : Value}
    {f7 : Addr} {od7 an7 : Option Addr} {sl7 : Array (Option Value)} {oc7 kV7 dc7 pm7 cd7 ct7 : Value}
    {f8 : Addr} {od8 an8 : Option Addr} {sl8 : Array (Option Value)} {oc8 kV8 dc8 pm8 cd8 ct8 : Value}
    {f9 : Addr} {od9 an9 : Option Addr} {sl9 : Array (Option Value)} {oc9 kV9 dc9 pm9 cd9 ct9 : Value}
    {f10 : Addr} {od10 an10 : Option Addr} {sl10 : Array (Option Value)} {oc10 kV10 dc10 pm10 cd10 ct10 : Value}
    {f11 : Addr} {od11 an11 : Option Addr} {sl11 : Array (Option Value)} {oc11 kV11 dc11 pm11 cd11 ct11 : Value}
    {f12 : Addr} {od12 an12 : Option Addr} {sl12 : Array (Option Value)} {oc12 kV12 dc12 pm12 cd12 ct12 : Value}
    (a0 : PySem.W.nsIn K mainGlobals "greatest_divisor" = some (some (.ref f0))) (l0 : K.lookup f0 = some ⟨oc0, od0, .func (PySem.W.fnOf "greatest_divisor" "greatest_divisor" (defArgs s_greatest_divisor) (defBody s_greatest_divisor) (defScope s_greatest_divisor) .none kV0 dc0 pm0 an0 cd0 ct0), sl0⟩) (c0 : PySem.W.codeIn K cd0 "greatest_divisor" = true) (k0 : PySem.W.keepIn K (.ref f0) = true)
    (a1 : PySem.W.nsIn K mainGlobals "reciprocal" = some (some (.ref f1))) (l1 : K.lookup f1 = some ⟨oc1, od1, .func (PySem.W.fnOf "reciprocal" "reciprocal" (defArgs s_reciprocal) (defBody s_reciprocal) (defScope s_reciprocal) .none kV1 dc1 pm1 an1 cd1 ct1), sl1⟩) (c1 : PySem.W.codeIn K cd1 "reciprocal" = true) (k1 : PySem.W.keepIn K (.ref f1) = true)
    (a2 : PySem.W.nsIn K mainGlobals "agree" = some (some (.ref f2))) (l2 : K.lookup f2 = some ⟨oc2, od2, .func (PySem.W.fnOf "agree" "agree" (defArgs s_agree) (defBody s_agree) (defScope s_agree) .none kV2 dc2 pm2 an2 cd2 ct2), sl2⟩) (c2 : PySem.W.codeIn K cd2 "agree" = true) (k2 : PySem.W.keepIn K (.ref f2) = true)
    (a3 : PySem.W.nsIn K mainGlobals "joined" = some (some (.ref f3))) (l3 : K.lookup f3 = some ⟨oc3, od3, .func (PySem.W.fnOf "joined" "joined" (defArgs s_joined) (defBody s_joined) (defScope s_joined) .none kV3 dc3 pm3 an3 cd3 ct3), sl3⟩) (c3 : PySem.W.codeIn K cd3 "joined" = true) (k3 : PySem.W.keepIn K (.ref f3) = true)
    (a4 : PySem.W.nsIn K mainGlobals "common_rounds" = some (some (.ref f4))) (l4 : K.lookup f4 = some ⟨oc4, od4, .func (PySem.W.fnOf "common_rounds" "common_rounds" (defArgs s_common_rounds) (defBody s_common_rounds) (defScope s_common_rounds) .none kV4 dc4 pm4 an4 cd4 ct4), sl4⟩) (c4 : PySem.W.codeIn K cd4 "common_rounds" = true) (k4 : PySem.W.keepIn K (.ref f4) = true)
    (a5 : PySem.W.nsIn K mainGlobals "_law_bag" = some (some (.ref f5))) (l5 : K.lookup f5 = some ⟨oc5, od5, .func (PySem.W.fnOf "_law_bag" "_law_bag" (defArgs s__law_bag) (defBody s__law_bag) (defScope s__law_bag) .none kV5 dc5 pm5 an5 cd5 ct5), sl5⟩) (c5 : PySem.W.codeIn K cd5 "_law_bag" = true) (k5 : PySem.W.keepIn K (.ref f5) = true)
    (a6 : PySem.W.nsIn K mainGlobals "_law_pull" = some (some (.ref f6))) (l6 : K.lookup f6 = some ⟨oc6, od6, .func (PySem.W.fnOf "_law_pull" "_law_pull" (defArgs s__law_pull) (defBody s__law_pull) (defScope s__law_pull) .none kV6 dc6 pm6 an6 cd6 ct6), sl6⟩) (c6 : PySem.W.codeIn K cd6 "_law_pull" = true) (k6 : PySem.W.keepIn K (.ref f6) = true)
    (a7 : PySem.W.nsIn K mainGlobals "_law_of" = some (some (.ref f7))) (l7 : K.lookup f7 = some ⟨oc7, od7, .func (PySem.W.fnOf "_law_of" "_law_of" (defArgs s__law_of) (defBody s__law_of) (defScope s__law_of) .none kV7 dc7 pm7 an7 cd7 ct7), sl7⟩) (c7 : PySem.W.codeIn K cd7 "_law_of" = true) (k7 : PySem.W.keepIn K (.ref f7) = true)
    (a8 : PySem.W.nsIn K mainGlobals "_law_same" = some (some (.ref f8))) (l8 : K.lookup f8 = some ⟨oc8, od8, .func (PySem.W.fnOf "_law_same" "_law_same" (defArgs s__law_same) (defBody s__law_same) (defScope s__law_same) .none kV8 dc8 pm8 an8 cd8 ct8), sl8⟩) (c8 : PySem.W.codeIn K cd8 "_law_same" = true) (k8 : PySem.W.keepIn K (.ref f8) = true)
    (a9 : PySem.W.nsIn K mainGlobals "_law_gcd" = some (some (.ref f9))) (l9 : K.lookup f9 = some ⟨oc9, od9, .func (PySem.W.fnOf "_law_gcd" "_law_gcd" (defArgs s__law_gcd) (defBody s__law_gcd) (defScope s__law_gcd) .none kV9 dc9 pm9 an9 cd9 ct9), sl9⟩) (c9 : PySem.W.codeIn K cd9 "_law_gcd" = true) (k9 : PySem.W.keepIn K (.ref f9) = true)
    (a10 : PySem.W.nsIn K mainGlobals "_law_lcm" = some (some (.ref f10))) (l10 : K.lookup f10 = some ⟨oc10, od10, .func (PySem.W.fnOf "_law_lcm" "_law_lcm" (defArgs s__law_lcm) (defBody s__law_lcm) (defScope s__law_lcm) .none kV10 dc10 pm10 an10 cd10 ct10), sl10⟩) (c10 : PySem.W.codeIn K cd10 "_law_lcm" = true) (k10 : PySem.W.keepIn K (.ref f10) = true)
    (a11 : PySem.W.nsIn K mainGlobals "_law_modulus" = some (some (.ref f11))) (l11 : K.lookup f11 = some ⟨oc11, od11, .func (PySem.W.fnOf "_law_modulus" "_law_modulus" (defArgs s__law_modulus) (defBody s__law_modulus) (defScope s__law_modulus) .none kV11 dc11 pm11 an11 cd11 ct11), sl11⟩) (c11 : PySem.W.codeIn K cd11 "_law_modulus" = true) (k11 : PySem.W.keepIn K (.ref f11) = true)
    (a12 : PySem.W.nsIn K mainGlobals "law" = some (some (.ref f12))) (l12 : K.lookup f12 = some ⟨oc12, od12, .func (PySem.W.fnOf "law" "law" (defArgs s_law) (defBody s_law) (defScope s_law) .none kV12 dc12 pm12 an12 cd12 ct12), sl12⟩) (c12 : PySem.W.codeIn K cd12 "law" = true) (k12 : PySem.W.keepIn K (.ref f12) = true)
    (z_abs : PySem.W.nsIn K mainGlobals "abs" = some none)
    (z_all : PySem.W.nsIn K mainGlobals "all" = some none)
    (z_bool : PySem.W.nsIn K mainGlobals "bool" = some none)
    (z_dict : PySem.W.nsIn K mainGlobals "dict" = some none)
    (z_enumerate : PySem.W.nsIn K mainGlobals "enumerate" = some none)
    (z_int : PySem.W.nsIn K mainGlobals "int" = some none)
    (z_isinstance : PySem.W.nsIn K mainGlobals "isinstance" = some none)
    (z_len : PySem.W.nsIn K mainGlobals "len" = some none)
    (z_list : PySem.W.nsIn K mainGlobals "list" = some none)
    (z_range : PySem.W.nsIn K mainGlobals "range" = some none)
    (z_str : PySem.W.nsIn K mainGlobals "str" = some none)
    (z_tuple : PySem.W.nsIn K mainGlobals "tuple" = some none)
    (z_zip : PySem.W.nsIn K mainGlobals "zip" = some none) :
    ∃ fd : FuncData, (∀ (s : Shared) (v : Value), BindsTo s fd ⟨[v], []⟩ [("_law_script", v)]) ∧ ∀ base : Heap, K.In base → base.Ns mainGlobals mg → FnOk l.prog w K mg base (L2.CX l.prog w) 4 fa fd ["_law_script"] (spLawH K) := by
  have e := hfa.symm.trans (PySem.W.mg_of X G a12)
  cases e
  have T : Txt K mg := ⟨PySem.W.mg_none_of X G z_abs, PySem.W.mg_none_of X G z_all, PySem.W.mg_none_of X G z_bool, PySem.W.mg_none_of X G z_dict, PySem.W.mg_none_of X G z_enumerate, PySem.W.mg_none_of X G z_int, PySem.W.mg_none_of X G z_isinstance, PySem.W.mg_none_of X G z_len, PySem.W.mg_none_of X G z_list, PySem.W.mg_none_of X G z_range, PySem.W.mg_none_of X G z_str, PySem.W.mg_none_of X G z_tuple, PySem.W.mg_none_of X G z_zip, ⟨_, _, fun_mk (st := s_greatest_divisor) l0 c0 k0, PySem.W.mg_of X G a0⟩, ⟨_, _, fun_mk (st := s_reciprocal) l1 c1 k1, PySem.W.mg_of X G a1⟩, ⟨_, _, fun_mk (st := s_agree) l2 c2 k2, PySem.W.mg_of X G a2⟩, ⟨_, _, fun_mk (st := s_joined) l3 c3 k3, PySem.W.mg_of X G a3⟩, ⟨_, _, fun_mk (st := s_common_rounds) l4 c4 k4, PySem.W.mg_of X G a4⟩, ⟨_, _, fun_mk (st := s__law_bag) l5 c5 k5, PySem.W.mg_of X G a5⟩, ⟨_, _, fun_mk (st := s__law_pull) l6 c6 k6, PySem.W.mg_of X G a6⟩, ⟨_, _, fun_mk (st := s__law_of) l7 c7 k7, PySem.W.mg_of X G a7⟩, ⟨_, _, fun_mk (st := s__law_same) l8 c8 k8, PySem.W.mg_of X G a8⟩, ⟨_, _, fun_mk (st := s__law_gcd) l9 c9 k9, PySem.W.mg_of X G a9⟩, ⟨_, _, fun_mk (st := s__law_lcm) l10 c10 k10, PySem.W.mg_of X G a10⟩, ⟨_, _, fun_mk (st := s__law_modulus) l11 c11 k11, PySem.W.mg_of X G a11⟩, ⟨_, _, fun_mk (st := s_law) l12 c12 k12, PySem.W.mg_of X G a12⟩⟩
  exact ⟨_, fun s v => .of_eq rfl, fun base _ _ => law_ok T (fun_mk (st := s_law) l12 c12 k12) main_law⟩
end GD
open PySem PySem.W PyProof.Rows
set_option maxRecDepth 100000 in
set_option maxHeartbeats 0 in
theorem PySem.Challenge.cw_pileports_k34_great_common_remainders_holds : PySem.Challenge.rw_pileports_k34_great_common_remainders.Holds := by
  w_on; o_law; k_head; (case hw => w_witness2)
  k_fill
  refine L2.walk_of (l := PySem.Challenge.rw_pileports_k34_great_common_remainders) (n := 63) (k := 4) (x := "_law_script") (CX := fun w => L2.CX PySem.Challenge.pw_pileports_k34_great_common_remainders w) (sp := fun w => GD.spLawH _) rfl (by decide) rfl ⟨rfl, by decide, by decide⟩ (fun w h Y => PySem.W.kIn_of Y) ?F (fun _ _ a ns hl _ hS => ⟨a, ns, rfl, hl, hS, fun _ => rfl⟩) (fun _ _ _ _ _ h => by obtain ⟨_, _, _, _, _, _, _, _, _, _, _, _, z⟩ := h; exact z)
  case F =>
    intro w mg fa h KX G hmg
    refine' GD.all_mk (l := PySem.Challenge.rw_pileports_k34_great_common_remainders) KX G hmg ?a0 ?l0 ?c0 ?k0 ?a1 ?l1 ?c1 ?k1 ?a2 ?l2 ?c2 ?k2 ?a3 ?l3 ?c3 ?k3 ?a4 ?l4 ?c4 ?k4 ?a5 ?l5 ?c5 ?k5 ?a6 ?l6 ?c6 ?k6 ?a7 ?l7 ?c7 ?k7 ?a8 ?l8 ?c8 ?k8 ?a9 ?l9 ?c9 ?k9 ?a10 ?l10 ?c10 ?k10 ?a11 ?l11 ?c11 ?k11 ?a12 ?l12 ?c12 ?k12 ?z_abs ?z_all ?z_bool ?z_dict ?z_enumerate ?z_int ?z_isinstance ?z_len ?z_list ?z_range ?z_str ?z_tuple ?z_zip
    (case a0 => k_is)
    (case l0 => k_is)
    (case c0 => k_is)
    (case k0 => k_is)
    (case a1 => k_is)
    (case l1 => k_is)
    (case c1 => k_is)
    (case k1 => k_is)
    (case a2 => k_is)
    (case l2 => k_is)
    (case c2 => k_is)
    (case k2 => k_is)
    (case a3 => k_is)
    (case l3 => k_is)
    (case c3 => k_is)
    (case k3 => k_is)
    (case a4 => k_is)
    (case l4 => k_is)
    (case c4 => k_is)
    (case k4 => k_is)
    (case a5 => k_is)
    (case l5 => k_is)
    (case c5 => k_is)
    (case k5 => k_is)
    (case a6 => k_is)
    (case l6 => k_is)
    (case c6 => k_is)
    (case k6 => k_is)
    (case a7 => k_is)
    (case l7 => k_is)
    (case c7 => k_is)
    (case k7 => k_is)
    (case a8 => k_is)
    (case l8 => k_is)
    (case c8 => k_is)
    (case k8 => k_is)
    (case a9 => k_is)
    (case l9 => k_is)
    (case c9 => k_is)
    (case k9 => k_is)
    (case a10 => k_is)
    (case l10 => k_is)
    (case c10 => k_is)
    (case k10 => k_is)
    (case a11 => k_is)
    (case l11 => k_is)
    (case c11 => k_is)
    (case k11 => k_is)
    (case a12 => k_is)
    (case l12 => k_is)
    (case c12 => k_is)
    (case k12 => k_is)
    (case z_abs => k_is)
    (case z_all => k_is)
    (case z_bool => k_is)
    (case z_dict => k_is)
    (case z_enumerate => k_is)
    (case z_int => k_is)
    (case z_isinstance => k_is)
    (case z_len => k_is)
    (case z_list => k_is)
    (case z_range => k_is)
    (case z_str => k_is)
    (case z_tuple => k_is)
    (case z_zip => k_is)
